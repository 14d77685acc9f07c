import PyProof.Rows.All
import Wide.All
import OpenK.AllK
import Wide.FinOn
import HandS.ForMost
import HandS.Exc
import HandS.TryOnly
import HandS.ExcOwn
import HandS.WordsExc
import HandS.CallSlots
import HandS.Star
import HandS.Defaults
import HandS.MakeKw
import HandS.Wide
import HandS.Deep
import PyProof.StrLawsIn
import HandS.TupAny
import HandS.TupLe
import HandS.TupMul
import HandS.IsInst
import KE.KDictCopyH
import HandS.Walk
import HandS.NoneIn
import HandS.DictComp
import KE.KDictKeyed
import KE.GoesNew
import KE.KDictZip
import HandS.Zip0
import KE.DataFind
import HandS.RaiseMore
import HandS.SetFor
import HandS.Text
import HandS.Small
import HandS.MakeKwOnly
import HandS.Style
import KE.KStateDown
import HandS.Base
import HandS.Call
import HandS.Ends
import HandS.Head0
import HandS.Head1
import HandS.Head2
import HandS.HeadEnd
import HandS.HeadHook1
import HandS.HeadHook2
import HandS.Codes
import HandS.Dict
import HandS.Conv
import PySem.Challenge.RW_visitslips_k22_whole_puts_exchanged
set_option Elab.async false
set_option linter.all false
set_option maxRecDepth 100000
set_option maxHeartbeats 1900000
/-! DL0: values without a heap, mini heaps of cells, what they stand for. -/
namespace L2
open PyProof.Rows PySem PySem.Spec
/-- an argument without a star, then others -/
abbrev ArgAt (X : Cx) (e : Expr) (es : List Expr) : Prop := starEach (e :: es) X.env = (false, eval e X.env) :: starEach es X.env
/-- one argument without a star -/
abbrev OneAt (X : Cx) (e : Expr) : Prop := starEach [e] X.env = [(false, eval e X.env)]
/-- no star among the others -/
abbrev FlatAt (X : Cx) (pos : Pos) (es : List Expr) : Prop := (backTo pos (starEach es X.env)).any (·.1) = false
/-- neither a star nor two stars -/
abbrev FlatKw (X : Cx) (pos : Pos) (es : List Expr) (kws : List Keyword) : Prop := ((backTo pos (starEach es X.env)).any (·.1) || (backToKw pos (keywordEach kws X.env)).any (·.1.isNone)) = false
/-- the object of an attribute is evaluated plainly -/
abbrev BaseAt (X : Cx) (o : Expr) (name : Str) : Prop := attributeBase o name X.env (eval o X.env) = eval o X.env
/-- few arguments, none of them starred -/
abbrev FewAt (X : Cx) (cpos : Pos) (es : List Expr) : Prop := ((backTo cpos (starEach es X.env)).all (fun x => !x.1) && ((backToKw cpos (keywordEach [] X.env)).all (fun x => x.1.isSome)) &&
  decide (es.length + ([] : List Keyword).length + (if ([] : List Keyword).isEmpty then 0 else 1) < 30)) = true
/-- a call that stands on its name's row -/
abbrev RowAt (apos cpos : Pos) : Prop := (apos.endLine == cpos.line) = true
end L2
namespace DL
open L2 PyProof.Rows PySem PySem.Spec

/-- a value as data -/
inductive D where
  | non | bl (b : Bool) | int (i : Int) | str (x : Str)
  | tup (ds : List D) | lst (ds : List D) | scr (ds : List D) | dct (ks vs : List D)
  | obj (c : Str) (ns : List Str) (ds : List D)
  | glo (x : Str) | ty (n : String)
  /-- a dict of n keys that are tuples (just counted) -/
  | dkn (n : Nat)
/-- a value as a def holds it: data, or a changing thing by its number -/
inductive W where
  | d (x : D) | cell (n : Nat)
/-- what a changing thing holds -/
inductive C where
  | lst (ds : List D) | dct (ks : List D) (ws : List W) | obj (c : Str) (ns : List Str) (ws : List W)
abbrev Cs := List (Option C)
/-- where the cells stand; g: what a comprehension is filling (nobody sees it) -/
structure Ca where
  l : List (Option Addr)
  g : Addr → Prop
/-- an exception: class, fields -/
structure Ex where
  c : Str
  ns : List Str
  ds : List D
/-- what a step comes to -/
inductive R (α : Type) where
  | ok (a : α) (cc : Cs) | raise (x : Ex) (cc : Cs) | stuck
abbrev Env := List (Option W)
def R.bind {α β : Type} (r : R α) (f : α → Cs → R β) : R β := match r with
  | .ok a cc => f a cc
  | .raise x cc => .raise x cc
  | .stuck => .stuck
abbrev M (α : Type) := Cs → R α
abbrev ME := Env → M W

/-- a tuple of the module's own text -/
def KTup (K : PySem.W.Frag) (a : Addr) (xs : List V) : Prop :=
  ∃ (ob : Obj) (its : Array Value) (k : Nat), K.lookup a = some ob ∧ ob.cls = .type "tuple" ∧ ob.data = .seq its k ∧ its.size ≤ sizeLine ∧ Vals xs its.toList
/-- a list of the module's own text -/
def KLst (K : PySem.W.Frag) (a : Addr) (xs : List V) : Prop :=
  ∃ (ob : Obj) (its : Array Value) (k : Nat), K.lookup a = some ob ∧ ob.cls = .type "list" ∧ ob.dict = none ∧ ob.data = .seq its k ∧ its.size ≤ sizeLine ∧ Vals xs its.toList
/-- a tuple, tracked or of the text -/
def TupAt (K : PySem.W.Frag) (H : Hp) (a : Addr) (vs : List V) : Prop := H a = some (.tup vs) ∨ KTup K a vs
theorem lst_sq {K : PySem.W.Frag} {L : Addr → Prop} {H : Hp} {a : Addr} {vs : List V} (h : (¬ L a ∧ ∃ o, H a = some (.frz o (.lst vs))) ∨ KLst K a vs) : SqL K H a vs := h.elim (fun z => .inl (.inr z.2)) .inr
theorem TupAt.sq {K : PySem.W.Frag} {H : Hp} {a : Addr} {vs : List V} (h : TupAt K H a vs) : SqT K H a vs := h.elim (fun z => .inl (.inl z)) .inr
/-- a key of a dict, as data -/
def keyD : Key → D
  | .inl i => .int i
  | .inr x => .str x
/-- a dict's entries -/
def DAt (H : Hp) (a : Addr) (ks : List D) (vs : List V) : Prop :=
  ∃ kvs : List (Key × V), H a = some (.dK kvs) ∧ kvs.map (fun p => keyD p.1) = ks ∧ kvs.map (·.2) = vs

/-- a dict by its entries alone -/
def RawD (a : Addr) (es : List DictEntry) : HO := .ext fun h => (a == sysModules) = false ∧ es.length ≤ sizeLine ∧ ∃ o ep, h.get? a = some o ∧ o.ExactDict ∧ o.data = .dict es.toArray ep
section
variable (K : PySem.W.Frag) (mg : Str → Option Value) (L : Addr → Prop) (H : Hp)
mutual
/-- the value v is the data; L: the addresses that may still change -/
def DenD : D → V → Prop
  | .non, v => v = .non
  | .bl b, v => v = .bl b
  | .int i, v => v = .int i
  | .str x, v => v = .str x
  | .tup ds, v => ∃ a vs, v = .ref a ∧ ((¬ L a ∧ H a = some (.tup vs)) ∨ KTup K a vs) ∧ DenL ds vs
  | .lst ds, v => ∃ a vs, v = .ref a ∧ ¬ L a ∧ H a = some (.lst vs) ∧ DenL ds vs
  | .scr ds, v => ∃ a vs, v = .ref a ∧ ((¬ L a ∧ ∃ o, H a = some (.frz o (.lst vs))) ∨ KLst K a vs) ∧ DenL ds vs
  | .dct ks ds, v => ∃ a vs, v = .ref a ∧ ¬ L a ∧ DAt H a ks vs ∧ DenL ds vs
  | .obj c ns ds, v => ∃ a Cl dx vs, v = .ref a ∧ ¬ L a ∧ mg c = some (.ref Cl) ∧ H a = some (.ins Cl dx (ns.zip vs)) ∧ ns.length = vs.length ∧ DenL ds vs
  | .glo x, v => ∃ a, mg x = some (.ref a) ∧ v = .ref a
  | .ty n, v => v = .ty n
  | .dkn n, v => ∃ a es, v = .ref a ∧ ¬ L a ∧ H a = some (RawD a es) ∧ es.length = n
def DenL : List D → List V → Prop
  | [], vs => vs = []
  | x :: xs, vs => ∃ v vr, vs = v :: vr ∧ DenD x v ∧ DenL xs vr
end
end

/-- nothing that does not change any more is touched -/
def Kp (L : Addr → Prop) (H : Hp) (L' : Addr → Prop) (H' : Hp) : Prop := ∀ a o, H a = some o → ¬ L a → H' a = some o ∧ ¬ L' a
theorem Kp.refl (L : Addr → Prop) (H : Hp) : Kp L H L H := fun _ _ h n => ⟨h, n⟩
theorem Kp.trans {L L1 L2' : Addr → Prop} {H H1 H2 : Hp} (p : Kp L H L1 H1) (q : Kp L1 H1 L2' H2) : Kp L H L2' H2 := fun a o h n => by
  obtain ⟨h1, n1⟩ := p a o h n
  exact q a o h1 n1

section
variable {K : PySem.W.Frag} {mg : Str → Option Value} {L L' : Addr → Prop} {H H' : Hp}
theorem Kp.rd (p : Kp L H L' H') {a : Addr} {u : HO} (n : ¬ L a) (h : Rd H a u) : Rd H' a u ∧ ¬ L' a := by
  rcases h with h | ⟨o, h⟩
  · exact ⟨.inl (p a _ h n).1, (p a _ h n).2⟩
  · exact ⟨.inr ⟨o, (p a _ h n).1⟩, (p a _ h n).2⟩
theorem Kp.dat (p : Kp L H L' H') {a : Addr} {ks : List D} {vs : List V} (n : ¬ L a) (h : DAt H a ks vs) : DAt H' a ks vs ∧ ¬ L' a := by
  obtain ⟨kvs, h1, h2, h3⟩ := h
  obtain ⟨q1, q2⟩ := p a _ h1 n
  exact ⟨⟨kvs, q1, h2, h3⟩, q2⟩
mutual
theorem DenD.mono (p : Kp L H L' H') : ∀ (x : D) (v : V), DenD K mg L H x v → DenD K mg L' H' x v
  | .non, _, h => h
  | .bl _, _, h => h
  | .int _, _, h => h
  | .str _, _, h => h
  | .tup ds, v, h => by
    simp only [DenD] at h ⊢
    obtain ⟨a, vs, rfl, h1, h2⟩ := h
    refine ⟨a, vs, rfl, ?_, DenL.mono p ds vs h2⟩
    rcases h1 with ⟨n, h1⟩ | h1
    · obtain ⟨q1, q2⟩ := p a _ h1 n
      exact .inl ⟨q2, q1⟩
    · exact .inr h1
  | .lst ds, v, h => by
    simp only [DenD] at h ⊢
    obtain ⟨a, vs, rfl, n, h1, h2⟩ := h
    obtain ⟨q1, q2⟩ := p a _ h1 n
    exact ⟨a, vs, rfl, q2, q1, DenL.mono p ds vs h2⟩
  | .scr ds, v, h => by
    simp only [DenD] at h ⊢
    obtain ⟨a, vs, rfl, lies, h2⟩ := h
    refine ⟨a, vs, rfl, lies.imp ?_ id, DenL.mono p ds vs h2⟩
    rintro ⟨n, o, h1⟩
    obtain ⟨q1, q2⟩ := p a _ h1 n
    exact ⟨q2, o, q1⟩
  | .dct ks ds, v, h => by
    simp only [DenD] at h ⊢
    obtain ⟨a, vs, rfl, n, h1, h2⟩ := h
    obtain ⟨q1, q2⟩ := p.dat n h1
    exact ⟨a, vs, rfl, q2, q1, DenL.mono p ds vs h2⟩
  | .obj c ns ds, v, h => by
    simp only [DenD] at h ⊢
    obtain ⟨a, Cl, dx, vs, rfl, n, h0, h1, hl, h2⟩ := h
    obtain ⟨q1, q2⟩ := p a _ h1 n
    exact ⟨a, Cl, dx, vs, rfl, q2, h0, q1, hl, DenL.mono p ds vs h2⟩
  | .glo x, _, h => by
    simp only [DenD] at h ⊢
    exact h
  | .ty _, _, h => h
  | .dkn n, v, h => by
    simp only [DenD] at h ⊢
    obtain ⟨a, es, rfl, n, h1, h2⟩ := h
    obtain ⟨q1, q2⟩ := p a _ h1 n
    exact ⟨a, es, rfl, q2, q1, h2⟩
theorem DenL.mono (p : Kp L H L' H') : ∀ (xs : List D) (vs : List V), DenL K mg L H xs vs → DenL K mg L' H' xs vs
  | [], _, h => h
  | x :: xs, vs, h => by
    simp only [DenL] at h ⊢
    obtain ⟨v, vr, rfl, h1, h2⟩ := h
    exact ⟨v, vr, rfl, DenD.mono p x v h1, DenL.mono p xs vr h2⟩
end
theorem DenL.length : ∀ {xs : List D} {vs : List V}, DenL K mg L H xs vs → vs.length = xs.length
  | [], vs, h => by
    have e : vs = [] := h
    rw [e]
    rfl
  | x :: xs, vs, h => by
    obtain ⟨v, vr, rfl, _, h2⟩ := h
    simp [DenL.length h2]
theorem DenL.get : ∀ {xs : List D} {vs : List V} {i : Nat} {x : D}, DenL K mg L H xs vs → xs[i]? = some x → ∃ v, vs[i]? = some v ∧ DenD K mg L H x v
  | [], _, i, x, _, e => by simp at e
  | y :: xs, vs, 0, x, h, e => by
    obtain ⟨v, vr, rfl, h1, _⟩ := h
    simp at e
    subst e
    exact ⟨v, rfl, h1⟩
  | y :: xs, vs, i + 1, x, h, e => by
    obtain ⟨v, vr, rfl, _, h2⟩ := h
    simpa using DenL.get (i := i) h2 (by simpa using e)
theorem DenL.append : ∀ {xs ys : List D} {vs us : List V}, DenL K mg L H xs vs → DenL K mg L H ys us → DenL K mg L H (xs ++ ys) (vs ++ us)
  | [], ys, vs, us, h, h' => by
    have e : vs = [] := h
    subst e
    simpa using h'
  | x :: xs, ys, vs, us, h, h' => by
    obtain ⟨v, vr, rfl, h1, h2⟩ := h
    exact ⟨v, vr ++ us, rfl, h1, DenL.append h2 h'⟩
theorem DenL.snoc {xs : List D} {vs : List V} {x : D} {v : V} (h : DenL K mg L H xs vs) (h' : DenD K mg L H x v) : DenL K mg L H (xs ++ [x]) (vs ++ [v]) :=
  h.append ⟨v, [], rfl, h', rfl⟩
theorem DenL.take : ∀ {xs : List D} {vs : List V} (n : Nat), DenL K mg L H xs vs → DenL K mg L H (xs.take n) (vs.take n)
  | _, vs, 0, _ => by simp only [List.take_zero]; exact rfl
  | [], vs, n + 1, h => by
    have e : vs = [] := h
    subst e
    exact rfl
  | x :: xs, vs, n + 1, h => by
    obtain ⟨v, vr, rfl, h1, h2⟩ := h
    exact ⟨v, vr.take n, rfl, h1, DenL.take n h2⟩
theorem DenL.drop : ∀ {xs : List D} {vs : List V} (n : Nat), DenL K mg L H xs vs → DenL K mg L H (xs.drop n) (vs.drop n)
  | _, vs, 0, h => by simpa using h
  | [], vs, n + 1, h => by
    have e : vs = [] := h
    subst e
    exact rfl
  | x :: xs, vs, n + 1, h => by
    obtain ⟨v, vr, rfl, h1, h2⟩ := h
    simpa using DenL.drop n h2
theorem DenL.reverse : ∀ {xs : List D} {vs : List V}, DenL K mg L H xs vs → DenL K mg L H xs.reverse vs.reverse
  | [], vs, h => by
    have e : vs = [] := h
    subst e
    exact rfl
  | x :: xs, vs, h => by
    obtain ⟨v, vr, rfl, h1, h2⟩ := h
    simp only [List.reverse_cons]
    exact (DenL.reverse h2).snoc h1
theorem DenL.set : ∀ {xs : List D} {vs : List V} (i : Nat) {x : D} {v : V}, DenL K mg L H xs vs → DenD K mg L H x v → DenL K mg L H (xs.set i x) (vs.set i v)
  | [], vs, i, x, v, h, _ => by
    have e : vs = [] := h
    subst e
    exact rfl
  | y :: xs, vs, 0, x, v, h, h' => by
    obtain ⟨u, vr, rfl, h1, h2⟩ := h
    exact ⟨v, vr, rfl, h', h2⟩
  | y :: xs, vs, i + 1, x, v, h, h' => by
    obtain ⟨u, vr, rfl, h1, h2⟩ := h
    exact ⟨u, vr.set i v, rfl, h1, DenL.set i h2 h'⟩
theorem DenL.eraseIdx : ∀ {xs : List D} {vs : List V} (i : Nat), DenL K mg L H xs vs → DenL K mg L H (xs.eraseIdx i) (vs.eraseIdx i)
  | [], vs, i, h => by
    have e : vs = [] := h
    subst e
    exact rfl
  | y :: xs, vs, 0, h => by
    obtain ⟨u, vr, rfl, h1, h2⟩ := h
    simpa using h2
  | y :: xs, vs, i + 1, h => by
    obtain ⟨u, vr, rfl, h1, h2⟩ := h
    exact ⟨u, vr.eraseIdx i, rfl, h1, DenL.eraseIdx i h2⟩
end

/-! ### cells -/
def Live (ca : Ca) (a : Addr) : Prop := some a ∈ ca.l ∨ ca.g a
def Ca.snoc (ca : Ca) (p : Addr) : Ca := ⟨ca.l ++ [some p], ca.g⟩
def Ca.del (ca : Ca) (n : Nat) : Ca := ⟨ca.l.set n none, ca.g⟩
def Ca.cut (ca : Ca) (n : Nat) : Ca := ⟨ca.l.take n, ca.g⟩
section
variable (K : PySem.W.Frag) (mg : Str → Option Value) (ca : Ca) (H : Hp)
def DenW : W → V → Prop
  | .d x, v => DenD K mg (Live ca) H x v
  | .cell n, v => n < ca.l.length ∧ ∀ a, ca.l[n]? = some (some a) → v = .ref a
def DenWs : List W → List V → Prop
  | [], vs => vs = []
  | x :: xs, vs => ∃ v vr, vs = v :: vr ∧ DenW K mg ca H x v ∧ DenWs xs vr
/-- what stands at a cell -/
def DenC : C → Addr → Prop
  | .lst ds, a => ∃ vs, H a = some (.lst vs) ∧ DenL K mg (Live ca) H ds vs
  | .dct ks ws, a => ∃ kvs : List (Key × V), H a = some (.dK kvs) ∧ kvs.map (fun p => keyD p.1) = ks ∧ DenWs K mg ca H ws (kvs.map (·.2))
  | .obj c ns ws, a => ∃ Cl dx vs, mg c = some (.ref Cl) ∧ H a = some (.ins Cl dx (ns.zip vs)) ∧ ns.length = vs.length ∧ DenWs K mg ca H ws vs
structure CsOk (cc : Cs) : Prop where
  len : ca.l.length = cc.length
  at_ : ∀ (n : Nat) (a : Addr), ca.l[n]? = some (some a) → ∃ c, cc[n]? = some (some c) ∧ DenC K mg ca H c a
  live : ∀ (n : Nat) (c : C), cc[n]? = some (some c) → ∃ a, ca.l[n]? = some (some a)
  inj : ∀ (n m : Nat) (a : Addr), ca.l[n]? = some (some a) → ca.l[m]? = some (some a) → n = m
  gh : ∀ a, ca.g a → ∃ o, H a = some o ∧ Mut (some o)
  gd : ∀ (n : Nat) (a : Addr), ca.l[n]? = some (some a) → ¬ ca.g a
/-- the def's names -/
structure EnvOk (env : Env) (σ : L2.St) : Prop where
  len : σ.length = env.length
  at_ : ∀ (i : Nat) (w : W), env[i]? = some (some w) → ∃ v, σ[i]? = some (some v) ∧ DenW K mg ca H w v
end
/-- what keeps the meaning of values -/
structure Mn (ca : Ca) (H : Hp) (ca' : Ca) (H' : Hp) : Prop where
  len : ca.l.length ≤ ca'.l.length
  old : ∀ (n : Nat) (a : Addr), n < ca.l.length → ca'.l[n]? = some (some a) → ca.l[n]? = some (some a)
  kp : Kp (Live ca) H (Live ca') H'
/-- from one state to a later one -/
structure Stp (ca : Ca) (H : Hp) (ca' : Ca) (H' : Hp) : Prop extends Mn ca H ca' H' where
  gEq : ca'.g = ca.g
  gKp : ∀ a, ca.g a → H' a = H a
theorem Mn.refl (ca : Ca) (H : Hp) : Mn ca H ca H := ⟨Nat.le_refl _, fun _ _ _ h => h, Kp.refl _ _⟩
theorem Mn.trans {ca ca1 ca2 : Ca} {H H1 H2 : Hp} (p : Mn ca H ca1 H1) (q : Mn ca1 H1 ca2 H2) : Mn ca H ca2 H2 :=
  ⟨Nat.le_trans p.len q.len, fun n a h e => p.old n a h (q.old n a (Nat.lt_of_lt_of_le h p.len) e), p.kp.trans q.kp⟩
theorem Stp.refl (ca : Ca) (H : Hp) : Stp ca H ca H := ⟨Mn.refl _ _, rfl, fun _ _ => rfl⟩
theorem Stp.trans {ca ca1 ca2 : Ca} {H H1 H2 : Hp} (p : Stp ca H ca1 H1) (q : Stp ca1 H1 ca2 H2) : Stp ca H ca2 H2 :=
  ⟨p.toMn.trans q.toMn, q.gEq.trans p.gEq, fun a h => (q.gKp a (by rw [p.gEq]; exact h)).trans (p.gKp a h)⟩
section
variable {K : PySem.W.Frag} {mg : Str → Option Value} {ca ca' : Ca} {H H' : Hp}
theorem DenW.mn (p : Mn ca H ca' H') : ∀ {w : W} {v : V}, DenW K mg ca H w v → DenW K mg ca' H' w v
  | .d x, v, h => DenD.mono p.kp x v h
  | .cell n, v, h => ⟨Nat.lt_of_lt_of_le h.1 p.len, fun a e => h.2 a (p.old n a h.1 e)⟩
theorem DenWs.mn (p : Mn ca H ca' H') : ∀ {ws : List W} {vs : List V}, DenWs K mg ca H ws vs → DenWs K mg ca' H' ws vs
  | [], _, h => h
  | _ :: _, _, ⟨v, vr, e, h1, h2⟩ => ⟨v, vr, e, h1.mn p, h2.mn p⟩
theorem EnvOk.mn {env : Env} {σ : L2.St} (p : Mn ca H ca' H') (h : EnvOk K mg ca H env σ) : EnvOk K mg ca' H' env σ := ⟨h.len, fun i w e => by
  obtain ⟨v, e1, d⟩ := h.at_ i w e
  exact ⟨v, e1, d.mn p⟩⟩
theorem DenC.mn {c : C} {a : Addr} (p : Mn ca H ca' H') (e : H' a = H a) (h : DenC K mg ca H c a) : DenC K mg ca' H' c a := by
  cases c with
  | lst ds => obtain ⟨vs, h1, h2⟩ := h; exact ⟨vs, e.trans h1, DenL.mono p.kp _ _ h2⟩
  | dct ks ws => obtain ⟨kvs, h1, h2, h3⟩ := h; exact ⟨kvs, e.trans h1, h2, h3.mn p⟩
  | obj c ns ws => obtain ⟨Cl, dx, vs, h0, h1, hl, h2⟩ := h; exact ⟨Cl, dx, vs, h0, e.trans h1, hl, h2.mn p⟩
end
section
variable {K : PySem.W.Frag} {mg : Str → Option Value} {ca ca' : Ca} {H H' : Hp}
theorem DenW.mono (p : Stp ca H ca' H') : ∀ {w : W} {v : V}, DenW K mg ca H w v → DenW K mg ca' H' w v
  | .d x, v, h => DenD.mono p.kp x v h
  | .cell n, v, h => ⟨Nat.lt_of_lt_of_le h.1 p.len, fun a e => h.2 a (p.old n a h.1 e)⟩
theorem DenWs.mono (p : Stp ca H ca' H') : ∀ {ws : List W} {vs : List V}, DenWs K mg ca H ws vs → DenWs K mg ca' H' ws vs
  | [], _, h => h
  | _ :: _, _, ⟨v, vr, e, h1, h2⟩ => ⟨v, vr, e, h1.mono p, h2.mono p⟩
theorem DenWs.length : ∀ {ws : List W} {vs : List V}, DenWs K mg ca H ws vs → vs.length = ws.length
  | [], vs, h => by
    have e : vs = [] := h
    rw [e]
    rfl
  | x :: xs, vs, h => by
    obtain ⟨v, vr, rfl, _, h2⟩ := h
    simp [DenWs.length h2]
theorem DenWs.get : ∀ {xs : List W} {vs : List V} {i : Nat} {x : W}, DenWs K mg ca H xs vs → xs[i]? = some x → ∃ v, vs[i]? = some v ∧ DenW K mg ca H x v
  | [], _, i, x, _, e => by simp at e
  | y :: xs, vs, 0, x, h, e => by
    obtain ⟨v, vr, rfl, h1, _⟩ := h
    simp at e
    subst e
    exact ⟨v, rfl, h1⟩
  | y :: xs, vs, i + 1, x, h, e => by
    obtain ⟨v, vr, rfl, _, h2⟩ := h
    simpa using DenWs.get (i := i) h2 (by simpa using e)
theorem DenWs.append : ∀ {xs ys : List W} {vs us : List V}, DenWs K mg ca H xs vs → DenWs K mg ca H ys us → DenWs K mg ca H (xs ++ ys) (vs ++ us)
  | [], ys, vs, us, h, h' => by
    have e : vs = [] := h
    subst e
    simpa using h'
  | x :: xs, ys, vs, us, h, h' => by
    obtain ⟨v, vr, rfl, h1, h2⟩ := h
    exact ⟨v, vr ++ us, rfl, h1, DenWs.append h2 h'⟩
theorem DenWs.set : ∀ {xs : List W} {vs : List V} (i : Nat) {x : W} {v : V}, DenWs K mg ca H xs vs → DenW K mg ca H x v → DenWs K mg ca H (xs.set i x) (vs.set i v)
  | [], vs, i, x, v, h, _ => by
    have e : vs = [] := h
    subst e
    exact rfl
  | y :: xs, vs, 0, x, v, h, h' => by
    obtain ⟨u, vr, rfl, h1, h2⟩ := h
    exact ⟨v, vr, rfl, h', h2⟩
  | y :: xs, vs, i + 1, x, v, h, h' => by
    obtain ⟨u, vr, rfl, h1, h2⟩ := h
    exact ⟨u, vr.set i v, rfl, h1, DenWs.set i h2 h'⟩
theorem EnvOk.mono {env : Env} {σ : L2.St} (p : Stp ca H ca' H') (h : EnvOk K mg ca H env σ) : EnvOk K mg ca' H' env σ := ⟨h.len, fun i w e => by
  obtain ⟨v, e1, d⟩ := h.at_ i w e
  exact ⟨v, e1, d.mono p⟩⟩
theorem EnvOk.set {env : Env} {σ : L2.St} {i : Nat} {w : W} {v : V} (h : EnvOk K mg ca H env σ) (d : DenW K mg ca H w v) : EnvOk K mg ca H (env.set i (some w)) (σ.set i (some v)) := ⟨by simp [h.len], fun j u e => by
  by_cases hj : i = j
  · subst hj
    by_cases hl : i < env.length
    · rw [List.getElem?_set_self hl] at e
      cases e
      exact ⟨v, by rw [List.getElem?_set_self (by rw [h.len]; exact hl)], d⟩
    · rw [List.getElem?_eq_none (by simpa using hl)] at e
      cases e
  · rw [List.getElem?_set_ne hj] at e
    obtain ⟨v', e1, d1⟩ := h.at_ j u e
    exact ⟨v', by rw [List.getElem?_set_ne hj]; exact e1, d1⟩⟩
theorem EnvOk.unset {env : Env} {σ : L2.St} {i : Nat} (h : EnvOk K mg ca H env σ) : EnvOk K mg ca H (env.set i none) (σ.set i none) := ⟨by simp [h.len], fun j u e => by
  by_cases hj : i = j
  · subst hj
    by_cases hl : i < env.length
    · rw [List.getElem?_set_self hl] at e
      cases e
    · rw [List.getElem?_eq_none (by simpa using hl)] at e
      cases e
  · rw [List.getElem?_set_ne hj] at e
    obtain ⟨v', e1, d1⟩ := h.at_ j u e
    exact ⟨v', by rw [List.getElem?_set_ne hj]; exact e1, d1⟩⟩
theorem CsOk.mut {cc : Cs} (h : CsOk K mg ca H cc) {a : Addr} (l : Live ca a) : ∃ o, H a = some o ∧ Mut (some o) := by
  rcases l with l | l
  · obtain ⟨n, hn⟩ := List.getElem?_of_mem l
    obtain ⟨c, _, d⟩ := h.at_ n a hn
    cases c with
    | lst ds => obtain ⟨vs, e, _⟩ := d; exact ⟨_, e, True.intro⟩
    | dct ks ws => obtain ⟨kvs, e, _⟩ := d; exact ⟨_, e, True.intro⟩
    | obj c ns ws => obtain ⟨Cl, dx, vs, _, e, _⟩ := d; exact ⟨_, e, True.intro⟩
  · exact h.gh a l
theorem CsOk.tracked {cc : Cs} (h : CsOk K mg ca H cc) {a : Addr} (l : Live ca a) : ∃ o, H a = some o := let ⟨o, e, _⟩ := h.mut l; ⟨o, e⟩
theorem Live.of {n : Nat} {a : Addr} (e : ca.l[n]? = some (some a)) : Live ca a := .inl (List.mem_of_getElem? e)
theorem CsOk.gNew {cc : Cs} (h : CsOk K mg ca H cc) {p : Addr} (hp : H p = none) : ¬ ca.g p := fun z => by
  obtain ⟨o, e, _⟩ := h.gh p z
  rw [hp] at e
  cases e
/-- a new object that is no cell -/
theorem Kp.new {L : Addr → Prop} {p : Addr} {o : HO} (h : H p = none) : Kp L H L (upd H p o) := fun a u e n => ⟨by rw [upd_ne (ne_of_none e h)]; exact e, n⟩
theorem Stp.new {cc : Cs} {p : Addr} {o : HO} (hc : CsOk K mg ca H cc) (h : H p = none) : Stp ca H ca (upd H p o) := ⟨⟨Nat.le_refl _, fun _ _ _ e => e, Kp.new h⟩, rfl, fun a g => upd_ne fun z => hc.gNew h (z ▸ g)⟩
theorem DenC.mono {c : C} {a : Addr} (p : Stp ca H ca' H') (e : H' a = H a) (h : DenC K mg ca H c a) : DenC K mg ca' H' c a := by
  cases c with
  | lst ds => obtain ⟨vs, h1, h2⟩ := h; exact ⟨vs, e.trans h1, DenL.mono p.kp _ _ h2⟩
  | dct ks ws => obtain ⟨kvs, h1, h2, h3⟩ := h; exact ⟨kvs, e.trans h1, h2, h3.mono p⟩
  | obj c ns ws => obtain ⟨Cl, dx, vs, h0, h1, hl, h2⟩ := h; exact ⟨Cl, dx, vs, h0, e.trans h1, hl, h2.mono p⟩
theorem CsOk.new {cc : Cs} {p : Addr} {o : HO} (h : CsOk K mg ca H cc) (hp : H p = none) : CsOk K mg ca (upd H p o) cc := by
  refine ⟨h.len, fun n a e => ?_, h.live, h.inj, fun a g => ?_, h.gd⟩
  · obtain ⟨c, e1, d⟩ := h.at_ n a e
    obtain ⟨u, hu⟩ := h.tracked (Live.of e)
    exact ⟨c, e1, d.mono (Stp.new h hp) (upd_ne (ne_of_none hu hp))⟩
  · obtain ⟨u, e, m⟩ := h.gh a g
    exact ⟨u, by rw [upd_ne (ne_of_none e hp)]; exact e, m⟩
/-- a new cell -/
theorem live_snoc {a p : Addr} : Live (ca.snoc p) a ↔ Live ca a ∨ a = p := by
  unfold Live Ca.snoc
  simp only [List.mem_append, List.mem_singleton, Option.some.injEq]
  constructor
  · rintro ((h | h) | h)
    · exact .inl (.inl h)
    · exact .inr h
    · exact .inl (.inr h)
  · rintro ((h | h) | h)
    · exact .inl (.inl h)
    · exact .inr h
    · exact .inl (.inr h)
theorem snoc_lt {n : Nat} {p : Addr} (h : n < ca.l.length) : (ca.snoc p).l[n]? = ca.l[n]? := List.getElem?_append_left h
theorem snoc_eq {p : Addr} : (ca.snoc p).l[ca.l.length]? = some (some p) := by
  unfold Ca.snoc
  rw [List.getElem?_append_right (Nat.le_refl _)]
  simp
theorem snoc_len {p : Addr} : (ca.snoc p).l.length = ca.l.length + 1 := by simp [Ca.snoc]
theorem snoc_split {k : Nat} {p b : Addr} (e : (ca.snoc p).l[k]? = some (some b)) : (ca.l[k]? = some (some b)) ∨ (k = ca.l.length ∧ b = p) := by
  by_cases hk : k < ca.l.length
  · rw [snoc_lt hk] at e
    exact .inl e
  · have e0 : k = ca.l.length := by
      have := (List.getElem?_eq_some_iff.mp e).1
      rw [snoc_len] at this
      omega
    subst e0
    rw [snoc_eq] at e
    cases e
    exact .inr ⟨rfl, rfl⟩
theorem Stp.cell {cc : Cs} {p : Addr} {o : HO} (hc : CsOk K mg ca H cc) (h : H p = none) : Stp ca H (ca.snoc p) (upd H p o) :=
  ⟨⟨by rw [snoc_len]; omega, fun n a hl e => by rw [snoc_lt hl] at e; exact e, fun a u e n => ⟨by rw [upd_ne (ne_of_none e h)]; exact e, fun l => by
    rcases live_snoc.mp l with l | l
    · exact n l
    · exact ne_of_none e h l⟩⟩, rfl, fun a g => upd_ne fun z => hc.gNew h (z ▸ g)⟩
theorem CsOk.cell {cc : Cs} {p : Addr} {o : HO} {c : C} (h : CsOk K mg ca H cc) (hp : H p = none) (d : DenC K mg (ca.snoc p) (upd H p o) c p) : CsOk K mg (ca.snoc p) (upd H p o) (cc ++ [some c]) := by
  have np : ∀ n, ca.l[n]? ≠ some (some p) := fun n e => by
    obtain ⟨u, hu⟩ := h.tracked (Live.of e)
    rw [hp] at hu
    cases hu
  refine ⟨by rw [snoc_len]; simp [h.len], fun n a e => ?_, fun n c' e => ?_, fun n m a e1 e2 => ?_, fun a g => ?_, fun n a e => ?_⟩
  · rcases snoc_split e with e | ⟨rfl, rfl⟩
    · obtain ⟨c', e1, d'⟩ := h.at_ n a e
      obtain ⟨u, hu⟩ := h.tracked (Live.of e)
      exact ⟨c', by rw [List.getElem?_append_left (List.getElem?_eq_some_iff.mp e1).1]; exact e1, d'.mono (Stp.cell h hp) (upd_ne (ne_of_none hu hp))⟩
    · exact ⟨c, by rw [h.len, List.getElem?_append_right (Nat.le_refl _)]; simp, d⟩
  · by_cases hn : n < cc.length
    · rw [List.getElem?_append_left hn] at e
      obtain ⟨a, e1⟩ := h.live n c' e
      exact ⟨a, by rw [snoc_lt (by rw [h.len]; exact hn)]; exact e1⟩
    · have e0 : n = cc.length := by
        have := (List.getElem?_eq_some_iff.mp e).1
        simp at this
        omega
      subst e0
      exact ⟨p, by rw [← h.len]; exact snoc_eq⟩
  · rcases snoc_split e1 with q1 | ⟨q1, q1'⟩ <;> rcases snoc_split e2 with q2 | ⟨q2, q2'⟩
    · exact h.inj n m a q1 q2
    · subst q2'
      exact absurd q1 (np n)
    · subst q1'
      exact absurd q2 (np m)
    · rw [q1, q2]
  · obtain ⟨u, e, m⟩ := h.gh a g
    exact ⟨u, by rw [upd_ne (ne_of_none e hp)]; exact e, m⟩
  · rcases snoc_split e with e | ⟨rfl, rfl⟩
    · exact h.gd n a e
    · exact h.gNew hp
/-- a cell's thing is written -/
theorem Stp.write {cc : Cs} {n : Nat} {p : Addr} {o : HO} (hc : CsOk K mg ca H cc) (h : ca.l[n]? = some (some p)) : Stp ca H ca (upd H p o) :=
  ⟨⟨Nat.le_refl _, fun _ _ _ e => e, fun a u e l => ⟨by rw [upd_ne (fun z => l (by subst z; exact Live.of h))]; exact e, l⟩⟩, rfl, fun a g => upd_ne fun z => hc.gd n p h (z ▸ g)⟩
theorem CsOk.write {cc : Cs} {n : Nat} {p : Addr} {o : HO} {c : C} (h : CsOk K mg ca H cc) (hp : ca.l[n]? = some (some p)) (d : DenC K mg ca (upd H p o) c p) : CsOk K mg ca (upd H p o) (cc.set n (some c)) := by
  obtain ⟨c0, hc0, _⟩ := h.at_ n p hp
  have hn : n < cc.length := (List.getElem?_eq_some_iff.mp hc0).1
  refine ⟨by simp [h.len], fun m a e => ?_, fun m c' e => ?_, h.inj, fun a g => ?_, h.gd⟩
  · by_cases hm : n = m
    · subst hm
      rw [hp] at e
      cases e
      exact ⟨c, by rw [List.getElem?_set_self hn], d⟩
    · obtain ⟨c', e1, d'⟩ := h.at_ m a e
      refine ⟨c', by rw [List.getElem?_set_ne hm]; exact e1, d'.mono (Stp.write h hp) (upd_ne fun z => ?_)⟩
      subst z
      exact hm (h.inj n m a hp e)
  · by_cases hm : n = m
    · subst hm
      exact ⟨p, hp⟩
    · rw [List.getElem?_set_ne hm] at e
      exact h.live m c' e
  · obtain ⟨u, e, m⟩ := h.gh a g
    have ne : a ≠ p := fun z => h.gd n p hp (z ▸ g)
    exact ⟨u, by rw [upd_ne ne]; exact e, m⟩
/-- a cell is given up: what stood there changes no more -/
theorem del_ne {n m : Nat} (e : n ≠ m) : (ca.del n).l[m]? = ca.l[m]? := List.getElem?_set_ne e
theorem del_eq {n : Nat} {a : Addr} : (ca.del n).l[n]? ≠ some (some a) := fun e => by
  unfold Ca.del at e
  by_cases hl : n < ca.l.length
  · rw [List.getElem?_set_self hl] at e
    cases e
  · rw [List.getElem?_eq_none (by simpa using hl)] at e
    cases e
theorem del_some {n m : Nat} {a : Addr} (e : (ca.del n).l[m]? = some (some a)) : n ≠ m ∧ ca.l[m]? = some (some a) := by
  have ne : n ≠ m := fun z => by subst z; exact del_eq e
  rw [del_ne ne] at e
  exact ⟨ne, e⟩
theorem live_set_none {n : Nat} {p a : Addr} {cc : Cs} (h : CsOk K mg ca H cc) (hp : ca.l[n]? = some (some p)) : Live (ca.del n) a ↔ Live ca a ∧ a ≠ p := by
  constructor
  · rintro (l | l)
    · obtain ⟨m, hm⟩ := List.getElem?_of_mem l
      obtain ⟨ne, e⟩ := del_some hm
      exact ⟨Live.of e, fun z => by subst z; exact ne (h.inj n m a hp e)⟩
    · exact ⟨.inr l, fun z => by subst z; exact h.gd n a hp l⟩
  · rintro ⟨l | l, ne⟩
    · obtain ⟨m, hm⟩ := List.getElem?_of_mem l
      have e : n ≠ m := fun z => by
        subst z
        rw [hp] at hm
        cases hm
        exact ne rfl
      exact Live.of (n := m) (by rw [del_ne e]; exact hm)
    · exact .inr l
theorem Stp.drop {n : Nat} {p : Addr} {cc : Cs} (h : CsOk K mg ca H cc) (hp : ca.l[n]? = some (some p)) : Stp ca H (ca.del n) H :=
  ⟨⟨by simp [Ca.del], fun m a hl e => (del_some e).2, fun a u e l => ⟨e, fun z => l ((live_set_none h hp).mp z).1⟩⟩, rfl, fun _ _ => rfl⟩
theorem CsOk.drop {n : Nat} {p : Addr} {cc : Cs} (h : CsOk K mg ca H cc) (hp : ca.l[n]? = some (some p)) : CsOk K mg (ca.del n) H (cc.set n none) := by
  refine ⟨by simp [h.len, Ca.del], fun m a e => ?_, fun m c' e => ?_, fun m k a e1 e2 => h.inj m k a (del_some e1).2 (del_some e2).2, h.gh, fun m a e => h.gd m a (del_some e).2⟩
  · obtain ⟨ne, e⟩ := del_some e
    obtain ⟨c', e1, d'⟩ := h.at_ m a e
    exact ⟨c', by rw [List.getElem?_set_ne ne]; exact e1, d'.mono (Stp.drop h hp) rfl⟩
  · by_cases hm : n = m
    · subst hm
      rw [List.getElem?_set_self (List.getElem?_eq_some_iff.mp (show cc[n]? = some _ from (h.at_ n p hp).choose_spec.1)).1] at e
      cases e
    · rw [List.getElem?_set_ne hm] at e
      obtain ⟨a, q⟩ := h.live m c' e
      exact ⟨a, by rw [del_ne hm]; exact q⟩
end
end DL
set_option Elab.async false
set_option linter.all false
set_option maxRecDepth 100000
set_option maxHeartbeats 1900000
/-! DL1: the judgements over cells; expressions. -/
namespace DL
open L2 PyProof.Rows PySem PySem.Spec

/-! ### freezing, looking -/
def frz0 (cc : Cs) : W → Option (D × Cs)
  | .d x => some (x, cc)
  | .cell n => match cc[n]? with
    | some (some (.lst ds)) => some (.lst ds, cc.set n none)
    | _ => none
def frzL (cc : Cs) : List W → Option (List D × Cs)
  | [] => some ([], cc)
  | w :: ws => match frz0 cc w with
    | some (x, c1) => match frzL c1 ws with
      | some (xs, c2) => some (x :: xs, c2)
      | none => none
    | none => none
def frz (cc : Cs) : W → Option (D × Cs)
  | .d x => some (x, cc)
  | .cell n => match cc[n]? with
    | some (some (.lst ds)) => some (.lst ds, cc.set n none)
    | some (some (.dct ks ws)) => match frzL (cc.set n none) ws with
      | some (ds, c1) => some (.dct ks ds, c1)
      | none => none
    | some (some (.obj c ns ws)) => match frzL (cc.set n none) ws with
      | some (ds, c1) => some (.obj c ns ds, c1)
      | none => none
    | _ => none
section
variable {K : PySem.W.Frag} {mg : Str → Option Value} {ca : Ca} {H : Hp} {cc c1 : Cs}
theorem frz0_ok {w : W} {x : D} {v : V} (hc : CsOk K mg ca H cc) (d : DenW K mg ca H w v) (e : frz0 cc w = some (x, c1)) : ∃ ca', Stp ca H ca' H ∧ CsOk K mg ca' H c1 ∧ DenD K mg (Live ca') H x v := by
  cases w with
  | d y =>
    simp only [frz0, Option.some.injEq, Prod.mk.injEq] at e
    obtain ⟨rfl, rfl⟩ := e
    exact ⟨ca, Stp.refl _ _, hc, d⟩
  | cell n =>
    simp only [frz0] at e
    split at e
    · rename_i ds hn
      simp only [Prod.mk.injEq, Option.some.injEq] at e
      obtain ⟨rfl, rfl⟩ := e
      obtain ⟨a, ha⟩ := hc.live n _ hn
      obtain ⟨c, h1, h2⟩ := hc.at_ n a ha
      rw [hn] at h1
      cases h1
      obtain ⟨vs, h3, h4⟩ := h2
      have e := d.2 a ha
      subst e
      refine ⟨ca.del n, Stp.drop hc ha, hc.drop ha, a, vs, rfl, fun z => ((live_set_none hc ha).mp z).2 rfl, h3, DenL.mono (Stp.drop hc ha).kp _ _ h4⟩
    · cases e
theorem frzL_ok : ∀ {ws : List W} {xs : List D} {vs : List V} {cc c1 : Cs} {ca : Ca}, CsOk K mg ca H cc → DenWs K mg ca H ws vs → frzL cc ws = some (xs, c1) → ∃ ca', Stp ca H ca' H ∧ CsOk K mg ca' H c1 ∧ DenL K mg (Live ca') H xs vs
  | [], xs, vs, cc, c1, ca, hc, d, e => by
    simp only [frzL, Option.some.injEq, Prod.mk.injEq] at e
    obtain ⟨rfl, rfl⟩ := e
    exact ⟨ca, Stp.refl _ _, hc, d⟩
  | w :: ws, xs, vs, cc, c1, ca, hc, d, e => by
    obtain ⟨v, vr, rfl, d1, d2⟩ := d
    simp only [frzL] at e
    split at e
    · rename_i x c2 e1
      obtain ⟨ca1, p1, hc1, q1⟩ := frz0_ok hc d1 e1
      split at e
      · rename_i xs' c3 e2
        simp only [Prod.mk.injEq, Option.some.injEq] at e
        obtain ⟨rfl, rfl⟩ := e
        obtain ⟨ca2, p2, hc2, q2⟩ := frzL_ok hc1 (d2.mono p1) e2
        exact ⟨ca2, p1.trans p2, hc2, v, vr, rfl, DenD.mono p2.kp _ _ q1, q2⟩
      · cases e
    · cases e
theorem frz_ok {w : W} {x : D} {v : V} (hc : CsOk K mg ca H cc) (d : DenW K mg ca H w v) (e : frz cc w = some (x, c1)) : ∃ ca', Stp ca H ca' H ∧ CsOk K mg ca' H c1 ∧ DenD K mg (Live ca') H x v := by
  cases w with
  | d y =>
    simp only [frz, Option.some.injEq, Prod.mk.injEq] at e
    obtain ⟨rfl, rfl⟩ := e
    exact ⟨ca, Stp.refl _ _, hc, d⟩
  | cell n =>
    have main : ∀ c, cc[n]? = some (some c) → ∃ a, ca.l[n]? = some (some a) ∧ v = .ref a ∧ DenC K mg ca H c a := fun c hn => by
      obtain ⟨a, ha⟩ := hc.live n _ hn
      obtain ⟨c', h1, h2⟩ := hc.at_ n a ha
      rw [hn] at h1
      cases h1
      exact ⟨a, ha, d.2 a ha, h2⟩
    simp only [frz] at e
    split at e
    · rename_i ds hn
      exact frz0_ok hc d (by simp only [frz0, hn]; exact e)
    · rename_i ks ws hn
      split at e
      · rename_i ds c2 e1
        simp only [Prod.mk.injEq, Option.some.injEq] at e
        obtain ⟨rfl, rfl⟩ := e
        obtain ⟨a, ha, rfl, kvs, h1, h2, h3⟩ := main _ hn
        obtain ⟨ca1, p1, hc1, q1⟩ := frzL_ok (hc.drop ha) (h3.mono (Stp.drop hc ha)) e1
        have na : ¬ Live (ca.del n) a := fun z => ((live_set_none hc ha).mp z).2 rfl
        exact ⟨ca1, (Stp.drop hc ha).trans p1, hc1, a, _, rfl, (p1.kp a _ h1 na).2, ⟨kvs, (p1.kp a _ h1 na).1, h2, rfl⟩, q1⟩
      · cases e
    · rename_i cn ns ws hn
      split at e
      · rename_i ds c2 e1
        simp only [Prod.mk.injEq, Option.some.injEq] at e
        obtain ⟨rfl, rfl⟩ := e
        obtain ⟨a, ha, rfl, Cl, dx, vs, h0, h1, hl, h3⟩ := main _ hn
        obtain ⟨ca1, p1, hc1, q1⟩ := frzL_ok (hc.drop ha) (h3.mono (Stp.drop hc ha)) e1
        have na : ¬ Live (ca.del n) a := fun z => ((live_set_none hc ha).mp z).2 rfl
        exact ⟨ca1, (Stp.drop hc ha).trans p1, hc1, a, Cl, dx, vs, rfl, (p1.kp a _ h1 na).2, h0, h1, hl, q1⟩
      · cases e
    · cases e
end

/-- all of them data -/
def allD : List W → Option (List D)
  | [] => some []
  | .d x :: ws => match allD ws with
    | some xs => some (x :: xs)
    | none => none
  | .cell _ :: _ => none
theorem allD_ok {K : PySem.W.Frag} {mg : Str → Option Value} {ca : Ca} {H : Hp} : ∀ {ws : List W} {ds : List D} {vs : List V}, DenWs K mg ca H ws vs → allD ws = some ds → DenL K mg (Live ca) H ds vs
  | [], ds, vs, h, e => by
    simp only [allD, Option.some.injEq] at e
    subst e
    exact h
  | .d x :: ws, ds, vs, h, e => by
    obtain ⟨v, vr, rfl, h1, h2⟩ := h
    simp only [allD] at e
    split at e
    · rename_i xs e1
      cases e
      exact ⟨v, vr, rfl, h1, allD_ok h2 e1⟩
    · cases e
  | .cell _ :: _, _, _, _, e => by cases e
theorem allD_length : ∀ {ws : List W} {ds : List D}, allD ws = some ds → ds.length = ws.length
  | [], ds, e => by
    simp only [allD, Option.some.injEq] at e
    subst e
    rfl
  | .d x :: ws, ds, e => by
    simp only [allD] at e
    split at e
    · rename_i xs e1
      cases e
      simp [allD_length e1]
    · cases e
  | .cell _ :: _, _, e => by cases e
theorem allD_map (ds : List D) : allD (ds.map .d) = some ds := by
  induction ds with
  | nil => rfl
  | cons x xs ih => simp [allD, ih]
/-- what a value shows now, for those who only look -/
def see (cc : Cs) : W → Option D
  | .d x => some x
  | .cell n => match cc[n]? with
    | some (some (.lst ds)) => some (.lst ds)
    | some (some (.dct ks ws)) => match allD ws with
      | some ds => some (.dct ks ds)
      | none => none
    | _ => none
/-- as DenD, the thing itself may still change -/
def DenT (K : PySem.W.Frag) (mg : Str → Option Value) (ca : Ca) (H : Hp) : D → V → Prop
  | .tup ds, v => ∃ a vs, v = .ref a ∧ TupAt K H a vs ∧ DenL K mg (Live ca) H ds vs
  | .lst ds, v => ∃ a vs, v = .ref a ∧ H a = some (.lst vs) ∧ DenL K mg (Live ca) H ds vs
  | .dct ks ds, v => ∃ a vs, v = .ref a ∧ DAt H a ks vs ∧ DenL K mg (Live ca) H ds vs
  | x, v => DenD K mg (Live ca) H x v
section
variable {K : PySem.W.Frag} {mg : Str → Option Value} {ca : Ca} {H : Hp} {cc : Cs}
theorem DenD.t {x : D} {v : V} (h : DenD K mg (Live ca) H x v) : DenT K mg ca H x v := by
  cases x with
  | tup ds =>
    obtain ⟨a, vs, e, h1, h2⟩ := h
    exact ⟨a, vs, e, h1.elim (fun z => .inl z.2) .inr, h2⟩
  | lst ds =>
    obtain ⟨a, vs, e, _, h1, h2⟩ := h
    exact ⟨a, vs, e, h1, h2⟩
  | dct ks ds =>
    obtain ⟨a, vs, e, _, h1, h2⟩ := h
    exact ⟨a, vs, e, h1, h2⟩
  | _ => exact h
theorem cell_at {n : Nat} {v : V} {c : C} (hc : CsOk K mg ca H cc) (d : DenW K mg ca H (.cell n) v) (e : cc[n]? = some (some c)) : ∃ a, ca.l[n]? = some (some a) ∧ v = .ref a ∧ DenC K mg ca H c a := by
  obtain ⟨a, ha⟩ := hc.live n _ e
  obtain ⟨c', h1, h2⟩ := hc.at_ n a ha
  rw [e] at h1
  cases h1
  exact ⟨a, ha, d.2 a ha, h2⟩
theorem see_ok {w : W} {x : D} {v : V} (hc : CsOk K mg ca H cc) (d : DenW K mg ca H w v) (e : see cc w = some x) : DenT K mg ca H x v := by
  cases w with
  | d y =>
    simp only [see, Option.some.injEq] at e
    subst e
    exact DenD.t d
  | cell n =>
    simp only [see] at e
    split at e
    · rename_i ds hn
      cases e
      obtain ⟨a, ha, rfl, vs, h3, h4⟩ := cell_at hc d hn
      exact ⟨a, vs, rfl, h3, h4⟩
    · rename_i ks ws hn
      split at e
      · rename_i ds e1
        cases e
        obtain ⟨a, ha, rfl, kvs, h3, h4, h5⟩ := cell_at hc d hn
        exact ⟨a, _, rfl, ⟨kvs, h3, h4, rfl⟩, allD_ok h5 e1⟩
      · cases e
    · cases e
end

/-! ### judgements -/
/-- an exception as it lies -/
def ExOk (K : PySem.W.Frag) (mg : Str → Option Value) (ca : Ca) (H : Hp) (x : Ex) (cls : Value) (dd : Option Addr) : Prop :=
  ∃ Cl d vs, mg x.c = some (.ref Cl) ∧ cls = .ref Cl ∧ dd = some d ∧ H d = some (.xd (x.ns.zip vs)) ∧ ¬ Live ca d ∧ x.ns.length = vs.length ∧ DenL K mg (Live ca) H x.ds vs
section
variable (K : PySem.W.Frag) (mg : Str → Option Value)
/-- a result, from a state on -/
def KS {α β : Type} (den : Ca → Hp → α → β → Prop) (Wx : Value → Option Addr → Hp → Prop) (ca : Ca) (H : Hp) (Q : β → Hp → Prop) : R α → Prop
  | .ok w cc' => ∀ v H' ca', Stp ca H ca' H' → CsOk K mg ca' H' cc' → den ca' H' w v → Q v H'
  | .raise x cc' => ∀ cls dd H' ca', Stp ca H ca' H' → CsOk K mg ca' H' cc' → ExOk K mg ca' H' x cls dd → Wx cls dd H'
  | .stuck => False
def Ev {α β : Type} (den : Ca → Hp → α → β → Prop) (Wx : WX) (m : Env → M α) : L2.St → Hp → (β → Hp → Prop) → Prop := fun σ H Q =>
  ∃ env ca cc, EnvOk K mg ca H env σ ∧ CsOk K mg ca H cc ∧ KS K mg den (fun c d H => Wx c d σ H) ca H Q (m env cc)
end
abbrev denV (K : PySem.W.Frag) (mg : Str → Option Value) : Ca → Hp → W → V → Prop := fun ca H w v => DenW K mg ca H w v
abbrev denB : Ca → Hp → Bool → Bool → Prop := fun _ _ a b => a = b
abbrev denA (K : PySem.W.Frag) (mg : Str → Option Value) : Ca → Hp → List W → List V → Prop := fun ca H w v => DenWs K mg ca H w v
abbrev EvE (X : Cx) (Wx : WX) (m : ME) : TE := Ev X.K X.mg (denV X.K X.mg) Wx m
abbrev EvB (X : Cx) (Wx : WX) (m : Env → M Bool) : TT := Ev X.K X.mg denB Wx m
abbrev EvA (X : Cx) (Wx : WX) (m : Env → M (List W)) : TA := Ev X.K X.mg (denA X.K X.mg) Wx m
abbrev PEv (X : Cx) (Wx : WX) (e : Expr) (m : ME) : Prop := PE X e (EvE X Wx m)
abbrev PTv (X : Cx) (Wx : WX) (e : Expr) (m : Env → M Bool) : Prop := PT X e (EvB X Wx m)
abbrev PWv (X : Cx) (Wx : WX) (e : Expr) (m : Env → M Bool) : Prop := PW X e (EvB X Wx m)
abbrev PAv (X : Cx) (Wx : WX) (es : List Expr) (m : Env → M (List W)) : Prop := PA X es (EvA X Wx m)

theorem _root_.L2.PE.imp {X : Cx} {e : Expr} {t t' : TE} (h : PE X e t) (i : ∀ σ H Q, t' σ H Q → t σ H Q) : PE X e t' := ⟨fun pins s σ H Q I q => h.run pins s σ H Q I (i σ H Q q)⟩
theorem _root_.L2.PT.imp {X : Cx} {e : Expr} {t t' : TT} (h : PT X e t) (i : ∀ σ H Q, t' σ H Q → t σ H Q) : PT X e t' := ⟨fun pins s σ H Q I q => h.run pins s σ H Q I (i σ H Q q)⟩
theorem _root_.L2.PW.imp {X : Cx} {e : Expr} {t t' : TT} (h : PW X e t) (i : ∀ σ H Q, t' σ H Q → t σ H Q) : PW X e t' := ⟨fun wh pins s σ H Q I q => h.run wh pins s σ H Q I (i σ H Q q)⟩
theorem _root_.L2.PA.imp {X : Cx} {e : List Expr} {t t' : TA} (h : PA X e t) (i : ∀ σ H Q, t' σ H Q → t σ H Q) : PA X e t' := ⟨fun pos pins s σ H Q I q => h.run pos pins s σ H Q I (i σ H Q q)⟩
theorem _root_.L2.PS.imp {X : Cx} {e : Stmt} {t t' : TS} (h : PS X e t) (i : ∀ D σ H, t' D σ H → t D σ H) : PS X e t' := ⟨fun pins s σ H Q I q => h.run pins s σ H Q I (i Q σ H q)⟩
theorem _root_.L2.PSs.imp {X : Cx} {e : List Stmt} {t t' : TS} (h : PSs X e t) (i : ∀ D σ H, t' D σ H → t D σ H) : PSs X e t' := ⟨fun pins s σ H Q I q => h.run pins s σ H Q I (i Q σ H q)⟩

section
variable {K : PySem.W.Frag} {mg : Str → Option Value}
section
variable {α β γ δ : Type} {den : Ca → Hp → α → β → Prop} {den' : Ca → Hp → γ → δ → Prop} {Wx : Value → Option Addr → Hp → Prop} {ca ca' : Ca} {H H' : Hp} {Q : β → Hp → Prop} {Q' : δ → Hp → Prop} {r : R α}
theorem KS.step (p : Stp ca H ca' H') (h : KS K mg den Wx ca H Q r) : KS K mg den Wx ca' H' Q r := by
  cases r with
  | ok w cc => exact fun v H2 ca2 q => h v H2 ca2 (p.trans q)
  | raise x cc => exact fun cls dd H2 ca2 q => h cls dd H2 ca2 (p.trans q)
  | stuck => exact h
/-- one result, then what hangs on it -/
theorem KS.bind {f : α → Cs → R γ} (h : KS K mg den' Wx ca H Q' (r.bind f))
    (k : ∀ w cc v H' ca', Stp ca H ca' H' → CsOk K mg ca' H' cc → den ca' H' w v → KS K mg den' Wx ca' H' Q' (f w cc) → Q v H') : KS K mg den Wx ca H Q r := by
  cases r with
  | ok w cc => exact fun v H2 ca2 p c d => k w cc v H2 ca2 p c d (KS.step p h)
  | raise x cc => exact h
  | stuck => exact h
/-- a result in hand -/
theorem KS.now {w : α} {cc : Cs} {v : β} (h : KS K mg den Wx ca H Q (.ok w cc)) (p : Stp ca H ca' H') (hc : CsOk K mg ca' H' cc) (d : den ca' H' w v) : Q v H' := h v H' ca' p hc d
end
/-- the reading of a first part, then the rest -/
theorem Ev.bind {α β γ δ : Type} {den : Ca → Hp → α → β → Prop} {den' : Ca → Hp → γ → δ → Prop} {Wx : WX} {m : Env → M α} {f : Env → α → Cs → R γ} {σ : L2.St} {H : Hp} {Q : β → Hp → Prop} {Q' : δ → Hp → Prop}
    (h : Ev K mg den' Wx (fun env cc => (m env cc).bind (f env)) σ H Q')
    (k : ∀ env ca w cc v H', EnvOk K mg ca H' env σ → CsOk K mg ca H' cc → den ca H' w v → KS K mg den' (fun c d H => Wx c d σ H) ca H' Q' (f env w cc) → Q v H') : Ev K mg den Wx m σ H Q := by
  obtain ⟨env, ca, cc, he, hc, hk⟩ := h
  refine ⟨env, ca, cc, he, hc, KS.bind (den := den) (Q := Q) hk fun w c1 v H1 ca1 p c d q => ?_⟩
  exact k env ca1 w c1 v H1 (he.mono p) c d q
end

/-! ### names, constants -/
def mVar (i : Nat) : ME := fun env cc => match env[i]? with
  | some (some w) => .ok w cc
  | _ => .stuck
def mC (x : D) : ME := fun _ cc => .ok (.d x) cc
def mStuck : ME := fun _ _ => .stuck
section
variable {X : Cx} {Wx : WX}
theorem pv_stuck {e : Expr} : PEv X Wx e mStuck := ⟨fun _ _ _ _ _ _ h => by
  obtain ⟨_, _, _, _, _, h⟩ := h
  exact h.elim⟩
theorem pv_var {i : Nat} {x : Str} {pos : Pos} (hN : X.N[i]? = some x) (hv : Vis X.env.scope x) (hd : (x == ("__debug__" : Str)) = false := by decide) (hcd : (x == ("__classdict__" : Str)) = false := by decide) : PEv X Wx (.Name x pos) (mVar i) := by
  refine (pe_var hN hv hd hcd).imp fun σ H Q h => ?_
  obtain ⟨env, ca, cc, he, hc, hk⟩ := h
  unfold mVar at hk
  split at hk
  · rename_i w hw
    obtain ⟨v, e1, d⟩ := he.at_ i w hw
    exact ⟨v, e1, hk.now (Stp.refl _ _) hc d⟩
  · exact hk.elim
theorem pv_c {e : Expr} {x : D} {v : V} (h : PE X e (tC v)) (hd : ∀ L H, DenD X.K X.mg L H x v) : PEv X Wx e (mC x) :=
  h.imp fun σ H Q h => by
    obtain ⟨env, ca, cc, he, hc, hk⟩ := h
    exact hk.now (Stp.refl _ _) hc (hd _ _)
theorem pv_int {i j pos} : PEv X Wx (.Constant (.int i) j pos) (mC (.int i)) := pv_c pe_int fun _ _ => rfl
theorem pv_bl {b j pos} : PEv X Wx (.Constant (.bool b) j pos) (mC (.bl b)) := pv_c pe_bl fun _ _ => rfl
theorem pv_non {j pos} : PEv X Wx (.Constant .none j pos) (mC .non) := pv_c pe_non fun _ _ => rfl
theorem pv_str {x j pos} : PEv X Wx (.Constant (.str x) j pos) (mC (.str x)) := pv_c pe_str fun _ _ => rfl
theorem pv_glob {x : Str} {v : V} {u : Value} {pos : Pos} {y : D} (hg : Gl X x) (hm : X.mg x = some u) (r : RelV v u) (hy : ∀ L H, DenD X.K X.mg L H y v) (hd : (x == ("__debug__" : Str)) = false := by decide) : PEv X Wx (.Name x pos) (mC y) := pv_c (pe_glob hg hm r hd) hy
/-- the value becomes data -/
def mF (m : ME) : ME := fun env cc => (m env cc).bind fun w c => match frz c w with
  | some (x, c') => .ok (.d x) c'
  | none => .stuck
theorem pv_f {e : Expr} {m : ME} (h : PEv X Wx e m) : PEv X Wx e (mF m) := h.imp fun σ H Q h => by
  refine Ev.bind h fun env ca w cc v H' he hc d hk => ?_
  split at hk
  · rename_i x c' e1
    obtain ⟨ca', p, hc', d'⟩ := frz_ok hc d e1
    exact hk.now p hc' d'
  · exact hk.elim
end

/-! ### tests -/
def mT (m : ME) : Env → M Bool := fun env cc => (m env cc).bind fun w c => match w with
  | .d (.bl b) => .ok b c
  | _ => .stuck
def mOfT (m : Env → M Bool) : ME := fun env cc => (m env cc).bind fun b c => .ok (.d (.bl b)) c
def mIf {α : Type} (t : Env → M Bool) (a b : Env → M α) : Env → M α := fun env cc => (t env cc).bind fun x c => if x = true then a env c else b env c
def mAnd (a b : Env → M Bool) : Env → M Bool := mIf a b (fun _ c => .ok false c)
def mOr (a b : Env → M Bool) : Env → M Bool := mIf a (fun _ c => .ok true c) b
def mNot (a : Env → M Bool) : Env → M Bool := fun env cc => (a env cc).bind fun x c => .ok (!x) c
/-- and, or of values that are bools but the last -/
def mAndV (a b : ME) : ME := mIf (mT a) b (mC (.bl false))
def mOrV (a b : ME) : ME := mIf (mT a) (mC (.bl true)) b
section
variable {X : Cx} {Wx : WX} {e a b : Expr} {rest : List Expr} {pos : Pos}
theorem EvB.of {m : ME} {σ : L2.St} {H : Hp} {Q : Bool → Hp → Prop} (h : EvB X Wx (mT m) σ H Q) : EvE X Wx m σ H (fun x H1 => ∃ c, x = .bl c ∧ Q c H1) := by
  refine Ev.bind h fun env ca w cc v H' he hc d hk => ?_
  split at hk
  · rename_i c
    exact ⟨c, d, hk.now (Stp.refl _ _) hc rfl⟩
  · exact hk.elim
theorem tv_val {m : ME} (h : PEv X Wx e m) (he : ∀ whole, isTrue e X.env whole = (do let v ← whole; standAt e.pos; holding [v] (truthy v)) := by intro _; rfl) : PTv X Wx e (mT m) := (pt_val h he).imp fun _ _ _ => EvB.of
theorem tv_not {m : Env → M Bool} (h : PTv X Wx a m) : PTv X Wx (.UnaryOp .Not a pos) (mNot m) := (pt_not h).imp fun σ H Q h =>
  Ev.bind h fun env ca w cc v H' he hc d hk => by
    have d' : w = v := d
    subst d'
    exact hk.now (Stp.refl _ _) hc rfl
theorem wv_and1 {m : Env → M Bool} (h : PTv X Wx a m) : PWv X Wx (.BoolOp .And [a] pos) m := pw_and1 h
theorem wv_or1 {m : Env → M Bool} (h : PTv X Wx a m) : PWv X Wx (.BoolOp .Or [a] pos) m := pw_or1 h
theorem KS.again {α β : Type} {den : Ca → Hp → α → β → Prop} {Wx : WX} {m : Env → M α} {σ : L2.St} {H : Hp} {Q : β → Hp → Prop} {env : Env} {ca : Ca} {cc : Cs} (he : EnvOk X.K X.mg ca H env σ) (hc : CsOk X.K X.mg ca H cc)
    (hk : KS X.K X.mg den (fun c d H => Wx c d σ H) ca H Q (m env cc)) : Ev X.K X.mg den Wx m σ H Q := ⟨env, ca, cc, he, hc, hk⟩
theorem wv_and {m n : Env → M Bool} (h : PTv X Wx a m) (h2 : PWv X Wx (.BoolOp .And (b :: rest) pos) n) : PWv X Wx (.BoolOp .And (a :: b :: rest) pos) (mAnd m n) := (pw_and h h2).imp fun σ H Q h =>
  Ev.bind h fun env ca w cc v H' he hc d hk => by
    have d' : w = v := d
    subst d'
    cases w with
    | true => exact KS.again he hc hk
    | false => exact hk.now (Stp.refl _ _) hc rfl
theorem wv_or {m n : Env → M Bool} (h : PTv X Wx a m) (h2 : PWv X Wx (.BoolOp .Or (b :: rest) pos) n) : PWv X Wx (.BoolOp .Or (a :: b :: rest) pos) (mOr m n) := (pw_or h h2).imp fun σ H Q h =>
  Ev.bind h fun env ca w cc v H' he hc d hk => by
    have d' : w = v := d
    subst d'
    cases w with
    | true => exact hk.now (Stp.refl _ _) hc rfl
    | false => exact KS.again he hc hk
theorem pv_one {op} {m : ME} (h : PEv X Wx a m) : PEv X Wx (.BoolOp op [a] pos) m := pe_one h
theorem pv_and {m n : ME} (h : PEv X Wx a m) (h2 : PEv X Wx (.BoolOp .And (b :: rest) pos) n) : PEv X Wx (.BoolOp .And (a :: b :: rest) pos) (mAndV m n) := (pe_and h h2).imp fun σ H Q h => by
  have h' : EvB X Wx (mT m) σ H (fun c H1 => if c = true then EvE X Wx n σ H1 Q else Q (.bl false) H1) :=
    Ev.bind h fun env ca w cc v H' he hc d hk => by
      have d' : w = v := d
      subst d'
      cases w with
      | true => exact KS.again he hc hk
      | false => exact KS.now hk (Stp.refl _ _) hc rfl
  exact EvB.of h'
theorem pv_or {m n : ME} (h : PEv X Wx a m) (h2 : PEv X Wx (.BoolOp .Or (b :: rest) pos) n) : PEv X Wx (.BoolOp .Or (a :: b :: rest) pos) (mOrV m n) := (pe_or h h2).imp fun σ H Q h => by
  have h' : EvB X Wx (mT m) σ H (fun c H1 => if c = true then Q (.bl true) H1 else EvE X Wx n σ H1 Q) :=
    Ev.bind h fun env ca w cc v H' he hc d hk => by
      have d' : w = v := d
      subst d'
      cases w with
      | true => exact KS.now hk (Stp.refl _ _) hc rfl
      | false => exact KS.again he hc hk
  exact EvB.of h'
theorem pv_notV {m : ME} (h : PEv X Wx a m) : PEv X Wx (.UnaryOp .Not a pos) (mOfT (mNot (mT m))) := (pe_not h).imp fun σ H Q h => by
  have h' : EvB X Wx (mT m) σ H (fun c H1 => Q (.bl (!c)) H1) := by
    obtain ⟨env, ca, cc, he, hc, hk⟩ := h
    refine ⟨env, ca, cc, he, hc, ?_⟩
    unfold mOfT mNot at hk
    cases e : mT m env cc with
    | ok w c =>
      rw [e] at hk
      intro v H' ca' p c' d
      have d' : w = v := d
      subst d'
      exact hk _ H' ca' p c' rfl
    | raise x c => rw [e] at hk; exact hk
    | stuck => rw [e] at hk; exact hk
  exact EvB.of h'
theorem pv_ifExp {c : Expr} {t : Env → M Bool} {m n : ME} (hc : PTv X Wx c t) (ha : PEv X Wx a m) (hb : PEv X Wx b n) : PEv X Wx (.IfExp c a b pos) (mIf t m n) := (pe_ifExp hc ha hb).imp fun σ H Q h =>
  Ev.bind h fun env ca w cc v H' he hc d hk => by
    have d' : w = v := d
    subst d'
    cases w with
    | true => exact KS.again he hc hk
    | false => exact KS.again he hc hk
end
end DL
set_option Elab.async false
set_option linter.all false
set_option maxRecDepth 100000
set_option maxHeartbeats 1900000
/-! DL2: argument lists, displays, calls of defs, operators. -/
namespace DL
open L2 PyProof.Rows PySem PySem.Spec

/-! ### argument lists -/
def mNil : Env → M (List W) := fun _ cc => .ok [] cc
def mCons (a : ME) (r : Env → M (List W)) : Env → M (List W) := fun env cc => (a env cc).bind fun w c => (r env c).bind fun ws c' => .ok (w :: ws) c'
/-- what a star brings -/
def starOf (cc : Cs) (w : W) : Option (List D) := match see cc w with
  | some (.tup ds) => some ds
  | some (.lst ds) => some ds
  | _ => none
def mStar (a : ME) (r : Env → M (List W)) : Env → M (List W) := fun env cc => (a env cc).bind fun w c => match starOf c w with
  | some ds => (r env c).bind fun ws c' => .ok (ds.map .d ++ ws) c'
  | none => .stuck
section
variable {X : Cx} {Wx : WX} {e : Expr} {es : List Expr}
theorem DenL.ws {K : PySem.W.Frag} {mg : Str → Option Value} {ca : Ca} {H : Hp} : ∀ {ds : List D} {vs : List V}, DenL K mg (Live ca) H ds vs → DenWs K mg ca H (ds.map .d) vs
  | [], _, h => h
  | _ :: _, _, ⟨v, vr, e, h1, h2⟩ => ⟨v, vr, e, h1, DenL.ws h2⟩
theorem av_nil : PAv X Wx [] mNil := pa_nil.imp fun σ H Q h => by
  obtain ⟨env, ca, cc, he, hc, hk⟩ := h
  exact hk.now (Stp.refl _ _) hc rfl
theorem av_cons {a : ME} {r : Env → M (List W)} (ha : PEv X Wx e a) (hr : PAv X Wx es r) (hs : ArgAt X e es := by rfl) : PAv X Wx (e :: es) (mCons a r) := (pa_cons ha hr hs).imp fun σ H Q h =>
  Ev.bind h fun env ca w cc v H' he hc d hk => ⟨env, ca, cc, he, hc, KS.bind hk fun ws c2 vs H2 ca2 p hc2 d2 hk2 => hk2.now (Stp.refl _ _) hc2 ⟨v, vs, rfl, d.mono p, d2⟩⟩
theorem starOf_ok {K : PySem.W.Frag} {mg : Str → Option Value} {ca : Ca} {H : Hp} {cc : Cs} {w : W} {ds : List D} {v : V} (hc : CsOk K mg ca H cc) (d : DenW K mg ca H w v) (e : starOf cc w = some ds) :
    ∃ a vs, v = .ref a ∧ (SqT K H a vs ∨ SqL K H a vs) ∧ DenL K mg (Live ca) H ds vs := by
  unfold starOf at e
  split at e
  · rename_i ds' e1
    cases e
    obtain ⟨a, vs, e2, h1, h2⟩ := see_ok hc d e1
    exact ⟨a, vs, e2, .inl h1.sq, h2⟩
  · rename_i ds' e1
    cases e
    obtain ⟨a, vs, e2, h1, h2⟩ := see_ok hc d e1
    exact ⟨a, vs, e2, .inr (.inl (.inl h1)), h2⟩
  · cases e
theorem av_star {a : ME} {r : Env → M (List W)} {p : Pos} (ha : PEv X Wx e a) (hr : PAv X Wx es r) (hs : starEach (.Starred e p :: es) X.env = (true, eval e X.env) :: starEach es X.env := by rfl) : PAv X Wx (.Starred e p :: es) (mStar a r) := (StX.pa_star ha hr hs).imp fun σ H Q h =>
  Ev.bind h fun env ca w cc v H' he hc d hk => by
    split at hk
    · rename_i ds e1
      obtain ⟨a, vs, rfl, h1, h2⟩ := starOf_ok hc d e1
      exact ⟨a, vs, rfl, h1, env, ca, cc, he, hc, KS.bind hk fun ws c2 us H2 ca2 p hc2 d2 hk2 => hk2.now (Stp.refl _ _) hc2 ((DenL.ws (DenL.mono p.kp _ _ h2)).append d2)⟩
    · exact hk.elim
end

/-! ### displays -/
abbrev CAP : Nat := 16777216
theorem cap_ok {n : Nat} (h : n ≤ CAP) : n ≤ sizeLine := by rw [sizeLine_eq]; exact h
def mTup (r : Env → M (List W)) : ME := fun env cc => (r env cc).bind fun ws c => match allD ws with
  | some ds => if ds.length ≤ CAP then .ok (.d (.tup ds)) c else .stuck
  | none => .stuck
def mLst (r : Env → M (List W)) : ME := fun env cc => (r env cc).bind fun ws c => match allD ws with
  | some ds => if ds.length ≤ CAP then .ok (.d (.lst ds)) c else .stuck
  | none => .stuck
/-- a list that will change -/
def mLstC (r : Env → M (List W)) : ME := fun env cc => (r env cc).bind fun ws c => match allD ws with
  | some ds => if ds.length ≤ CAP then .ok (.cell c.length) (c ++ [some (.lst ds)]) else .stuck
  | none => .stuck
section
variable {K : PySem.W.Frag} {mg : Str → Option Value} {ca : Ca} {H : Hp} {cc : Cs}
theorem den_tup_new {ds : List D} {vs : List V} {p : Addr} (hc : CsOk K mg ca H cc) (d : DenL K mg (Live ca) H ds vs) (hp : H p = none) : DenW K mg ca (upd H p (.tup vs)) (.d (.tup ds)) (.ref p) :=
  ⟨p, vs, rfl, .inl ⟨fun l => (by obtain ⟨o, e⟩ := hc.tracked l; rw [hp] at e; cases e), upd_same⟩, DenL.mono (Kp.new hp) _ _ d⟩
theorem den_lst_new {ds : List D} {vs : List V} {p : Addr} (hc : CsOk K mg ca H cc) (d : DenL K mg (Live ca) H ds vs) (hp : H p = none) : DenW K mg ca (upd H p (.lst vs)) (.d (.lst ds)) (.ref p) :=
  ⟨p, vs, rfl, fun l => (by obtain ⟨o, e⟩ := hc.tracked l; rw [hp] at e; cases e), upd_same, DenL.mono (Kp.new hp) _ _ d⟩
theorem den_cell_new {o : HO} {p : Addr} (hc : CsOk K mg ca H cc) : DenW K mg (ca.snoc p) (upd H p o) (.cell cc.length) (.ref p) :=
  ⟨by rw [← hc.len, snoc_len]; omega, fun a e => by
    rw [← hc.len, snoc_eq] at e
    cases e
    rfl⟩
theorem cs_lst_new {ds : List D} {vs : List V} {p : Addr} (hc : CsOk K mg ca H cc) (d : DenL K mg (Live ca) H ds vs) (hp : H p = none) : CsOk K mg (ca.snoc p) (upd H p (.lst vs)) (cc ++ [some (.lst ds)]) :=
  hc.cell hp ⟨vs, upd_same, DenL.mono (Stp.cell (o := .lst vs) hc hp).kp _ _ d⟩
end
section
variable {X : Cx} {Wx : WX} {es : List Expr} {pos : Pos} {r : Env → M (List W)}
theorem pv_tup {x1} (h : PAv X Wx es r) : PEv X Wx (.Tuple es x1 pos) (mTup r) := (pe_tup h).imp fun σ H Q h =>
  Ev.bind h fun env ca w cc v H' he hc d hk => by
    split at hk
    · rename_i ds e1
      split at hk
      · rename_i hl
        have d' := allD_ok d e1
        refine ⟨cap_ok (by rw [d'.length]; exact hl), fun p hp => ?_⟩
        exact hk.now (Stp.new hc hp) (hc.new hp) (den_tup_new hc d' hp)
      · exact hk.elim
    · exact hk.elim
theorem pv_lst (h : PAv X Wx es r) : PEv X Wx (.List es pos) (mLst r) := (pe_lst h).imp fun σ H Q h =>
  Ev.bind h fun env ca w cc v H' he hc d hk => by
    split at hk
    · rename_i ds e1
      split at hk
      · rename_i hl
        have d' := allD_ok d e1
        refine ⟨cap_ok (by rw [d'.length]; exact hl), fun p hp => ?_⟩
        exact hk.now (Stp.new hc hp) (hc.new hp) (den_lst_new hc d' hp)
      · exact hk.elim
    · exact hk.elim
theorem pv_lstC (h : PAv X Wx es r) : PEv X Wx (.List es pos) (mLstC r) := (pe_lst h).imp fun σ H Q h =>
  Ev.bind h fun env ca w cc v H' he hc d hk => by
    split at hk
    · rename_i ds e1
      split at hk
      · rename_i hl
        have d' := allD_ok d e1
        refine ⟨cap_ok (by rw [d'.length]; exact hl), fun p hp => ?_⟩
        exact hk.now (Stp.cell hc hp) (cs_lst_new hc d' hp) (den_cell_new hc)
      · exact hk.elim
    · exact hk.elim
end

/-! ### defs: what they promise, how they are called -/
abbrev Fn := List W → M W
def spOf (K : PySem.W.Frag) (mg : Str → Option Value) (n : Nat) (F : Fn) : Sp := fun vs H Q E =>
  ∃ ws ca cc, ws.length = n ∧ DenWs K mg ca H ws vs ∧ CsOk K mg ca H cc ∧ KS K mg (denV K mg) E ca H Q (F ws cc)
def mCall (F : Fn) (n : Nat) (r : Env → M (List W)) (dfl : List W) : ME := fun env cc => (r env cc).bind fun ws c => if (ws ++ dfl).length = n then F (ws ++ dfl) c else .stuck
section
variable {X : Cx} {Wx : WX} {k n : Nat} {f : Addr} {fd : FuncData} {ps : List Str} {F : Fn} {dvs : List V} {dfl : List W} {ds : List Value} {x m : Str} {p pos apos : Pos} {e o : Expr} {es : List Expr} {r : Env → M (List W)}
/-- the defaults of a def, as data that stands still -/
def DflW (K : PySem.W.Frag) (mg : Str → Option Value) (dfl : List W) (dvs : List V) : Prop := ∀ ca H, DenWs K mg ca H dfl dvs
theorem DflW.nil {K : PySem.W.Frag} {mg : Str → Option Value} : DflW K mg [] [] := fun _ _ => rfl
theorem sp_call {σ : L2.St} {H : Hp} {Q : VK} (hd : DflW X.K X.mg dfl dvs) (h : EvE X Wx (mCall F n r dfl) σ H Q) : EvA X Wx r σ H fun vs H1 => spOf X.K X.mg n F (vs ++ dvs) H1 Q (WE Wx σ) :=
  Ev.bind h fun env ca ws cc vs H' he hc d hk => by
    split at hk
    · rename_i hl
      exact ⟨ws ++ dfl, ca, cc, hl, d.append (hd _ _), hc, hk⟩
    · exact hk.elim
/-- x(e, ..), x a def of the module -/
theorem pv_call (G : FnOk X.prog X.w X.K X.mg X.base (L2.CX X.prog X.w) k f fd ps (spOf X.K X.mg n F)) (hr : Room k X.A) (hg : Gl X x) (hm : X.mg x = some (.ref f)) (hk : PySem.W.keepIn X.K (.ref f) = true) (hb : Binds X.K fd ps ds) (hd : Vals dvs ds)
    (hdw : DflW X.K X.mg dfl dvs) (tk : Takes X Wx) (ha : PAv X Wx (e :: es) r) (hdb : (x == ("__debug__" : Str)) = false := by decide) (he : ArgAt X e es := by rfl)
    (hpl : FlatAt X pos es := by rfl) : PEv X Wx (.Call (.Name x p) (e :: es) [] pos) (mCall F n r dfl) :=
  (pe_callSD (E := WE Wx) G hr hg hm hk hb hd (fun σ => passAt tk σ) ha hdb he hpl).imp fun σ H Q h => sp_call hdw h
theorem pv_call0 (G : FnOk X.prog X.w X.K X.mg X.base (L2.CX X.prog X.w) k f fd ps (spOf X.K X.mg n F)) (hr : Room k X.A) (hg : Gl X x) (hm : X.mg x = some (.ref f)) (hk : PySem.W.keepIn X.K (.ref f) = true) (hb : Binds X.K fd ps ds) (hd : Vals dvs ds)
    (hdw : DflW X.K X.mg dfl dvs) (tk : Takes X Wx) (hdb : (x == ("__debug__" : Str)) = false := by decide) : PEv X Wx (.Call (.Name x p) [] [] pos) (mCall F n mNil dfl) := by
  constructor
  intro pins s σ H Q I h
  apply wpAny_Call_Name_kw
  refine ld_glob I hg hm ?_ hdb
  obtain ⟨env, ca, cc, he, hc, hk'⟩ := h
  have hk2 : KS X.K X.mg (denV X.K X.mg) (fun c d H => Wx c d σ H) ca H Q (if (([] : List W) ++ dfl).length = n then F ([] ++ dfl) cc else .stuck) := hk'
  split at hk2
  · rename_i hl
    exact PySem.W.callWith_K0 I.kIn hk (run_fnSD (E := WE Wx) (us := []) (vs := []) G hr hb hd (passAt tk σ) I .nil ⟨dfl, ca, cc, hl, hdw _ _, hc, hk2⟩)
  · exact hk2.elim

/-! ### a body, and what its def says -/
/-- the end of a body -/
def okBelow1 (n : Nat) : W → Bool
  | .d _ => true
  | .cell m => decide (m < n)
def okBelow (n : Nat) : Cs → Bool
  | [] => true
  | none :: cs => okBelow n cs
  | some (.lst _) :: cs => okBelow n cs
  | some (.dct _ ws) :: cs => ws.all (okBelow1 n) && okBelow n cs
  | some (.obj _ _ ws) :: cs => ws.all (okBelow1 n) && okBelow n cs
theorem okBelow_get {n : Nat} : ∀ {cs : Cs} {i : Nat} {c : C}, okBelow n cs = true → cs[i]? = some (some c) → (match c with | .lst _ => True | .dct _ ws => ∀ w ∈ ws, okBelow1 n w = true | .obj _ _ ws => ∀ w ∈ ws, okBelow1 n w = true)
  | [], i, c, _, e => by simp at e
  | b :: cs, 0, c, h, e => by
    simp at e
    subst e
    cases c with
    | lst _ => trivial
    | dct ks ws => simp only [okBelow, Bool.and_eq_true, List.all_eq_true] at h; exact h.1
    | obj cn ns ws => simp only [okBelow, Bool.and_eq_true, List.all_eq_true] at h; exact h.1
  | b :: cs, i + 1, c, h, e => by
    have h' : okBelow n cs = true := by
      cases b with
      | none => exact h
      | some b =>
        cases b with
        | lst _ => exact h
        | dct ks ws => simp only [okBelow, Bool.and_eq_true] at h; exact h.2
        | obj cn ns ws => simp only [okBelow, Bool.and_eq_true] at h; exact h.2
    exact okBelow_get (i := i) h' (by simpa using e)
/-- only the caller's cells stay -/
def cut {α : Type} (n : Nat) (ok : α → Bool) (a : α) (cc : Cs) : R α := if okBelow n (cc.take n) = true ∧ ok a = true then .ok a (cc.take n) else .stuck
end
section
variable {K : PySem.W.Frag} {mg : Str → Option Value} {ca : Ca} {H : Hp} {cc : Cs}
theorem live_take {n : Nat} {a : Addr} (l : Live (ca.cut n) a) : Live ca a := l.imp List.mem_of_mem_take fun z => z
theorem cut_len {n : Nat} : (ca.cut n).l.length = min n ca.l.length := by simp [Ca.cut]
theorem cut_lt {n m : Nat} (h : m < n) : (ca.cut n).l[m]? = ca.l[m]? := List.getElem?_take_of_lt h
theorem cut_some {n m : Nat} {a : Option Addr} (e : (ca.cut n).l[m]? = some a) : m < n ∧ ca.l[m]? = some a := by
  have hm : m < n := by
    have := (List.getElem?_eq_some_iff.mp e).1
    rw [cut_len] at this
    omega
  rw [cut_lt hm] at e
  exact ⟨hm, e⟩
theorem Kp.take {n : Nat} : Kp (Live ca) H (Live (ca.cut n)) H := fun a o e l => ⟨e, fun z => l (live_take z)⟩
theorem DenW.take {n : Nat} (hl : n ≤ ca.l.length) : ∀ {w : W} {v : V}, DenW K mg ca H w v → okBelow1 n w = true → DenW K mg (ca.cut n) H w v
  | .d x, v, h, _ => DenD.mono Kp.take x v h
  | .cell m, v, h, ok => by
    have hm : m < n := of_decide_eq_true ok
    exact ⟨by rw [cut_len]; omega, fun a e => h.2 a (cut_some e).2⟩
theorem DenWs.take {n : Nat} (hl : n ≤ ca.l.length) : ∀ {ws : List W} {vs : List V}, DenWs K mg ca H ws vs → (∀ w ∈ ws, okBelow1 n w = true) → DenWs K mg (ca.cut n) H ws vs
  | [], _, h, _ => h
  | w :: ws, _, ⟨v, vr, e, h1, h2⟩, ok => ⟨v, vr, e, h1.take hl (ok w List.mem_cons_self), DenWs.take hl h2 fun u hu => ok u (List.mem_cons_of_mem _ hu)⟩
theorem CsOk.take {n : Nat} (h : CsOk K mg ca H cc) (hl : n ≤ ca.l.length) (ok : okBelow n (cc.take n) = true) : CsOk K mg (ca.cut n) H (cc.take n) := by
  refine ⟨by rw [cut_len]; simp [h.len], fun m a e => ?_, fun m c e => ?_, fun m j a e1 e2 => h.inj m j a (cut_some e1).2 (cut_some e2).2, h.gh, fun m a e => h.gd m a (cut_some e).2⟩
  · obtain ⟨hm, e⟩ := cut_some e
    obtain ⟨c, e1, d⟩ := h.at_ m a e
    have e1' : (cc.take n)[m]? = some (some c) := by rw [List.getElem?_take_of_lt hm]; exact e1
    refine ⟨c, e1', ?_⟩
    have q := okBelow_get ok e1'
    cases c with
    | lst ds => obtain ⟨vs, h1, h2⟩ := d; exact ⟨vs, h1, DenL.mono Kp.take _ _ h2⟩
    | dct ks ws => obtain ⟨kvs, h1, h2, h3⟩ := d; exact ⟨kvs, h1, h2, h3.take hl q⟩
    | obj cn ns ws => obtain ⟨Cl, dx, vs, h0, h1, hl', h2⟩ := d; exact ⟨Cl, dx, vs, h0, h1, hl', h2.take hl q⟩
  · have hm : m < n := by
      have := (List.getElem?_eq_some_iff.mp e).1
      simp at this
      omega
    rw [List.getElem?_take_of_lt hm] at e
    obtain ⟨a, e1⟩ := h.live m c e
    exact ⟨a, by rw [cut_lt hm]; exact e1⟩
theorem Stp.take {ca0 : Ca} {H0 : Hp} (p : Stp ca0 H0 ca H) : Stp ca0 H0 (ca.cut ca0.l.length) H := by
  exact ⟨⟨by rw [cut_len]; have := p.len; omega, fun n a hn e => p.old n a hn (cut_some e).2, p.kp.trans Kp.take⟩, p.gEq, p.gKp⟩
end

/-! ### statements -/
inductive SR where
  | nx (env : Env) (cc : Cs) | rt (w : W) (cc : Cs) | bk (env : Env) (cc : Cs) | ct (env : Env) (cc : Cs) | raise (x : Ex) (env : Env) (cc : Cs) | stuck
abbrev MS := Env → Cs → SR
section
variable (K : PySem.W.Frag) (mg : Str → Option Value) (Wx : WX)
def KSt (ca : Ca) (H : Hp) (Dn : Ends) : SR → Prop
  | .nx env cc => ∀ σ H' ca', Stp ca H ca' H' → EnvOk K mg ca' H' env σ → CsOk K mg ca' H' cc → Dn.nx σ H'
  | .rt w cc => ∀ v H' ca', Stp ca H ca' H' → CsOk K mg ca' H' cc → DenW K mg ca' H' w v → Dn.rt v H'
  | .bk env cc => ∀ σ H' ca', Stp ca H ca' H' → EnvOk K mg ca' H' env σ → CsOk K mg ca' H' cc → Dn.bk σ H'
  | .ct env cc => ∀ σ H' ca', Stp ca H ca' H' → EnvOk K mg ca' H' env σ → CsOk K mg ca' H' cc → Dn.ct σ H'
  | .raise x env cc => ∀ cls dd σ H' ca', Stp ca H ca' H' → EnvOk K mg ca' H' env σ → CsOk K mg ca' H' cc → ExOk K mg ca' H' x cls dd → Wx cls dd σ H'
  | .stuck => False
def EvSt (m : MS) : TS := fun Dn σ H => ∃ env ca cc, EnvOk K mg ca H env σ ∧ CsOk K mg ca H cc ∧ KSt K mg Wx ca H Dn (m env cc)
end
abbrev PSv (X : Cx) (Wx : WX) (st : Stmt) (m : MS) : Prop := PS X st (EvSt X.K X.mg Wx m)
abbrev PSsv (X : Cx) (Wx : WX) (sts : List Stmt) (m : MS) : Prop := PSs X sts (EvSt X.K X.mg Wx m)
section
variable {K : PySem.W.Frag} {mg : Str → Option Value} {Wx : WX}
theorem KSt.step {ca ca' : Ca} {H H' : Hp} {Dn : Ends} {r : SR} (p : Stp ca H ca' H') (h : KSt K mg Wx ca H Dn r) : KSt K mg Wx ca' H' Dn r := by
  cases r with
  | nx env cc => exact fun σ H2 ca2 q => h σ H2 ca2 (p.trans q)
  | rt w cc => exact fun v H2 ca2 q => h v H2 ca2 (p.trans q)
  | bk env cc => exact fun σ H2 ca2 q => h σ H2 ca2 (p.trans q)
  | ct env cc => exact fun σ H2 ca2 q => h σ H2 ca2 (p.trans q)
  | raise x env cc => exact fun cls dd σ H2 ca2 q => h cls dd σ H2 ca2 (p.trans q)
  | stuck => exact h
/-- a statement that begins by an expression's result -/
def R.thenS {α : Type} (r : R α) (env : Env) (f : α → Cs → SR) : SR := match r with
  | .ok a cc => f a cc
  | .raise x cc => .raise x env cc
  | .stuck => .stuck
theorem KSt.bind {α β : Type} {den : Ca → Hp → α → β → Prop} {ca : Ca} {H : Hp} {Dn : Ends} {r : R α} {env : Env} {σ : L2.St} {f : α → Cs → SR} {Q : β → Hp → Prop} (he : EnvOk K mg ca H env σ) (h : KSt K mg Wx ca H Dn (r.thenS env f))
    (k : ∀ w cc v H' ca', Stp ca H ca' H' → CsOk K mg ca' H' cc → den ca' H' w v → KSt K mg Wx ca' H' Dn (f w cc) → Q v H') : KS K mg den (fun c d H => Wx c d σ H) ca H Q r := by
  cases r with
  | ok w cc => exact fun v H2 ca2 p c d => k w cc v H2 ca2 p c d (KSt.step p h)
  | raise x cc => exact fun cls dd H2 ca2 p c x => h cls dd σ H2 ca2 p (he.mono p) c x
  | stuck => exact h
theorem EvSt.bind {α β : Type} {den : Ca → Hp → α → β → Prop} {m : Env → M α} {f : Env → α → Cs → SR} {Dn : Ends} {σ : L2.St} {H : Hp} {Q : β → Hp → Prop}
    (h : EvSt K mg Wx (fun env cc => (m env cc).thenS env (f env)) Dn σ H)
    (k : ∀ env ca w cc v H', EnvOk K mg ca H' env σ → CsOk K mg ca H' cc → den ca H' w v → KSt K mg Wx ca H' Dn (f env w cc) → Q v H') : Ev K mg den Wx m σ H Q := by
  obtain ⟨env, ca, cc, he, hc, hk⟩ := h
  exact ⟨env, ca, cc, he, hc, KSt.bind he hk fun w c1 v H1 ca1 p c d q => k env ca1 w c1 v H1 (he.mono p) c d q⟩
def SR.seq (r : SR) (f : MS) : SR := match r with
  | .nx env cc => f env cc
  | r => r
def sSeq (a b : MS) : MS := fun env cc => (a env cc).seq b
def sNext : MS := fun env cc => .nx env cc
def sStuck : MS := fun _ _ => .stuck
def sRet (m : ME) : MS := fun env cc => (m env cc).thenS env fun w c => .rt w c
def sExpr (m : ME) : MS := fun env cc => (m env cc).thenS env fun _ c => .nx env c
def sSet (i : Nat) (m : ME) : MS := fun env cc => (m env cc).thenS env fun w c => .nx (env.set i (some w)) c
def sIf (t : Env → M Bool) (a b : MS) : MS := fun env cc => (t env cc).thenS env fun x c => if x = true then a env c else b env c
end
section
variable {X : Cx} {Wx : WX} {st : Stmt} {sts : List Stmt} {e c : Expr} {m : ME} {a b : MS} {pos : Pos}
theorem sv_stuck : PSv X Wx st sStuck := ⟨fun _ _ _ _ _ _ h => by
  obtain ⟨_, _, _, _, _, h⟩ := h
  exact h.elim⟩
theorem ssv_nil : PSsv X Wx [] sNext := pss_nil.imp fun Dn σ H h => by
  obtain ⟨env, ca, cc, he, hc, hk⟩ := h
  exact hk σ H ca (Stp.refl _ _) he hc
theorem ssv_one (h : PSv X Wx st a) : PSsv X Wx [st] a := pss_one h
theorem ssv_cons (h1 : PSv X Wx st a) (h2 : PSsv X Wx sts b) : PSsv X Wx (st :: sts) (sSeq a b) := (pss_cons h1 h2).imp fun Dn σ H h => by
  obtain ⟨env, ca, cc, he, hc, hk⟩ := h
  refine ⟨env, ca, cc, he, hc, ?_⟩
  unfold sSeq at hk
  cases q : a env cc with
  | nx env' cc' =>
    rw [q] at hk
    exact fun σ' H' ca' p he' hc' => ⟨env', ca', cc', he', hc', KSt.step p hk⟩
  | rt w cc' => rw [q] at hk; exact hk
  | bk env' cc' => rw [q] at hk; exact hk
  | ct env' cc' => rw [q] at hk; exact hk
  | raise x env' cc' => rw [q] at hk; exact hk
  | stuck => rw [q] at hk; exact hk
theorem sv_pass : PSv X Wx (.Pass pos) sNext := ps_pass.imp fun Dn σ H h => by
  obtain ⟨env, ca, cc, he, hc, hk⟩ := h
  exact hk σ H ca (Stp.refl _ _) he hc
theorem sv_ret (h : PEv X Wx e m) : PSv X Wx (.Return (some e) pos) (sRet m) := (ps_ret h).imp fun Dn σ H h =>
  EvSt.bind h fun env ca w cc v H' he hc d hk => hk v H' ca (Stp.refl _ _) hc d
theorem sv_expr (h : PEv X Wx e m) (hs : swapsWith e none pos.line X.env = pure false := by rfl) : PSv X Wx (.Expr e pos) (sExpr m) := (ps_expr h hs).imp fun Dn σ H h =>
  EvSt.bind h fun env ca w cc v H' he hc d hk => hk σ H' ca (Stp.refl _ _) he hc
theorem sv_set {i : Nat} {x : Str} {pos' : Pos} (hN : X.N.Nodup) (hi : X.N[i]? = some x) (hx : Loc X.env.scope x) (h : PEv X Wx e m) (hs : swapsWith e (some (.Name x pos')) pos.line X.env = pure false := by rfl)
    (hf : X.fn x = true ∨ X.env.scope.names.lookup x = some .local := by first | exact .inl rfl | exact .inr rfl | assumption) : PSv X Wx (.Assign [.Name x pos'] e pos) (sSet i m) := (ps_set hN hi hx h hs hf).imp fun Dn σ H h =>
  EvSt.bind h fun env ca w cc v H' he hc d hk => hk _ H' ca (Stp.refl _ _) (he.set d) hc
theorem sv_if {t : Env → M Bool} {as bs : List Stmt} (hc : PTv X Wx c t) (ha : PSsv X Wx as a) (hb : PSsv X Wx bs b) : PSv X Wx (.If c as bs pos) (sIf t a b) := (ps_if hc ha hb).imp fun Dn σ H h =>
  EvSt.bind h fun env ca w cc v H' he hc d hk => by
    have d' : w = v := d
    subst d'
    cases w with
    | true => exact ⟨env, ca, cc, he, hc, hk⟩
    | false => exact ⟨env, ca, cc, he, hc, hk⟩
end

/-! ### a def, by its body -/
def env0 (n : Nat) (ws : List W) : Env := ws.map some ++ List.replicate (n - ws.length) none
/-- how a value leaves: as it is, or frozen -/
def out (keep : Bool) (cc : Cs) (w : W) : R W := match keep with
  | true => .ok w cc
  | false => match frz cc w with
    | some (x, c) => .ok (.d x) c
    | none => .stuck
/-- a body's end, n the caller's cells -/
def endFn (n : Nat) : SR → R W
  | .nx _ cc => cut n (okBelow1 n) (.d .non) cc
  | .rt (.d x) cc => cut n (okBelow1 n) (.d x) cc
  | .rt (.cell m) cc => if m < n then cut n (okBelow1 n) (.cell m) cc else match frz cc (.cell m) with
    | some (x, c) => cut n (okBelow1 n) (.d x) c
    | none => .stuck
  | .raise x _ cc => if okBelow n (cc.take n) = true then .raise x (cc.take n) else .stuck
  | _ => .stuck
/-- a def: n names -/
def fnOf (n : Nat) (m : MS) : Fn := fun ws cc => endFn cc.length (m (env0 n ws) cc)
section
variable {K : PySem.W.Frag} {mg : Str → Option Value}
theorem envOk_start {N : List Str} {ca : Ca} {H : Hp} {ws : List W} {vs : List V} (d : DenWs K mg ca H ws vs) (hl : ws.length ≤ N.length) : EnvOk K mg ca H (env0 N.length ws) (L2.start N vs) := by
  have l := d.length
  refine ⟨by simp [env0, L2.start]; have := d.length; omega, fun i w e => ?_⟩
  unfold env0 at e
  by_cases hi : i < ws.length
  · rw [List.getElem?_append_left (by simpa using hi), List.getElem?_map] at e
    cases q : ws[i]? with
    | none => rw [q] at e; exact nomatch e
    | some w' =>
      rw [q] at e
      cases e
      obtain ⟨v, e1, d1⟩ := d.get q
      refine ⟨v, ?_, d1⟩
      unfold L2.start
      rw [List.getElem?_append_left (by simp; omega), List.getElem?_map, e1]
      rfl
  · rw [List.getElem?_append_right (by simpa using hi), List.getElem?_replicate] at e
    split at e <;> cases e
theorem ExOk.take {ca : Ca} {H : Hp} {x : Ex} {cls : Value} {dd : Option Addr} {n : Nat} (h : ExOk K mg ca H x cls dd) : ExOk K mg (ca.cut n) H x cls dd := by
  obtain ⟨Cl, d, vs, h1, h2, h3, h4, h5, h6, h7⟩ := h
  exact ⟨Cl, d, vs, h1, h2, h3, h4, fun z => h5 (live_take z), h6, DenL.mono Kp.take _ _ h7⟩
/-- the end of a body meets the promise -/
theorem end_ok {ca : Ca} {H : Hp} {Q : VK} {E : XK} {cc : Cs} {r : SR} (hl : ca.l.length = cc.length) (h : KS K mg (denV K mg) E ca H Q (endFn cc.length r)) :
    KSt K mg (fun c d _ H => E c d H) ca H { nx := fun _ H' => Q .non H', rt := Q } r := by
  have done : ∀ {w : W} {c : Cs} {v : V} {H' : Hp} {ca' : Ca}, KS K mg (denV K mg) E ca H Q (cut cc.length (okBelow1 cc.length) w c) → Stp ca H ca' H' → CsOk K mg ca' H' c → DenW K mg ca' H' w v → Q v H' := fun {w c v H' ca'} hk p hc d => by
    unfold cut at hk
    split at hk
    · rename_i hb
      have hl' : cc.length ≤ ca'.l.length := by rw [← hl]; exact p.len
      have p' := p.take
      rw [hl] at p'
      exact hk.now p' (hc.take hl' hb.1) (d.take hl' hb.2)
    · exact hk.elim
  cases r with
  | nx env c => exact fun σ H' ca' p he hc => done (v := .non) h p hc rfl
  | rt w c =>
    cases w with
    | d x => exact fun v H' ca' p hc d => done h p hc d
    | cell m =>
      simp only [endFn] at h
      split at h
      · exact fun v H' ca' p hc d => done h p hc d
      · split at h
        · rename_i x c2 e
          intro v H' ca' p hc d
          obtain ⟨ca2, p2, hc2, d2⟩ := frz_ok hc d e
          exact done (w := .d x) h (p.trans p2) hc2 d2
        · exact h.elim
  | bk env c => exact h.elim
  | ct env c => exact h.elim
  | raise x env c =>
    simp only [endFn] at h
    split at h
    · rename_i hb
      intro cls dd σ H' ca' p he hc hx
      have hl' : cc.length ≤ ca'.l.length := by rw [← hl]; exact p.len
      have p' := p.take
      rw [hl] at p'
      exact h cls dd H' _ p' (hc.take hl' hb) hx.take
    · exact h.elim
  | stuck => exact h.elim
end
section
variable {P : Program} {w : World} {K : PySem.W.Frag} {mg : (Str → Option Value)} {base : Heap}
/-- THE RULE for a def of the text -/
theorem fn_ok {x qual : Str} {params : Arguments} {body : List Stmt} {scope : Scope} {dvs : List V} {kws : List (Str × V)} {f : Addr} {fd : FuncData} {N ps : List Str} {k : Nat} {m : MS} (F : FunD K x qual params body scope dvs kws f fd) (S : FnScope N ps scope) (hl : ps.length ≤ N.length)
    (hb : ∀ (cdv : Value) (A : Around) (outer : List PySem.Env) (s : Shared) (H : Hp) (E : XK), Room k (A.deeper (envOfC qual scope s.heap.objs.size f cdv)) →
      Takes (cxOf (L2.CX P w) P w K mg base N qual scope f cdv A outer s H E) (fun c d _ H => E c d H) →
      PSsv (cxOf (L2.CX P w) P w K mg base N qual scope f cdv A outer s H E) (fun c d _ H => E c d H) body m) :
    FnOk P w K mg base (L2.CX P w) (k + 1) f fd ps (spOf K mg ps.length (fnOf N.length m)) := by
  refine F.ok S (fun vs H Q E h => ?_) (fun cdv A outer s H vs Q E hr h => ⟨_, hb cdv A outer s H E hr (takes_of rfl rfl rfl rfl), ?_⟩)
  · obtain ⟨ws, ca, cc, h1, h2, _⟩ := h
    rw [h2.length, h1]
  · obtain ⟨ws, ca, cc, h1, h2, hc, hk⟩ := h
    exact ⟨env0 N.length ws, ca, cc, envOk_start h2 (by omega), hc, end_ok hc.len hk⟩
end
end DL
set_option Elab.async false
set_option linter.all false
set_option maxRecDepth 100000
set_option maxHeartbeats 1900000
/-! DL3: operators, comparisons, subscripts, slices, built-ins. -/
namespace DL
open L2 PyProof.Rows PySem PySem.Spec

/-! ### data as the library compares it -/
mutual
/-- as the library's data (what it has no word for: None) -/
def py : D → PyData
  | .bl b => .bool b
  | .int i => .int i
  | .str x => .str x
  | .tup ds => .tuple (pys ds)
  | .lst ds => .list (pys ds)
  | _ => .none
def pys : List D → List PyData
  | [] => []
  | x :: xs => py x :: pys xs
end
mutual
/-- the library has a word for it -/
def isPy : D → Bool
  | .non => true
  | .bl _ => true
  | .int _ => true
  | .str _ => true
  | .tup ds => arePy ds
  | .lst ds => arePy ds
  | _ => false
def arePy : List D → Bool
  | [] => true
  | x :: xs => isPy x && arePy xs
end
section
variable {K : PySem.W.Frag} {mg : Str → Option Value} {ca : Ca} {H : Hp}
mutual
theorem dp_of : ∀ (x : D) (v : V), DenD K mg (Live ca) H x v → isPy x = true → Dp K H v (py x)
  | .non, _, h, _ => by cases (show _ = V.non from h); exact .non
  | .bl b, _, h, _ => by cases (show _ = V.bl b from h); exact .bl b
  | .int i, _, h, _ => by cases (show _ = V.int i from h); exact .int i
  | .str x, _, h, _ => by cases (show _ = V.str x from h); exact .str x
  | .tup ds, _, h, e => by
    simp only [DenD] at h
    obtain ⟨a, vs, rfl, h1, h2⟩ := h
    exact .tup (h1.elim (fun z => .inl (.inl z.2)) .inr) (dps_of ds vs h2 e)
  | .lst ds, _, h, e => by
    simp only [DenD] at h
    obtain ⟨a, vs, rfl, _, h1, h2⟩ := h
    exact .lst (.inl (.inl h1)) (dps_of ds vs h2 e)
  | .scr _, _, _, e => by cases e
  | .dct _ _, _, _, e => by cases e
  | .obj _ _ _, _, _, e => by cases e
  | .glo _, _, _, e => by cases e
  | .ty _, _, _, e => by cases e
  | .dkn _, _, _, e => by cases e
theorem dps_of : ∀ (xs : List D) (vs : List V), DenL K mg (Live ca) H xs vs → arePy xs = true → DpAll K H vs (pys xs)
  | [], _, h, _ => by cases (show _ = [] from h); exact .nil
  | x :: xs, _, h, e => by
    simp only [DenL] at h
    obtain ⟨v, vr, rfl, h1, h2⟩ := h
    simp only [arePy, Bool.and_eq_true] at e
    exact .cons (dp_of x v h1 e.1) (dps_of xs vr h2 e.2)
end
theorem dp_t {x : D} {v : V} (h : DenT K mg ca H x v) (e : isPy x = true) : Dp K H v (py x) := by
  cases x with
  | tup ds =>
    obtain ⟨a, vs, rfl, h1, h2⟩ := h
    exact .tup h1.sq (dps_of ds vs h2 e)
  | lst ds =>
    obtain ⟨a, vs, rfl, h1, h2⟩ := h
    exact .lst (.inl (.inl h1)) (dps_of ds vs h2 e)
  | dct ks ds => cases e
  | _ => exact dp_of (mg := mg) (ca := ca) _ v h e
end
/-! ### texts compared, fast -/
def eqL : List Nat → List Nat → Bool
  | [], [] => true
  | a :: r, b :: t => Nat.beq a b && eqL r t
  | _, _ => false
theorem eqL_iff : ∀ {a b : List Nat}, eqL a b = true ↔ a = b
  | [], [] => by simp [eqL]
  | [], _ :: _ => by simp [eqL]
  | _ :: _, [] => by simp [eqL]
  | a :: r, b :: t => by
    simp only [eqL, Bool.and_eq_true, eqL_iff (a := r) (b := t), List.cons.injEq]
    exact ⟨fun h => ⟨Nat.eq_of_beq_eq_true h.1, h.2⟩, fun h => ⟨by rw [h.1]; exact Nat.beq_refl b, h.2⟩⟩
def eqS (a b : Str) : Bool := eqL a.cps.toList b.cps.toList
theorem eqS_iff {a b : Str} : eqS a b = true ↔ a = b := by
  unfold eqS
  rw [eqL_iff]
  constructor
  · intro h
    obtain ⟨x⟩ := a
    obtain ⟨y⟩ := b
    rw [show x = y from Array.toList_inj.mp h]
  · intro h
    rw [h]
/-! ### data compared, fast -/
def b01 (b : Bool) : Int := if b = true then 1 else 0
mutual
def eqD : D → D → Bool
  | .non, .non => true
  | .bl a, .bl b => a == b
  | .bl a, .int j => decide (b01 a = j)
  | .int i, .bl b => decide (i = b01 b)
  | .int i, .int j => decide (i = j)
  | .str x, .str y => eqS x y
  | .lst xs, .lst ys => eqDs xs ys
  | .tup xs, .tup ys => eqDs xs ys
  | _, _ => false
def eqDs : List D → List D → Bool
  | [], [] => true
  | x :: xs, y :: ys => eqD x y && eqDs xs ys
  | _, _ => false
end
mutual
/-- may be compared: n levels deep -/
def ck : D → Nat → Bool
  | .non, _ => true
  | .bl _, _ => true
  | .int _, _ => true
  | .str x, _ => x.cps.toList.all fun c => Nat.blt c 0x110000
  | .tup ds, n => Nat.blt 0 n && cks ds (n - 1)
  | .lst ds, n => Nat.blt 0 n && cks ds (n - 1)
  | _, _ => false
def cks : List D → Nat → Bool
  | [], _ => true
  | x :: xs, n => ck x n && cks xs n
end
mutual
theorem eqD_ok : ∀ (x y : D), isPy x = true → isPy y = true → PyData.eqv (py x) (py y) = eqD x y
  | .non, y, _, h => by cases y <;> first | rfl | cases h
  | .bl a, y, _, h => by cases y <;> first | rfl | cases h
  | .int i, y, _, h => by cases y <;> first | rfl | cases h
  | .str x, y, _, h => by
    cases y <;> first | rfl | cases h | skip
    rename_i z
    simp only [py, PyData.eqv, eqD]
    rw [Bool.eq_iff_iff, eqS_iff]
    exact beq_iff_eq
  | .tup xs, y, h1, h2 => by
    cases y <;> first | rfl | cases h2 | skip
    all_goals first | rfl | skip
    rename_i ys
    simp only [py, PyData.eqv, eqD]
    exact eqDs_ok xs ys h1 h2
  | .lst xs, y, h1, h2 => by
    cases y <;> first | rfl | cases h2 | skip
    all_goals first | rfl | skip
    rename_i ys
    simp only [py, PyData.eqv, eqD]
    exact eqDs_ok xs ys h1 h2
  | .scr _, _, h, _ => by cases h
  | .dct _ _, _, h, _ => by cases h
  | .obj _ _ _, _, h, _ => by cases h
  | .glo _, _, h, _ => by cases h
  | .ty _, _, h, _ => by cases h
  | .dkn _, _, h, _ => by cases h
theorem eqDs_ok : ∀ (xs ys : List D), arePy xs = true → arePy ys = true → PyData.eqvAll (pys xs) (pys ys) = eqDs xs ys
  | [], [], _, _ => rfl
  | [], _ :: _, _, _ => rfl
  | _ :: _, [], _, _ => rfl
  | x :: xs, y :: ys, h1, h2 => by
    simp only [arePy, Bool.and_eq_true] at h1 h2
    simp only [pys, PyData.eqvAll, eqDs]
    rw [eqD_ok x y h1.1 h2.1, eqDs_ok xs ys h1.2 h2.2]
end
mutual
theorem ck_ok : ∀ (x : D) (n : Nat), ck x n = true → isPy x = true ∧ PyData.canLay0 (py x) = true ∧ PyData.depth (py x) ≤ n
  | .non, n, _ => ⟨rfl, rfl, Nat.zero_le _⟩
  | .bl _, n, _ => ⟨rfl, rfl, Nat.zero_le _⟩
  | .int _, n, _ => ⟨rfl, rfl, Nat.zero_le _⟩
  | .str x, n, h => by
    refine ⟨rfl, ?_, Nat.zero_le _⟩
    show x.cps.all (fun c => decide (c < 0x110000)) = true
    rw [← Array.all_toList]
    simp only [ck, List.all_eq_true] at h ⊢
    intro c hc
    have := h c hc
    simp only [Nat.blt, Nat.ble_eq] at this
    exact decide_eq_true this
  | .tup ds, n, h => by
    simp only [ck, Bool.and_eq_true, Nat.blt, Nat.ble_eq] at h
    obtain ⟨h1, h2, h3⟩ := cks_ok ds (n - 1) h.2
    exact ⟨h1, h2, by show PyData.depthAll (pys ds) + 1 ≤ n; omega⟩
  | .lst ds, n, h => by
    simp only [ck, Bool.and_eq_true, Nat.blt, Nat.ble_eq] at h
    obtain ⟨h1, h2, h3⟩ := cks_ok ds (n - 1) h.2
    exact ⟨h1, h2, by show PyData.depthAll (pys ds) + 1 ≤ n; omega⟩
  | .scr _, _, h => by cases h
  | .dct _ _, _, h => by cases h
  | .obj _ _ _, _, h => by cases h
  | .glo _, _, h => by cases h
  | .ty _, _, h => by cases h
  | .dkn _, _, h => by cases h
theorem cks_ok : ∀ (xs : List D) (n : Nat), cks xs n = true → arePy xs = true ∧ PyData.canLayAll0 (pys xs) = true ∧ PyData.depthAll (pys xs) ≤ n
  | [], n, _ => ⟨rfl, rfl, Nat.zero_le _⟩
  | x :: xs, n, h => by
    simp only [cks, Bool.and_eq_true] at h
    obtain ⟨a1, a2, a3⟩ := ck_ok x n h.1
    obtain ⟨b1, b2, b3⟩ := cks_ok xs n h.2
    refine ⟨?_, ?_, ?_⟩
    · simp [arePy, a1, b1]
    · simp [pys, PyData.canLayAll0, a2, b2]
    · show max (PyData.depth (py x)) (PyData.depthAll (pys xs)) ≤ n
      omega
end
/-- what can be compared -/
def cmpD (x : D) : Bool := ck x 64
theorem cmpD_ok {x : D} (h : cmpD x = true) : isPy x = true ∧ SeqAt.shaped (py x) = true := by
  obtain ⟨h1, h2, h3⟩ := ck_ok x 64 h
  exact ⟨h1, Bool.and_eq_true_iff.mpr ⟨h2, decide_eq_true h3⟩⟩
theorem any_eqD {ds : List D} {x : D} (h1 : arePy ds = true) (h2 : isPy x = true) : ((pys ds).any fun z => PyData.eqv z (py x)) = ds.any fun z => eqD z x := by
  induction ds with
  | nil => rfl
  | cons d ds ih =>
    simp only [arePy, Bool.and_eq_true] at h1
    simp only [pys, List.any_cons, eqD_ok d x h1.1 h2, ih h1.2]
theorem count_eqD {ds : List D} {x : D} (h1 : arePy ds = true) (h2 : isPy x = true) : ((pys ds).countP fun z => PyData.eqv z (py x)) = ds.countP fun z => eqD z x := by
  induction ds with
  | nil => rfl
  | cons d ds ih =>
    simp only [arePy, Bool.and_eq_true] at h1
    simp only [pys, List.countP_cons, eqD_ok d x h1.1 h2, ih h1.2]
def dEqB (x y : D) : Option Bool := if cmpD x = true ∧ cmpD y = true then some (eqD x y) else none
def dEq (x y : D) : Option D := (dEqB x y).map .bl
def dNe (x y : D) : Option D := (dEqB x y).map fun b => .bl (!b)
/-- a sign, a text in a text -/
def inStr (a b : Str) : Bool := match a.cps.toList with
  | [c] => b.cps.toList.any fun d => Nat.beq d c
  | _ => !(Builtin.Str.occurrences b a 0 b.length 1).isEmpty
theorem inStr_eq (a b : Str) : inStr a b = !(Builtin.Str.occurrences b a 0 b.length 1).isEmpty := by
  unfold inStr
  split
  · rename_i c h
    have e : a = ⟨#[c]⟩ := by
      obtain ⟨x⟩ := a
      have h' : x.toList = [c] := h
      rw [show x = #[c] from Array.toList_inj.mp h']
    subst e
    rw [PySem.StrLaws.found_one]
    rw [Bool.eq_iff_iff]
    simp only [List.any_eq_true, decide_eq_true_eq]
    constructor
    · rintro ⟨d, hd, e⟩
      rw [← Nat.eq_of_beq_eq_true e]
      exact hd
    · intro hd
      exact ⟨c, hd, Nat.beq_refl c⟩
  · rfl
def dIn0 (x y : D) : Option Bool := match x, y with
  | .str a, .str b => some (inStr a b)
  | x, .lst ds => if cmpD x = true ∧ cmpD (.lst ds) = true then some (ds.any fun z => eqD z x) else none
  | x, .tup ds => if cmpD x = true ∧ cmpD (.tup ds) = true then some (ds.any fun z => eqD z x) else none
  | _, _ => none
def dIn (x y : D) : Option D := (dIn0 x y).map .bl
def dNotIn (x y : D) : Option D := (dIn0 x y).map fun b => .bl (!b)
def dInt2 (p : Int → Int → Bool) (x y : D) : Option D := match x, y with
  | .int i, .int j => some (.bl (p i j))
  | _, _ => none
def dLt := dInt2 fun i j => decide (i < j)
def dLe := dInt2 fun i j => decide (i ≤ j)
def dGt := dInt2 fun i j => decide (j < i)
def dGe := dInt2 fun i j => decide (j ≤ i)
def dIs0 (x y : D) : Option Bool := match x, y with
  | .non, .non => some true
  | .bl a, .bl b => some (decide (a = b))
  | .bl _, .non => some false
  | .int _, .non => some false
  | .str _, .non => some false
  | .tup _, .non => some false
  | .lst _, .non => some false
  | .dct _ _, .non => some false
  | .obj _ _ _, .non => some false
  | _, _ => none
def dIs (x y : D) : Option D := (dIs0 x y).map .bl
def dIsNot (x y : D) : Option D := (dIs0 x y).map fun b => .bl (!b)
def small (i : Int) : Bool := decide (-(2 ^ 64) < i ∧ i < 2 ^ 64)
def dAdd (x y : D) : Option D := match x, y with
  | .int i, .int j => some (.int (i + j))
  | .str a, .str b => if a.length + b.length ≤ CAP then some (.str (a ++ b)) else none
  | .tup a, .tup b => if a.length + b.length ≤ CAP then some (.tup (a ++ b)) else none
  | .lst a, .lst b => if a.length + b.length ≤ CAP then some (.lst (a ++ b)) else none
  | _, _ => none
def dSub (x y : D) : Option D := match x, y with
  | .int i, .int j => some (.int (i - j))
  | _, _ => none
def repL (n : Nat) (ds : List D) : List D := (List.replicate n ds).flatten
def dMul (x y : D) : Option D := match x, y with
  | .int i, .int j => if small i = true ∨ small j = true then some (.int (i * j)) else none
  | _, _ => none
def dFdiv (x y : D) : Option D := match x, y with
  | .int i, .int j => if j ≠ 0 ∧ j.natAbs < 1073741824 then some (.int (i.fdiv j)) else none
  | _, _ => none
def dMod (x y : D) : Option D := match x, y with
  | .int i, .int j => if j ≠ 0 then some (.int (i.fmod j)) else none
  | _, _ => none
def dPow (x y : D) : Option D := match x, y with
  | .int i, .int j => if 0 ≤ j ∧ j ≤ 1000000 ∧ i.natAbs < 2 ^ 64 then some (.int (i ^ j.toNat)) else none
  | _, _ => none

/-- an operator on data -/
def OpD (X : Cx) (r : R2) (g : D → D → Option D) : Prop :=
  ∀ {ca : Ca} {cc : Cs} {H : Hp} {x y z : D} {v u : V} {Q : VK}, CsOk X.K X.mg ca H cc → DenT X.K X.mg ca H x v → DenT X.K X.mg ca H y u → g x y = some z →
    (∀ v' H', Stp ca H ca H' → CsOk X.K X.mg ca H' cc → DenD X.K X.mg (Live ca) H' z v' → Q v' H') → r v u H Q
def mOp (g : D → D → Option D) (a b : ME) : ME := fun env cc => (a env cc).bind fun w c => (b env c).bind fun u c2 => match see c2 w, see c2 u with
  | some x, some y => match g x y with
    | some z => .ok (.d z) c2
    | none => .stuck
  | _, _ => .stuck
section
variable {X : Cx} {Wx : WX} {a b : Expr} {ma mb : ME} {r : R2} {g : D → D → Option D} {pos : Pos}
theorem op_read {σ : L2.St} {H : Hp} {Q : VK} (hd : OpD X r g) (h : EvE X Wx (mOp g ma mb) σ H Q) : tOp r (EvE X Wx ma) (EvE X Wx mb) σ H Q :=
  Ev.bind h fun env ca w cc v H' he hc d hk => ⟨env, ca, cc, he, hc, KS.bind hk fun u c2 v2 H2 ca2 p hc2 d2 hk2 => by
    split at hk2
    · rename_i x y e1 e2
      split at hk2
      · rename_i z e3
        exact hd hc2 (see_ok hc2 (d.mono p) e1) (see_ok hc2 d2 e2) e3 fun v' H' q1 q2 q3 => hk2.now q1 q2 q3
      · exact hk2.elim
    · exact hk2.elim⟩
theorem pv_op {op : Operator} (ho : OpR X (binaryOp op) r) (hd : OpD X r g) (ha : PEv X Wx a ma) (hb : PEv X Wx b mb) : PEv X Wx (.BinOp a op b pos) (mOp g ma mb) := (pe_op ho ha hb).imp fun _ _ _ h => op_read hd h
theorem pv_cmp {op : CmpOp} (ho : OpR X (compareOp op) r) (hd : OpD X r g) (ha : PEv X Wx a ma) (hb : PEv X Wx b mb) (hm : behindInMarks op b = false) : PEv X Wx (.Compare a [op] [b] pos) (mOp g ma mb) := (pe_cmpR ho ha hb hm).imp fun _ _ _ h => op_read hd h
theorem tv_cmp {op : CmpOp} (ho : OpR X (compareOp op) r) (hd : OpD X r g) (ha : PEv X Wx a ma) (hb : PEv X Wx b mb) (hm : behindInMarks op b = false) : PTv X Wx (.Compare a [op] [b] pos) (mT (mOp g ma mb)) :=
  (pt_cmpR ho ha hb hm).imp fun _ _ _ h => op_read hd (EvB.of h)
/-- a < b < c -/
def mChain (g g' : D → D → Option D) (a b c : ME) : ME := fun env cc => (a env cc).bind fun w c1 => (b env c1).bind fun u c2 => match see c2 w, see c2 u with
  | some x, some y => match g x y with
    | some (.bl true) => (c env c2).bind fun t c3 => match see c3 u, see c3 t with
      | some y', some z => match g' y' z with
        | some r => .ok (.d r) c3
        | none => .stuck
      | _, _ => .stuck
    | some (.bl false) => .ok (.d (.bl false)) c2
    | _ => .stuck
  | _, _ => .stuck
theorem chain_read {c : Expr} {mc : ME} {r' : R2} {g' : D → D → Option D} {σ : L2.St} {H : Hp} {Q : VK} (hd : OpD X r g) (hd' : OpD X r' g') (h : EvE X Wx (mChain g g' ma mb mc) σ H Q) : tChain r r' (EvE X Wx ma) (EvE X Wx mb) (EvE X Wx mc) σ H Q :=
  Ev.bind h fun env ca w cc v H' he hc d hk => ⟨env, ca, cc, he, hc, KS.bind hk fun u c2 v2 H2 ca2 p hc2 d2 hk2 => by
    split at hk2
    · rename_i x y e1 e2
      split at hk2
      · rename_i e3
        refine hd hc2 (see_ok hc2 (d.mono p) e1) (see_ok hc2 d2 e2) e3 fun v' H3 q1 q2 q3 => ⟨true, q3, ?_⟩
        rw [if_pos rfl]
        refine ⟨env, ca2, c2, (he.mono p).mono q1, q2, KS.bind (KS.step q1 hk2) fun t c3 v3 H4 ca4 p4 hc4 d4 hk4 => ?_⟩
        split at hk4
        · rename_i y' z e4 e5
          split at hk4
          · rename_i rr e6
            exact hd' hc4 (see_ok hc4 ((d2.mono q1).mono p4) e4) (see_ok hc4 d4 e5) e6 fun v' H' q1 q2 q3 => hk4.now q1 q2 q3
          · exact hk4.elim
        · exact hk4.elim
      · rename_i e3
        refine hd hc2 (see_ok hc2 (d.mono p) e1) (see_ok hc2 d2 e2) e3 fun v' H3 q1 q2 q3 => ⟨false, q3, ?_⟩
        rw [if_neg (by decide : ¬ false = true)]
        exact hk2.now q1 q2 rfl
      · exact hk2.elim
    · exact hk2.elim⟩
end
section
variable {X : Cx}
theorem opd_of {r : R2} {g : D → D → Option D} (h : ∀ {ca : Ca} {H : Hp} {x y z : D} {v u : V} {Q : VK}, DenT X.K X.mg ca H x v → DenT X.K X.mg ca H y u → g x y = some z → (∀ v', (∀ ca : Ca, DenD X.K X.mg (Live ca) H z v') → Q v' H) → r v u H Q) : OpD X r g :=
  fun hc dx dy e k => h dx dy e fun v' d => k v' _ (Stp.refl _ _) hc (d _)
def rI2 (p : Int → Int → Bool) : R2 := rI0 fun i j => .bl (p i j)
theorem opd_int2 {p : Int → Int → Bool} : OpD X (rI0 fun i j => .bl (p i j)) (dInt2 p) := opd_of fun {ca H x y z v u Q} dx dy e k => by
  unfold dInt2 at e
  split at e
  · rename_i i j
    cases e
    exact ⟨i, j, dx, dy, k _ fun _ => rfl⟩
  · cases e
theorem opd_lt : OpD X (rI0 fun i j => .bl (decide (i < j))) dLt := opd_int2
theorem opd_le : OpD X (rI0 fun i j => .bl (decide (i ≤ j))) dLe := opd_int2
theorem opd_gt : OpD X (rI0 fun i j => .bl (decide (j < i))) dGt := opd_int2
theorem opd_ge : OpD X (rI0 fun i j => .bl (decide (j ≤ i))) dGe := opd_int2
theorem opd_eq : OpD X (rEqD X.K) dEq := opd_of fun {ca H x y z v u Q} dx dy e k => by
  unfold dEq dEqB at e
  split at e
  · rename_i hh
    cases e
    have h1 := cmpD_ok hh.1
    have h2 := cmpD_ok hh.2
    refine ⟨_, _, dp_t dx h1.1, dp_t dy h2.1, h1.2, h2.2, ?_⟩
    rw [eqD_ok _ _ h1.1 h2.1]
    exact k _ fun _ => rfl
  · cases e
theorem opd_ne : OpD X (rNeD X.K) dNe := opd_of fun {ca H x y z v u Q} dx dy e k => by
  unfold dNe dEqB at e
  split at e
  · rename_i hh
    cases e
    have h1 := cmpD_ok hh.1
    have h2 := cmpD_ok hh.2
    refine ⟨_, _, dp_t dx h1.1, dp_t dy h2.1, h1.2, h2.2, ?_⟩
    rw [eqD_ok _ _ h1.1 h2.1]
    exact k _ fun _ => rfl
  · cases e
/-- x in y: texts; a list, a tuple of data -/
def rInA (K : PySem.W.Frag) (neg : Bool) : R2 := fun x y H Q => (∃ i j, x = .str i ∧ y = .str j ∧ Q (.bl (neg != !(Builtin.Str.occurrences j i 0 j.length 1).isEmpty)) H) ∨
  (∃ d ds, Dp K H x d ∧ (Dp K H y (.list ds) ∨ Dp K H y (.tuple ds)) ∧ SeqAt.shaped d = true ∧ PyData.canLayAll0 ds = true ∧ Q (.bl (neg != ds.any fun z => PyData.eqv z d)) H)
theorem op_inA (hu : X.A.units + 65 < cLine) : OpR X (compareOp .In) (rInA X.K false) := by
  rintro pins s σ H x y v u Q I rx ry h
  rcases h with ⟨i, j, e1, e2, q⟩ | ⟨d, ds, hd, he, sd, sl, q⟩
  · exact op_in_str pins s σ H x y v u Q I rx ry ⟨i, j, e1, e2, by simpa using q⟩
  · obtain ⟨as, r1⟩ := Dp.reads I d x v hd rx
    rcases he with he | he
    · obtain ⟨bs, r2⟩ := Dp.reads I (.list ds) y u he ry
      exact SeqAt.in_list_reads r2 r1 sl (SeqAt.canLay_of_shaped sd) (room_in_shaped sd hu) ⟨.bl _, H, I, rfl, by simpa using q⟩
    · obtain ⟨bs, r2⟩ := Dp.reads I (.tuple ds) y u he ry
      exact SeqAt.in_tuple_reads r2 r1 sl (SeqAt.canLay_of_shaped sd) (room_in_shaped sd hu) ⟨.bl _, H, I, rfl, by simpa using q⟩
theorem op_notInA (hu : X.A.units + 65 < cLine) : OpR X (compareOp .NotIn) (rInA X.K true) := by
  rintro pins s σ H x y v u Q I rx ry h
  rcases h with ⟨i, j, e1, e2, q⟩ | ⟨d, ds, hd, he, sd, sl, q⟩
  · exact op_notin_str pins s σ H x y v u Q I rx ry ⟨i, j, e1, e2, by simpa using q⟩
  · obtain ⟨as, r1⟩ := Dp.reads I d x v hd rx
    rcases he with he | he
    · obtain ⟨bs, r2⟩ := Dp.reads I (.list ds) y u he ry
      exact SeqAt.notIn_list_reads r2 r1 sl (SeqAt.canLay_of_shaped sd) (room_in_shaped sd hu) ⟨.bl _, H, I, rfl, by simpa using q⟩
    · obtain ⟨bs, r2⟩ := Dp.reads I (.tuple ds) y u he ry
      exact SeqAt.notIn_tuple_reads r2 r1 sl (SeqAt.canLay_of_shaped sd) (room_in_shaped sd hu) ⟨.bl _, H, I, rfl, by simpa using q⟩
theorem inA_of {ca : Ca} {H : Hp} {x y : D} {b neg : Bool} {v u : V} {Q : VK} (dx : DenT X.K X.mg ca H x v) (dy : DenT X.K X.mg ca H y u) (e : dIn0 x y = some b) (k : Q (.bl (neg != b)) H) : rInA X.K neg v u H Q := by
  unfold dIn0 at e
  split at e
  · rename_i i j
    cases e
    rw [inStr_eq] at k
    exact .inl ⟨i, j, dx, dy, k⟩
  · split at e
    · rename_i hh
      cases e
      have h1 := cmpD_ok hh.1
      have h2 := cmpD_ok hh.2
      rw [← any_eqD (by simpa [isPy] using h2.1) h1.1] at k
      exact .inr ⟨_, _, dp_t dx h1.1, .inl (dp_t dy h2.1), h1.2, by simpa [PyData.canLay0, py] using SeqAt.canLay_of_shaped h2.2, k⟩
    · cases e
  · split at e
    · rename_i hh
      cases e
      have h1 := cmpD_ok hh.1
      have h2 := cmpD_ok hh.2
      rw [← any_eqD (by simpa [isPy] using h2.1) h1.1] at k
      exact .inr ⟨_, _, dp_t dx h1.1, .inr (dp_t dy h2.1), h1.2, by simpa [PyData.canLay0, py] using SeqAt.canLay_of_shaped h2.2, k⟩
    · cases e
  · cases e
theorem opd_in : OpD X (rInA X.K false) dIn := opd_of fun {ca H x y z v u Q} dx dy e k => by
  unfold dIn at e
  cases q : dIn0 x y with
  | none => rw [q] at e; exact nomatch e
  | some b =>
    rw [q] at e
    cases e
    exact inA_of dx dy q (by simpa using k (.bl b) fun _ => rfl)
theorem opd_notIn : OpD X (rInA X.K true) dNotIn := opd_of fun {ca H x y z v u Q} dx dy e k => by
  unfold dNotIn at e
  cases q : dIn0 x y with
  | none => rw [q] at e; exact nomatch e
  | some b =>
    rw [q] at e
    cases e
    exact inA_of dx dy q (by simpa using k (.bl (!b)) fun _ => rfl)
/-- is None, is True -/
def rIsA (neg : Bool) : R2 := fun x y H Q => (y = .non ∧ Q (.bl (neg != decide (x = .non))) H) ∨ (∃ a b, x = .bl a ∧ y = .bl b ∧ Q (.bl (neg != decide (a = b))) H)
theorem op_isA : OpR X (compareOp .Is) (rIsA false) := by
  rintro pins s σ H x y v u Q I rx ry h
  rcases h with ⟨e, q⟩ | ⟨a, b, e1, e2, q⟩
  · exact op_isN pins s σ H x y v u Q I rx ry ⟨e, by simpa using q⟩
  · exact op_is_bl pins s σ H x y v u Q I rx ry ⟨a, b, e1, e2, by simpa using q⟩
theorem op_isNotA : OpR X (compareOp .IsNot) (rIsA true) := by
  rintro pins s σ H x y v u Q I rx ry h
  rcases h with ⟨e, q⟩ | ⟨a, b, e1, e2, q⟩
  · exact op_notN pins s σ H x y v u Q I rx ry ⟨e, by simpa using q⟩
  · exact op_isnot_bl pins s σ H x y v u Q I rx ry ⟨a, b, e1, e2, by simpa using q⟩
theorem isA_of {ca : Ca} {H : Hp} {x y : D} {b neg : Bool} {v u : V} {Q : VK} (dx : DenT X.K X.mg ca H x v) (dy : DenT X.K X.mg ca H y u) (e : dIs0 x y = some b) (k : Q (.bl (neg != b)) H) : rIsA neg v u H Q := by
  unfold dIs0 at e
  split at e
  · cases e; cases (show v = .non from dx); exact .inl ⟨dy, by simpa using k⟩
  · rename_i a c; cases e; exact .inr ⟨a, c, dx, dy, k⟩
  · rename_i a; cases e; cases (show v = .bl a from dx); exact .inl ⟨dy, by simpa using k⟩
  · rename_i a; cases e; cases (show v = .int a from dx); exact .inl ⟨dy, by simpa using k⟩
  · rename_i a; cases e; cases (show v = .str a from dx); exact .inl ⟨dy, by simpa using k⟩
  · cases e; obtain ⟨a, vs, rfl, _⟩ := dx; exact .inl ⟨dy, by simpa using k⟩
  · cases e; obtain ⟨a, vs, rfl, _⟩ := dx; exact .inl ⟨dy, by simpa using k⟩
  · cases e; obtain ⟨a, vs, rfl, _⟩ := dx; exact .inl ⟨dy, by simpa using k⟩
  · cases e; obtain ⟨a, vs, b, d, rfl, _⟩ := dx; exact .inl ⟨dy, by simpa using k⟩
  · cases e
theorem opd_is : OpD X (rIsA false) dIs := opd_of fun {ca H x y z v u Q} dx dy e k => by
  unfold dIs at e
  cases q : dIs0 x y with
  | none => rw [q] at e; exact nomatch e
  | some b =>
    rw [q] at e
    cases e
    exact isA_of dx dy q (by simpa using k (.bl b) fun _ => rfl)
theorem opd_isNot : OpD X (rIsA true) dIsNot := opd_of fun {ca H x y z v u Q} dx dy e k => by
  unfold dIsNot at e
  cases q : dIs0 x y with
  | none => rw [q] at e; exact nomatch e
  | some b =>
    rw [q] at e
    cases e
    exact isA_of dx dy q (by simpa using k (.bl (!b)) fun _ => rfl)

theorem tup_back {K : PySem.W.Frag} {mg : Str → Option Value} {ca : Ca} {H : Hp} {cc : Cs} (hc : CsOk K mg ca H cc) {a : Addr} {vs : List V} {ds : List D} (h1 : TupAt K H a vs) (h2 : DenL K mg (Live ca) H ds vs) : DenD K mg (Live ca) H (.tup ds) (.ref a) := by
  refine ⟨a, vs, rfl, h1.elim (fun z => .inl ⟨fun l => ?_, z⟩) .inr, h2⟩
  obtain ⟨o, e, m⟩ := hc.mut l
  rw [z] at e
  cases e
  exact m
/-- + of numbers, texts, tuples, lists -/
def rAddA (K : PySem.W.Frag) : R2 := fun x y H Q => (rI0 fun i j => .int (i + j)) x y H Q ∨ (fun x y H Q => ∃ i j, x = V.str i ∧ y = V.str j ∧ i.length + j.length ≤ sizeLine ∧ Q (.str (i ++ j)) H) x y H Q ∨ rCatA K x y H Q ∨ rCat x y H Q
theorem op_addA : OpR X (binaryOp .Add) (rAddA X.K) := op_add.or (op_add_str.or (op_catA.or op_cat))
theorem opd_add : OpD X (rAddA X.K) dAdd := fun {ca cc H x y z v u Q} hc dx dy e k => by
  unfold dAdd at e
  split at e
  · rename_i i j
    cases e
    exact .inl ⟨i, j, dx, dy, k _ _ (Stp.refl _ _) hc rfl⟩
  · rename_i i j
    split at e
    · rename_i hl
      cases e
      exact .inr (.inl ⟨i, j, dx, dy, cap_ok hl, k _ _ (Stp.refl _ _) hc rfl⟩)
    · cases e
  · rename_i i j
    split at e
    · rename_i hl
      cases e
      obtain ⟨a, vs, rfl, h1, h2⟩ := dx
      obtain ⟨b, us, rfl, h3, h4⟩ := dy
      have back := @tup_back X.K X.mg ca H cc hc
      refine .inr (.inr (.inl ⟨a, b, vs, us, rfl, rfl, h1.sq, h3.sq, cap_ok (by rw [h2.length, h4.length]; exact hl), fun e => ?_, fun n e => ?_, fun n1 n2 p hp => ?_⟩))
      · subst e
        have e1 : i = [] := by have := h2.length; simpa using this.symm
        subst e1
        exact k _ _ (Stp.refl _ _) hc (back h3 h4)
      · subst e
        have e1 : j = [] := by have := h4.length; simpa using this.symm
        subst e1
        exact k _ _ (Stp.refl _ _) hc (by simpa using back h1 h2)
      · exact k _ _ (Stp.new hc hp) (hc.new hp) (den_tup_new hc (h2.append h4) hp)
    · cases e
  · rename_i i j
    split at e
    · rename_i hl
      cases e
      obtain ⟨a, vs, rfl, h1, h2⟩ := dx
      obtain ⟨b, us, rfl, h3, h4⟩ := dy
      exact .inr (.inr (.inr ⟨a, b, vs, us, rfl, rfl, h1, h3, cap_ok (by rw [h2.length, h4.length]; exact hl), fun p hp => k _ _ (Stp.new hc hp) (hc.new hp) (den_lst_new hc (h2.append h4) hp)⟩))
    · cases e
  · cases e
theorem opd_sub : OpD X (rI0 fun i j => .int (i - j)) dSub := opd_of fun {ca H x y z v u Q} dx dy e k => by
  unfold dSub at e
  split at e
  · rename_i i j
    cases e
    exact ⟨i, j, dx, dy, k _ fun _ => rfl⟩
  · cases e
theorem opd_mul : OpD X (rI CMul fun i j => .int (i * j)) dMul := opd_of fun {ca H x y z v u Q} dx dy e k => by
  unfold dMul at e
  split at e
  · rename_i i j
    split at e
    · rename_i hs
      cases e
      exact ⟨i, j, dx, dy, hs.imp of_decide_eq_true of_decide_eq_true, k _ fun _ => rfl⟩
    · cases e
  · cases e
theorem opd_fdiv : OpD X (rI CDivN fun i j => .int (i.fdiv j)) dFdiv := opd_of fun {ca H x y z v u Q} dx dy e k => by
  unfold dFdiv at e
  split at e
  · rename_i i j
    split at e
    · rename_i hs
      cases e
      exact ⟨i, j, dx, dy, hs, k _ fun _ => rfl⟩
    · cases e
  · cases e
theorem opd_mod : OpD X (rI (fun _ j => j ≠ 0) fun i j => .int (i.fmod j)) dMod := opd_of fun {ca H x y z v u Q} dx dy e k => by
  unfold dMod at e
  split at e
  · rename_i i j
    split at e
    · rename_i hs
      cases e
      exact ⟨i, j, dx, dy, hs, k _ fun _ => rfl⟩
    · cases e
  · cases e
theorem opd_pow : OpD X (rI CPow fun i j => .int (i ^ j.toNat)) dPow := opd_of fun {ca H x y z v u Q} dx dy e k => by
  unfold dPow at e
  split at e
  · rename_i i j
    split at e
    · rename_i hs
      cases e
      exact ⟨i, j, dx, dy, hs, k _ fun _ => rfl⟩
    · cases e
  · cases e
end
end DL
set_option Elab.async false
set_option linter.all false
set_option maxRecDepth 100000
set_option maxHeartbeats 1900000
/-! DL4: subscripts, slices, dicts, built-ins. -/
namespace DL
open L2 PyProof.Rows PySem PySem.Spec

/-! ### keys -/
def asKey : D → Option Key
  | .int i => some (.inl i)
  | .str x => some (.inr x)
  | _ => none
theorem asKey_ok {K : PySem.W.Frag} {mg : Str → Option Value} {ca : Ca} {H : Hp} {x : D} {k : Key} {v : V} (e : asKey x = some k) (d : DenT K mg ca H x v) : v = kV k ∧ x = keyD k := by
  unfold asKey at e
  split at e
  · cases e; exact ⟨d, rfl⟩
  · cases e; exact ⟨d, rfl⟩
  · cases e
/-- is this data the key? -/
def isKey : D → Key → Bool
  | .int i, .inl j => decide (i = j)
  | .str x, .inr y => eqS x y
  | _, _ => false
theorem isKey_iff (k' k : Key) : isKey (keyD k') k = decide (k' = k) := by
  cases k' <;> cases k <;> simp [isKey, keyD]
  rw [Bool.eq_iff_iff, eqS_iff]
  simp
/-- the value at a key -/
def look {α : Type} : List D → List α → Key → Option α
  | x :: ks, v :: vs, k => if isKey x k = true then some v else look ks vs k
  | _, _, _ => none
theorem look_kv (k : Key) : ∀ kvs : List (Key × V), look (kvs.map fun p => keyD p.1) (kvs.map (·.2)) k = valV kvs k
  | [] => rfl
  | p :: r => by
    simp only [List.map_cons, look, isKey_iff, decide_eq_true_eq]
    by_cases e : p.1 = k
    · rw [if_pos e, valV_pos e]
    · rw [if_neg e, valV_neg e, look_kv k r]
theorem look_denW {K : PySem.W.Frag} {mg : Str → Option Value} {ca : Ca} {H : Hp} {k : Key} : ∀ {ks : List D} {ws : List W} {vs : List V} {w : W}, DenWs K mg ca H ws vs → look ks ws k = some w → ∃ v, look ks vs k = some v ∧ DenW K mg ca H w v
  | [], _, _, _, _, e => by simp [look] at e
  | _ :: _, [], _, _, _, e => by simp [look] at e
  | x :: ks, u :: ws, vs, w, d, e => by
    obtain ⟨v, vr, rfl, d1, d2⟩ := d
    simp only [look] at e ⊢
    split at e
    · rename_i h
      cases e
      exact ⟨v, by rw [if_pos h], d1⟩
    · rename_i h
      rw [if_neg h]
      exact look_denW d2 e
theorem look_denL {K : PySem.W.Frag} {mg : Str → Option Value} {ca : Ca} {H : Hp} {k : Key} : ∀ {ks : List D} {ws : List D} {vs : List V} {w : D}, DenL K mg (Live ca) H ws vs → look ks ws k = some w → ∃ v, look ks vs k = some v ∧ DenD K mg (Live ca) H w v
  | [], _, _, _, _, e => by simp [look] at e
  | _ :: _, [], _, _, _, e => by simp [look] at e
  | x :: ks, u :: ws, vs, w, d, e => by
    obtain ⟨v, vr, rfl, d1, d2⟩ := d
    simp only [look] at e ⊢
    split at e
    · rename_i h
      cases e
      exact ⟨v, by rw [if_pos h], d1⟩
    · rename_i h
      rw [if_neg h]
      exact look_denL d2 e

/-! ### subscripts -/
def dIx : D → D → Option D
  | .lst ds, .int i => atI ds i
  | .tup ds, .int i => atI ds i
  | .scr ds, .int i => atI ds i
  | .str x, .int i => if x.length ≤ CAP then (atI x.cps.toList i).map fun c => .str ⟨#[c]⟩ else none
  | .dct ks ds, y => match asKey y with
    | some k => look ks ds k
    | none => none
  | _, _ => none
/-- a subscript: an item may be a changing thing -/
def wIx (cc : Cs) (w u : W) : Option W := match w, see cc u with
  | .cell n, some y => match cc[n]? with
    | some (some (.dct ks ws)) => match asKey y with
      | some k => look ks ws k
      | none => none
    | some (some (.lst ds)) => (dIx (.lst ds) y).map .d
    | _ => none
  | .d x, some y => (dIx x y).map .d
  | _, none => none
def mIx (a b : ME) : ME := fun env cc => (a env cc).bind fun w c => (b env c).bind fun u c2 => match wIx c2 w u with
  | some r => .ok r c2
  | none => .stuck
def rDG : R2 := fun x y H Q => ∃ a v, x = .ref a ∧ DGet H a y (some v) ∧ Q v H
theorem atI_den {K : PySem.W.Frag} {mg : Str → Option Value} {L : Addr → Prop} {H : Hp} {ds : List D} {vs : List V} {i : Int} {x : D} (d : DenL K mg L H ds vs) (e : atI ds i = some x) : ∃ v, atI vs i = some v ∧ DenD K mg L H x v := by
  unfold atI at e ⊢
  rw [d.length]
  cases q : ixN ds.length i with
  | none => rw [q] at e; exact nomatch e
  | some j =>
    rw [q] at e
    exact d.get e
section
variable {X : Cx} {Wx : WX} {a b : Expr} {ma mb : ME} {pos : Pos}
theorem ix_dict (hu : X.A.units + 1 < cLine) : IxR X rDG := by
  rintro value slice pins s σ H x y v u Q I rx ry h hs
  obtain ⟨a, w, rfl, g, q⟩ := h
  cases rx
  exact tail_any (ops := [.ref a, u]) (dict_typeIs I g) PySem.F.slot_dict_getitem.lookup (d_getItem hu I g ry fun w' s3 I3 rw' => ⟨w, H, I3, rw', q⟩) hs
def rIxA (K : PySem.W.Frag) : R2 := fun x y H Q => rIx K x y H Q ∨ rDG x y H Q
theorem ix_all (hu : X.A.units + 1 < cLine) : IxR X (rIxA X.K) := ix_seq.or (ix_dict hu)
theorem dget_of {H : Hp} {a : Addr} {ks : List D} {vs : List V} {k : Key} {v : V} {kvs : List (Key × V)} (h : H a = some (.dK kvs)) (hk : kvs.map (fun p => keyD p.1) = ks) (hv : kvs.map (·.2) = vs) (e : look ks vs k = some v) : DGet H a (kV k) (some v) := by
  subst hk hv
  rw [look_kv] at e
  rw [← e]
  exact DGet.k h
theorem dIx_ok {ca : Ca} {H : Hp} {x y z : D} {v u : V} {Q : VK} (dx : DenT X.K X.mg ca H x v) (dy : DenT X.K X.mg ca H y u) (e : dIx x y = some z) (k : ∀ v', DenD X.K X.mg (Live ca) H z v' → Q v' H) : rIxA X.K v u H Q := by
  unfold dIx at e
  split at e
  · rename_i ds i
    obtain ⟨a, vs, rfl, h1, h2⟩ := dx
    obtain ⟨v', e1, d1⟩ := atI_den h2 e
    exact .inl (.inl ⟨a, vs, i, v', rfl, dy, SqL.of h1, e1, k _ d1⟩)
  · rename_i ds i
    obtain ⟨a, vs, rfl, h1, h2⟩ := dx
    obtain ⟨v', e1, d1⟩ := atI_den h2 e
    exact .inl (.inr (.inl ⟨a, vs, i, v', rfl, dy, h1.sq, e1, k _ d1⟩))
  · rename_i ds i
    have dx' : DenD X.K X.mg (Live ca) H (.scr ds) v := dx
    simp only [DenD] at dx'
    obtain ⟨a, vs, rfl, h1, h2⟩ := dx'
    obtain ⟨v', e1, d1⟩ := atI_den h2 e
    exact .inl (.inl ⟨a, vs, i, v', rfl, dy, lst_sq h1, e1, k _ d1⟩)
  · rename_i w i
    split at e
    · rename_i hl
      cases q : atI w.cps.toList i with
      | none => rw [q] at e; exact nomatch e
      | some c =>
        rw [q] at e
        cases e
        exact .inl (.inr (.inr ⟨w, i, c, dx, dy, cap_ok hl, q, k _ rfl⟩))
    · cases e
  · rename_i ks ds _
    split at e
    · rename_i kk hk
      obtain ⟨rfl, rfl⟩ := asKey_ok hk dy
      obtain ⟨a, vs, rfl, ⟨kvs, h1, h2, h3⟩, h4⟩ := dx
      obtain ⟨v', e1, d1⟩ := look_denL h4 e
      exact .inr ⟨a, v', rfl, dget_of h1 h2 h3 e1, k _ d1⟩
    · cases e
  · cases e
theorem pv_ix (hu : X.A.units + 1 < cLine) (ha : PEv X Wx a ma) (hb : PEv X Wx b mb) (hs : PlainIx b := by intro _ _; rfl) : PEv X Wx (.Subscript a b pos) (mIx ma mb) := (pe_ix (ix_all hu) ha hb hs).imp fun σ H Q h =>
  Ev.bind h fun env ca w cc v H' he hc d hk => ⟨env, ca, cc, he, hc, KS.bind hk fun u c2 v2 H2 ca2 p hc2 d2 hk2 => by
    have d1 := d.mono p
    split at hk2
    · rename_i r e
      unfold wIx at e
      split at e
      · rename_i n y e1
        have dy := see_ok hc2 d2 e1
        split at e
        · rename_i ks ws e2
          split at e
          · rename_i kk hkk
            obtain ⟨rfl, rfl⟩ := asKey_ok hkk dy
            obtain ⟨a, ha, rfl, kvs, h3, h4, h5⟩ := cell_at hc2 d1 e2
            obtain ⟨v', e3, d3⟩ := look_denW h5 e
            exact .inr ⟨a, v', rfl, dget_of h3 h4 rfl e3, hk2.now (Stp.refl _ _) hc2 d3⟩
          · cases e
        · rename_i ds e2
          cases q : dIx (.lst ds) y with
          | none => rw [q] at e; exact nomatch e
          | some z =>
            rw [q] at e
            cases e
            exact dIx_ok (see_ok hc2 d1 (by simp [see, e2])) dy q fun v' d' => hk2.now (Stp.refl _ _) hc2 d'
        · cases e
      · rename_i x y e1
        cases q : dIx x y with
        | none => rw [q] at e; exact nomatch e
        | some z =>
          rw [q] at e
          cases e
          exact dIx_ok (DenD.t d1) (see_ok hc2 d2 e1) q fun v' d' => hk2.now (Stp.refl _ _) hc2 d'
      · cases e
    · exact hk2.elim⟩
end

/-! ### slices -/
def cutD {α : Type} (xs : List α) (lo hi : Option Int) : List α := (xs.drop (HT.sIx xs.length 0 lo)).take (HT.sIx xs.length xs.length hi - HT.sIx xs.length 0 lo)
theorem cutD_den {K : PySem.W.Frag} {mg : Str → Option Value} {L : Addr → Prop} {H : Hp} {ds : List D} {vs : List V} {lo hi : Option Int} (d : DenL K mg L H ds vs) : DenL K mg L H (cutD ds lo hi) (cutV vs lo hi) := by
  unfold cutD cutV
  rw [d.length]
  exact (d.drop _).take _
def dSl (x : D) (lo hi : Option Int) : Option D := match x with
  | .lst ds => some (.lst (cutD ds lo hi))
  | .tup ds => some (.tup (cutD ds lo hi))
  | .str z => if z.length ≤ CAP then some (.str (cutS z lo hi)) else none
  | _ => none
abbrev MO := Env → M (Option Int)
abbrev denO : Ca → Hp → Option Int → Option Int → Prop := fun _ _ a b => a = b
abbrev POv (X : Cx) (Wx : WX) (e : Option Expr) (m : MO) : Prop := PO X e (Ev X.K X.mg denO Wx m)
def oNone : MO := fun _ cc => .ok none cc
def oSome (m : ME) : MO := fun env cc => (m env cc).bind fun w c => match w with
  | .d (.int i) => .ok (some i) c
  | _ => .stuck
def mSl (a : ME) (lo hi : MO) : ME := fun env cc => (a env cc).bind fun w c1 => (lo env c1).bind fun l c2 => (hi env c2).bind fun h c3 => match see c3 w with
  | some x => match dSl x l h with
    | some z => .ok (.d z) c3
    | none => .stuck
  | none => .stuck
section
variable {X : Cx} {Wx : WX} {e : Expr} {lo hi : Option Expr} {m : ME} {ml mh : MO} {pos p2 : Pos}
theorem _root_.L2.PO.imp {X : Cx} {e : Option Expr} {t t' : TO} (h : PO X e t) (i : ∀ σ H Q, t' σ H Q → t σ H Q) : PO X e t' := ⟨fun pins s σ H Q I q => h.run pins s σ H Q I (i σ H Q q)⟩
theorem ov_none : POv X Wx none oNone := po_none.imp fun σ H Q h => by
  obtain ⟨env, ca, cc, he, hc, hk⟩ := h
  exact hk.now (Stp.refl _ _) hc rfl
theorem ov_some (h : PEv X Wx e m) : POv X Wx (some e) (oSome m) := (po_some h).imp fun σ H Q h =>
  Ev.bind h fun env ca w cc v H' he hc d hk => by
    split at hk
    · rename_i i
      exact ⟨i, d, hk.now (Stp.refl _ _) hc rfl⟩
    · exact hk.elim
def rSlAll (K : PySem.W.Frag) : V → Option Int → Option Int → Hp → VK → Prop := fun x lo hi H Q => rSlL K x lo hi H Q ∨ rSlA K x lo hi H Q ∨ rSlS x lo hi H Q
theorem sl_all : SlR X (rSlAll X.K) := sl_list.or (sl_tupA.or sl_str)
theorem cutV_whole {xs : List V} {lo hi : Option Int} (h : HT.sIx xs.length 0 lo = 0 ∧ HT.sIx xs.length xs.length hi = xs.length) : cutV xs lo hi = xs := by
  unfold cutV
  rw [h.1, h.2]
  simp
theorem pv_slice (he : PEv X Wx e m) (hl : POv X Wx lo ml) (hh : POv X Wx hi mh) : PEv X Wx (.Subscript e (.Slice lo hi none p2) pos) (mSl m ml mh) := (pe_slice sl_all he hl hh).imp fun σ H Q h =>
  Ev.bind h fun env ca w cc v H' he hc d hk => ⟨env, ca, cc, he, hc, KS.bind hk fun l c2 l' H2 ca2 p2 hc2 d2 hk2 => ⟨env, ca2, c2, he.mono p2, hc2, KS.bind hk2 fun h c3 h' H3 ca3 p3 hc3 d3 hk3 => by
    have d2' : l = l' := d2
    have d3' : h = h' := d3
    subst d2' d3'
    have d1 := (d.mono p2).mono p3
    split at hk3
    · rename_i x e1
      have dx := see_ok hc3 d1 e1
      split at hk3
      · rename_i z e2
        unfold dSl at e2
        split at e2
        · rename_i ds
          cases e2
          obtain ⟨a, vs, rfl, h1, h2⟩ := dx
          exact .inl ⟨a, vs, rfl, SqL.of h1, fun p hp => hk3.now (Stp.new hc3 hp) (hc3.new hp) (den_lst_new hc3 (cutD_den h2) hp)⟩
        · rename_i ds
          cases e2
          obtain ⟨a, vs, rfl, h1, h2⟩ := dx
          refine .inr (.inl ⟨a, vs, rfl, h1.sq, fun hw => ?_, fun hw p hp => ?_⟩)
          · have q := cutD_den (lo := l) (hi := h) h2
            rw [cutV_whole hw] at q
            exact hk3.now (Stp.refl _ _) hc3 (tup_back hc3 h1 q)
          · exact hk3.now (Stp.new hc3 hp) (hc3.new hp) (den_tup_new hc3 (cutD_den h2) hp)
        · rename_i z
          split at e2
          · rename_i hl
            cases e2
            exact .inr (.inr ⟨z, dx, cap_ok hl, hk3.now (Stp.refl _ _) hc3 rfl⟩)
          · cases e2
        · cases e2
      · exact hk3.elim
    · exact hk3.elim⟩⟩
end

/-! ### built-ins, by data -/
def seeAll (cc : Cs) : List W → Option (List D)
  | [] => some []
  | w :: ws => match see cc w, seeAll cc ws with
    | some x, some xs => some (x :: xs)
    | _, _ => none
def DenTs (K : PySem.W.Frag) (mg : Str → Option Value) (ca : Ca) (H : Hp) : List D → List V → Prop
  | [], vs => vs = []
  | x :: xs, vs => ∃ v vr, vs = v :: vr ∧ DenT K mg ca H x v ∧ DenTs K mg ca H xs vr
theorem seeAll_ok {K : PySem.W.Frag} {mg : Str → Option Value} {ca : Ca} {H : Hp} {cc : Cs} (hc : CsOk K mg ca H cc) : ∀ {ws : List W} {xs : List D} {vs : List V}, DenWs K mg ca H ws vs → seeAll cc ws = some xs → DenTs K mg ca H xs vs
  | [], xs, vs, d, e => by
    simp only [seeAll, Option.some.injEq] at e
    subst e
    exact d
  | w :: ws, xs, vs, d, e => by
    obtain ⟨v, vr, rfl, d1, d2⟩ := d
    simp only [seeAll] at e
    split at e
    · rename_i x xs' e1 e2
      cases e
      exact ⟨v, vr, rfl, see_ok hc d1 e1, seeAll_ok hc d2 e2⟩
    · cases e
def CallD (X : Cx) (r : List V → Hp → VK → Prop) (g : List D → Option D) : Prop :=
  ∀ {ca : Ca} {cc : Cs} {H : Hp} {xs : List D} {z : D} {vs : List V} {Q : VK}, CsOk X.K X.mg ca H cc → DenTs X.K X.mg ca H xs vs → g xs = some z →
    (∀ v' H', Stp ca H ca H' → CsOk X.K X.mg ca H' cc → DenD X.K X.mg (Live ca) H' z v' → Q v' H') → r vs H Q
def mB (g : List D → Option D) (r : Env → M (List W)) : ME := fun env cc => (r env cc).bind fun ws c => match seeAll c ws with
  | some xs => match g xs with
    | some z => .ok (.d z) c
    | none => .stuck
  | none => .stuck
section
variable {X : Cx} {Wx : WX} {x : Str} {p pos : Pos} {e : Expr} {es : List Expr} {r : Env → M (List W)} {id T : String} {rc : List V → Hp → VK → Prop} {g : List D → Option D}
theorem b_read {σ : L2.St} {H : Hp} {Q : VK} (hd : CallD X rc g) (h : EvE X Wx (mB g r) σ H Q) : tCB rc (EvA X Wx r) σ H Q :=
  Ev.bind h fun env ca ws cc vs H' he hc d hk => by
    split at hk
    · rename_i xs e1
      split at hk
      · rename_i z e2
        exact hd hc (seeAll_ok hc d e1) e2 fun v' H' q1 q2 q3 => hk.now q1 q2 q3
      · exact hk.elim
    · exact hk.elim
theorem pv_callB (hc : CallR X (.builtin id) rc) (hd : CallD X rc g) (hg : Gl X x) (hm : X.mg x = none) (hv : bootBuiltins x = some (.builtin id)) (ha : PAv X Wx (e :: es) r) (hn : x ≠ "__name__" := by decide) (hdb : (x == ("__debug__" : Str)) = false := by decide)
    (he : ArgAt X e es := by rfl) (hpl : FlatAt X pos es := by rfl) : PEv X Wx (.Call (.Name x p) (e :: es) [] pos) (mB g r) :=
  (pe_callB hc hg hm hv ha hn hdb he hpl).imp fun _ _ _ h => b_read hd h
theorem pv_callTy (hc : CallR X (.type T) rc) (hd : CallD X rc g) (hg : Gl X x) (hm : X.mg x = none) (hv : bootBuiltins x = some (.type T)) (ha : PAv X Wx (e :: es) r) (hn : x ≠ "__name__" := by decide) (hdb : (x == ("__debug__" : Str)) = false := by decide)
    (he : ArgAt X e es := by rfl) (hpl : FlatAt X pos es := by rfl) : PEv X Wx (.Call (.Name x p) (e :: es) [] pos) (mB g r) :=
  (pe_callTy hc hg hm hv ha hn hdb he hpl).imp fun _ _ _ h => b_read hd h
theorem d1 {K : PySem.W.Frag} {mg : Str → Option Value} {ca : Ca} {H : Hp} {x : D} {vs : List V} (d : DenTs K mg ca H [x] vs) : ∃ v, vs = [v] ∧ DenT K mg ca H x v := by
  obtain ⟨v, vr, rfl, d1, d2⟩ := d
  have e : vr = [] := d2
  exact ⟨v, by rw [e], d1⟩
theorem d2 {K : PySem.W.Frag} {mg : Str → Option Value} {ca : Ca} {H : Hp} {x y : D} {vs : List V} (d : DenTs K mg ca H [x, y] vs) : ∃ v u, vs = [v, u] ∧ DenT K mg ca H x v ∧ DenT K mg ca H y u := by
  obtain ⟨v, vr, rfl, h1, h2⟩ := d
  obtain ⟨u, rfl, h3⟩ := d1 h2
  exact ⟨v, u, rfl, h1, h3⟩
/-- len -/
theorem _root_.PySem.wpAny_len_body_raw {prog : Program} {w : World} {A : Around} {E : Value → Shared → Prop} {s : Shared} {d : Addr} {es : Array DictEntry} {ep : Nat} {Q : Value → Shared → Prop} (hd : (d == sysModules) = false) (hm : s.heap.DictRaw d es ep) (hfit : (es.size : Int) < 2 ^ 63)
    (h : Q (.int es.size (s.toks + 1)) { s with toks := s.toks + 1 + 1 }) : wpAny (model prog w) A (Builtin.«len» ⟨[.ref d], []⟩) (fun fin s' => ∃ r, fin = .done (.ret r) ∧ Q r s') E s := by
  obtain ⟨o, at_d, cls, more⟩ := id hm
  have isD : s.TypeIs (.ref d) "dict" := ⟨o, at_d, cls.1⟩
  unfold Builtin.«len»
  apply wpAny_bind (m := oneArg "len" _); apply wpAny_pure
  apply wpAny_bind (m := callSpecial? (.ref d) (Str.ofString "__len__"))
  apply wpAny_callSpecial?_slot (name := Str.ofString "__len__") isD PySem.F.slot_dict_len
  apply call_meetsIn PySem.F.slot_dict_len isD PySem.F.entry_dict_len (PySem.F.args_dict_len_1 _) (meets_dict_len_raw d hd)
  refine ⟨es, ep, hm, show wpAny _ _ _ _ _ ⟨s.heap, s.gens, s.drawn, s.toks + 1, s.os⟩ from ?_⟩
  apply wpAny_bind; apply wpAny_holding; apply wpAny_pure
  apply wpAny_bind; apply wpAny_letGo
  have nn : ¬ ((es.size : Nat) : Int) < 0 := by omega
  have fits : ¬ ((es.size : Nat) : Int) ≥ 2 ^ 63 := by omega
  simp only [nn, fits, if_false]
  apply wpAny_bind; apply wpAny_mkInt
  exact wpAny_pure ⟨_, rfl, h⟩
def dLen : List D → Option D
  | [.lst ds] => some (.int ds.length)
  | [.tup ds] => some (.int ds.length)
  | [.scr ds] => some (.int ds.length)
  | [.dct ks _] => some (.int ks.length)
  | [.dkn n] => some (.int n)
  | [.str x] => if x.length ≤ CAP then some (.int x.length) else none
  | _ => none
def rLenA (K : PySem.W.Frag) : List V → Hp → VK → Prop := fun xs H Q => (∃ p ys, xs = [.ref p] ∧ (SqL K H p ys ∨ SqT K H p ys) ∧ Q (.int ys.length) H) ∨ (∃ z, xs = [.str z] ∧ z.length ≤ sizeLine ∧ Q (.int z.length) H) ∨ (∃ a kvs, xs = [.ref a] ∧ H a = some (.dK kvs) ∧ Q (.int kvs.length) H) ∨ (∃ a es, xs = [.ref a] ∧ H a = some (RawD a es) ∧ Q (.int es.length) H)
theorem call_lenA : CallR X (.builtin "len") (rLenA X.K) := by
  rintro pins s σ H xs us Q I r h
  rcases h with h | h | ⟨a, kvs, rfl, h, q⟩ | ⟨a, es, rfl, h, q⟩
  · exact call_len_seq pins s σ H xs us Q I r h
  · exact call_len_str pins s σ H xs us Q I r h
  · obtain ⟨u, rfl, r1⟩ := (vals1 r)
    cases r1
    exact d_len I (.inl h) fun t s' I' => ⟨.int kvs.length, H, I', ⟨t, rfl⟩, q⟩
  · obtain ⟨u, rfl, r1⟩ := (vals1 r)
    cases r1
    obtain ⟨⟨hm, hz, o, ep, h1, h2, h3⟩, _, _⟩ := (show ObjOk X.prog X.w H s.heap a (RawD a es) from I.hok a _ h)
    refine Calls.call_function_entry kind_len plain_len entry_len (args_len1 _) (PySem.wpAny_len_body_raw hm ⟨o, h1, h2, h3⟩ (by rw [sizeLine_eq] at hz; simp; omega) ?_)
    exact ⟨.int es.length, H, I.tok _, ⟨s.toks + 1, by simp⟩, q⟩
theorem bd_len : CallD X (rLenA X.K) dLen := fun {ca cc H xs z vs Q} hc d e k => by
  unfold dLen at e
  split at e
  · cases e
    obtain ⟨v, rfl, a, vs, rfl, h1, h2⟩ := d1 d
    exact .inl ⟨a, vs, rfl, .inl (SqL.of h1), k _ _ (Stp.refl _ _) hc (by rw [h2.length]; rfl)⟩
  · cases e
    obtain ⟨v, rfl, a, vs, rfl, h1, h2⟩ := d1 d
    exact .inl ⟨a, vs, rfl, .inr h1.sq, k _ _ (Stp.refl _ _) hc (by rw [h2.length]; rfl)⟩
  · rename_i ds
    cases e
    obtain ⟨v, rfl, dx⟩ := d1 d
    have dx' : DenD X.K X.mg (Live ca) H (.scr ds) v := dx
    simp only [DenD] at dx'
    obtain ⟨a, vs, rfl, h1, h2⟩ := dx'
    exact .inl ⟨a, vs, rfl, .inl (lst_sq h1), k _ _ (Stp.refl _ _) hc (by rw [h2.length]; rfl)⟩
  · cases e
    obtain ⟨v, rfl, a, vs, rfl, ⟨kvs, h1, h2, h3⟩, h4⟩ := d1 d
    exact .inr (.inr (.inl ⟨a, kvs, rfl, h1, k _ _ (Stp.refl _ _) hc (by rw [← h2]; simp [DenD])⟩))
  · cases e
    obtain ⟨v, rfl, dx⟩ := d1 d
    have dx' : DenD X.K X.mg (Live ca) H (.dkn _) v := dx
    simp only [DenD] at dx'
    obtain ⟨a, es, rfl, _, h1, h2⟩ := dx'
    exact .inr (.inr (.inr ⟨a, es, rfl, h1, k _ _ (Stp.refl _ _) hc (by rw [h2]; rfl)⟩))
  · split at e
    · rename_i hl
      cases e
      obtain ⟨v, rfl, dx⟩ := d1 d
      cases (show v = .str _ from dx)
      exact .inr (.inl ⟨_, rfl, cap_ok hl, k _ _ (Stp.refl _ _) hc rfl⟩)
    · cases e
  · cases e
/-- int(n), int(flag) -/
def dInt : List D → Option D
  | [.int i] => some (.int i)
  | [.bl b] => some (.int (if b then 1 else 0))
  | _ => none
theorem bd_int : CallD X (fun xs H Q => (∃ i, xs = [.int i] ∧ Q (.int i) H) ∨ ∃ k, xs = [.bl k] ∧ Q (.int (if k then 1 else 0)) H) dInt := fun {ca cc H xs z vs Q} hc d e k => by
  unfold dInt at e
  split at e
  · cases e
    obtain ⟨v, rfl, dx⟩ := d1 d
    exact .inl ⟨_, by rw [show v = .int _ from dx], k _ _ (Stp.refl _ _) hc rfl⟩
  · cases e
    obtain ⟨v, rfl, dx⟩ := d1 d
    exact .inr ⟨_, by rw [show v = .bl _ from dx], k _ _ (Stp.refl _ _) hc rfl⟩
  · cases e
/-- max, min of two ints -/
def dMax : List D → Option D
  | [.int i, .int j] => some (.int (if j > i then j else i))
  | _ => none
def dMin : List D → Option D
  | [.int i, .int j] => some (.int (if j < i then j else i))
  | _ => none
theorem bd_max : CallD X (fun xs H Q => ∃ i j, xs = [.int i, .int j] ∧ Q (.int (if j > i then j else i)) H) dMax := fun {ca cc H xs z vs Q} hc d e k => by
  unfold dMax at e
  split at e
  · cases e
    obtain ⟨v, u, rfl, dx, dy⟩ := d2 d
    exact ⟨_, _, by rw [show v = .int _ from dx, show u = .int _ from dy], k _ _ (Stp.refl _ _) hc rfl⟩
  · cases e
theorem bd_min : CallD X (fun xs H Q => ∃ i j, xs = [.int i, .int j] ∧ Q (.int (if j < i then j else i)) H) dMin := fun {ca cc H xs z vs Q} hc d e k => by
  unfold dMin at e
  split at e
  · cases e
    obtain ⟨v, u, rfl, dx, dy⟩ := d2 d
    exact ⟨_, _, by rw [show v = .int _ from dx, show u = .int _ from dy], k _ _ (Stp.refl _ _) hc rfl⟩
  · cases e
/-- list(xs), tuple(xs) -/
def dList : List D → Option D
  | [.lst ds] => some (.lst ds)
  | [.tup ds] => some (.lst ds)
  | _ => none
def dTuple : List D → Option D
  | [.lst ds] => some (.tup ds)
  | [.tup ds] => some (.tup ds)
  | _ => none
def rListA (K : PySem.W.Frag) : List V → Hp → VK → Prop := fun xs H Q => ∃ p ys, xs = [.ref p] ∧ (SqL K H p ys ∨ SqT K H p ys) ∧ ∀ l, H l = none → Q (.ref l) (upd H l (.lst ys))
def rTupleA (K : PySem.W.Frag) : List V → Hp → VK → Prop := fun xs H Q => ∃ p ys, xs = [.ref p] ∧ ((SqL K H p ys ∧ ∀ l, H l = none → Q (.ref l) (upd H l (.tup ys))) ∨ (SqT K H p ys ∧ Q (.ref p) H))
theorem bd_list : CallD X (rListA X.K) dList := fun {ca cc H xs z vs Q} hc d e k => by
  unfold dList at e
  split at e
  · cases e
    obtain ⟨v, rfl, a, vs, rfl, h1, h2⟩ := d1 d
    exact ⟨a, vs, rfl, .inl (SqL.of h1), fun p hp => k _ _ (Stp.new hc hp) (hc.new hp) (den_lst_new hc h2 hp)⟩
  · cases e
    obtain ⟨v, rfl, a, vs, rfl, h1, h2⟩ := d1 d
    exact ⟨a, vs, rfl, .inr h1.sq, fun p hp => k _ _ (Stp.new hc hp) (hc.new hp) (den_lst_new hc h2 hp)⟩
  · cases e
theorem bd_tuple : CallD X (rTupleA X.K) dTuple := fun {ca cc H xs z vs Q} hc d e k => by
  unfold dTuple at e
  split at e
  · cases e
    obtain ⟨v, rfl, a, vs, rfl, h1, h2⟩ := d1 d
    exact ⟨a, vs, rfl, .inl ⟨SqL.of h1, fun p hp => k _ _ (Stp.new hc hp) (hc.new hp) (den_tup_new hc h2 hp)⟩⟩
  · cases e
    obtain ⟨v, rfl, a, vs, rfl, h1, h2⟩ := d1 d
    exact ⟨a, vs, rfl, .inr ⟨h1.sq, k _ _ (Stp.refl _ _) hc (tup_back hc h1 h2)⟩⟩
  · cases e
/-- list(xs) that will change -/
def mListC (r : Env → M (List W)) : ME := fun env cc => (r env cc).bind fun ws c => match seeAll c ws with
  | some xs => match dList xs with
    | some (.lst ds) => .ok (.cell c.length) (c ++ [some (.lst ds)])
    | _ => .stuck
  | none => .stuck
theorem pv_listC (hg : Gl X x) (hm : X.mg x = none) (hv : bootBuiltins x = some (.type "list")) (ha : PAv X Wx (e :: es) r) (hn : x ≠ "__name__" := by decide) (hdb : (x == ("__debug__" : Str)) = false := by decide)
    (he : ArgAt X e es := by rfl) (hpl : FlatAt X pos es := by rfl) : PEv X Wx (.Call (.Name x p) (e :: es) [] pos) (mListC r) :=
  (pe_callTy call_list_of hg hm hv ha hn hdb he hpl).imp fun σ H Q h =>
    Ev.bind h fun env ca ws cc vs H' he hc d hk => by
      split at hk
      · rename_i xs e1
        have d' := seeAll_ok hc d e1
        split at hk
        · rename_i ds e2
          unfold dList at e2
          split at e2
          · cases e2
            obtain ⟨v, rfl, a, vs, rfl, h1, h2⟩ := d1 d'
            exact ⟨a, vs, rfl, .inl (SqL.of h1), fun p hp => hk.now (Stp.cell hc hp) (cs_lst_new hc h2 hp) (den_cell_new hc)⟩
          · cases e2
            obtain ⟨v, rfl, a, vs, rfl, h1, h2⟩ := d1 d'
            exact ⟨a, vs, rfl, .inr h1.sq, fun p hp => hk.now (Stp.cell hc hp) (cs_lst_new hc h2 hp) (den_cell_new hc)⟩
          · cases e2
        · exact hk.elim
      · exact hk.elim
/-- all, any of a list of truths -/
def blsOf : List D → Option (List Bool)
  | [] => some []
  | .bl b :: ds => (blsOf ds).map (b :: ·)
  | _ :: _ => none
theorem blsOf_ok {K : PySem.W.Frag} {mg : Str → Option Value} {L : Addr → Prop} {H : Hp} : ∀ {ds : List D} {vs : List V} {bs : List Bool}, DenL K mg L H ds vs → blsOf ds = some bs → vs = bs.map V.bl
  | [], vs, bs, d, e => by
    simp only [blsOf, Option.some.injEq] at e
    subst e
    exact d
  | .bl b :: ds, vs, bs, d, e => by
    obtain ⟨v, vr, rfl, h1, h2⟩ := d
    simp only [blsOf] at e
    cases q : blsOf ds with
    | none => rw [q] at e; exact nomatch e
    | some r =>
      rw [q] at e
      cases e
      cases (show v = .bl b from h1)
      rw [blsOf_ok h2 q]
      rfl
  | .non :: _, _, _, _, e => by cases e
  | .int _ :: _, _, _, _, e => by cases e
  | .str _ :: _, _, _, _, e => by cases e
  | .tup _ :: _, _, _, _, e => by cases e
  | .lst _ :: _, _, _, _, e => by cases e
  | .scr _ :: _, _, _, _, e => by cases e
  | .dct _ _ :: _, _, _, _, e => by cases e
  | .obj _ _ _ :: _, _, _, _, e => by cases e
  | .glo _ :: _, _, _, _, e => by cases e
  | .ty _ :: _, _, _, _, e => by cases e
  | .dkn _ :: _, _, _, _, e => by cases e
def dAll : List D → Option D
  | [.lst ds] => (blsOf ds).map fun bs => D.bl (bs.all fun b => b)
  | _ => none
def dAny : List D → Option D
  | [.lst ds] => (blsOf ds).map fun bs => D.bl (bs.any fun b => b)
  | _ => none
theorem bd_all : CallD X (rAll X.K) dAll := fun {ca cc H xs z vs Q} hc d e k => by
  unfold dAll at e
  split at e
  · rename_i ds
    cases q : blsOf ds with
    | none => rw [q] at e; exact nomatch e
    | some bs =>
      rw [q] at e
      cases e
      obtain ⟨v, rfl, a, vs, rfl, h1, h2⟩ := d1 d
      exact ⟨a, bs, rfl, by rw [← blsOf_ok h2 q]; exact SqL.of h1, k _ _ (Stp.refl _ _) hc rfl⟩
  · cases e
theorem bd_any : CallD X (rAny X.K) dAny := fun {ca cc H xs z vs Q} hc d e k => by
  unfold dAny at e
  split at e
  · rename_i ds
    cases q : blsOf ds with
    | none => rw [q] at e; exact nomatch e
    | some bs =>
      rw [q] at e
      cases e
      obtain ⟨v, rfl, a, vs, rfl, h1, h2⟩ := d1 d
      exact ⟨a, bs, rfl, by rw [← blsOf_ok h2 q]; exact SqL.of h1, k _ _ (Stp.refl _ _) hc rfl⟩
  · cases e
/-- isinstance with built-in classes -/
def tyD : D → Option String
  | .non => some "NoneType"
  | .bl _ => some "bool"
  | .int _ => some "int"
  | .str _ => some "str"
  | .tup _ => some "tuple"
  | .lst _ => some "list"
  | .dct _ _ => some "dict"
  | _ => none
/-- the classes that are asked for -/
inductive Kd where | int | str | bool | tuple | list | dict
def Kd.name : Kd → String
  | .int => "int" | .str => "str" | .bool => "bool" | .tuple => "tuple" | .list => "list" | .dict => "dict"
def isK : Kd → D → Option Bool
  | .int, .int _ => some true
  | .int, .bl _ => some true
  | .str, .str _ => some true
  | .bool, .bl _ => some true
  | .tuple, .tup _ => some true
  | .list, .lst _ => some true
  | .dict, .dct _ _ => some true
  | _, .obj _ _ _ => none
  | _, .dkn _ => none
  | _, .glo _ => none
  | _, .ty _ => none
  | _, .scr _ => none
  | _, _ => some false
theorem kit_b {K : PySem.W.Frag} {c : Kd} {x : D} {t : String} {b : Bool} (h : tyD x = some t) (e : isK c x = some b) : PySem.W.kitOne K (.type t) (.type c.name) = some b := by
  cases c <;> cases x <;> simp [tyD, isK] at h e <;> subst h <;> subst e <;> (first | rfl | kernel_rfl)
theorem tyX_of {K : PySem.W.Frag} {mg : Str → Option Value} {ca : Ca} {H : Hp} {x : D} {v : V} {t : String} (d : DenT K mg ca H x v) (h : tyD x = some t) : TyX K H v (.type t) := by
  cases x with
  | non => cases h; cases (show v = .non from d); exact .base .non
  | bl b => cases h; cases (show v = .bl b from d); exact .base (.bl b)
  | int i => cases h; cases (show v = .int i from d); exact .base (.int i)
  | str x => cases h; cases (show v = .str x from d); exact .base (.str x)
  | tup ds =>
    cases h
    obtain ⟨a, vs, rfl, h1, _⟩ := d
    rcases h1 with h1 | ⟨o, _, _, h1, h2, _⟩
    · exact .base (.tup h1)
    · exact .kTuple h1 h2
  | lst ds =>
    cases h
    obtain ⟨a, vs, rfl, h1, _⟩ := d
    exact .base (.lst h1)
  | scr ds =>
    cases h
  | dct ks ds =>
    cases h
    obtain ⟨a, vs, rfl, ⟨kvs, h1, _⟩, _⟩ := d
    exact .base (.dK h1)
  | obj _ _ _ => cases h
  | glo _ => cases h
  | ty _ => cases h
  | dkn _ => cases h
theorem tyD_of {c : Kd} {x : D} {b : Bool} (e : isK c x = some b) : ∃ t, tyD x = some t := by
  cases c <;> cases x <;> simp [tyD, isK] at e ⊢
def kdOf (n : String) : Option Kd := if n = "int" then some .int else if n = "str" then some .str else if n = "bool" then some .bool else if n = "tuple" then some .tuple else if n = "list" then some .list else if n = "dict" then some .dict else none
theorem kdOf_name {n : String} {c : Kd} (e : kdOf n = some c) : n = c.name := by
  unfold kdOf at e
  repeat (split at e; · (rename_i h; cases e; exact h))
  cases e
/-- isinstance(x, c), isinstance(x, (c1, c2)) -/
def anyK : List String → D → Option Bool
  | [], _ => some false
  | n :: cs, x => match kdOf n with
    | some c => match isK c x with
      | some true => some true
      | some false => anyK cs x
      | none => none
    | none => none
def tysOf : List D → Option (List String)
  | [] => some []
  | .ty n :: cs => (tysOf cs).map (n :: ·)
  | _ :: _ => none
def dIsi : List D → Option D
  | [x, .ty n] => match kdOf n with
    | some c => (isK c x).map .bl
    | none => none
  | [x, .tup cs] => match tysOf cs, tyD x with
    | some ns, some _ => (anyK ns x).map .bl
    | _, _ => none
  | _ => none
def rIsiA (K : PySem.W.Frag) : List V → Hp → VK → Prop := fun xs H Q => rIsi K xs H Q ∨ rIsiT K xs H Q ∨ rIsiK K xs H Q
theorem call_isiA : CallR X (.builtin "isinstance") (rIsiA X.K) := by
  rintro pins s σ H xs us Q I r h
  rcases h with h | h | h
  · exact call_isi pins s σ H xs us Q I r h
  · exact call_isiT pins s σ H xs us Q I r h
  · exact call_isiK pins s σ H xs us Q I r h
theorem tysOf_ok {K : PySem.W.Frag} {mg : Str → Option Value} {L : Addr → Prop} {H : Hp} : ∀ {cs : List D} {vs : List V} {ns : List String}, DenL K mg L H cs vs → tysOf cs = some ns → vs = ns.map V.ty
  | [], vs, ns, d, e => by
    simp only [tysOf, Option.some.injEq] at e
    subst e
    exact d
  | .ty n :: cs, vs, ns, d, e => by
    obtain ⟨v, vr, rfl, h1, h2⟩ := d
    simp only [tysOf] at e
    cases q : tysOf cs with
    | none => rw [q] at e; exact nomatch e
    | some r =>
      rw [q] at e
      cases e
      cases (show v = .ty n from h1)
      rw [tysOf_ok h2 q]
      rfl
  | .non :: _, _, _, _, e => by cases e
  | .int _ :: _, _, _, _, e => by cases e
  | .bl _ :: _, _, _, _, e => by cases e
  | .str _ :: _, _, _, _, e => by cases e
  | .tup _ :: _, _, _, _, e => by cases e
  | .lst _ :: _, _, _, _, e => by cases e
  | .scr _ :: _, _, _, _, e => by cases e
  | .dct _ _ :: _, _, _, _, e => by cases e
  | .obj _ _ _ :: _, _, _, _, e => by cases e
  | .glo _ :: _, _, _, _, e => by cases e
  | .dkn _ :: _, _, _, _, e => by cases e
theorem cls_tys : ∀ ns : List String, Paired ClsV (ns.map V.ty) (ns.map Value.type)
  | [] => .nil
  | n :: ns => .cons (.ty n) (cls_tys ns)
theorem anyK_ok {K : PySem.W.Frag} {x : D} {t : String} (ht : tyD x = some t) : ∀ {ns : List String} {b : Bool}, anyK ns x = some b → PySem.W.kitAny K (.type t) (ns.map .type) = some b
  | [], b, e => by
    simp only [anyK, Option.some.injEq] at e
    subst e
    rfl
  | n :: ns, b, e => by
    simp only [anyK] at e
    split at e
    · rename_i c hc
      have hn := kdOf_name hc
      subst hn
      simp only [List.map_cons, PySem.W.kitAny]
      split at e
      · rename_i q
        cases e
        rw [kit_b ht q]
      · rename_i q
        rw [kit_b ht q]
        exact anyK_ok ht e
      · cases e
    · cases e
theorem bd_isi : CallD X (rIsiA X.K) dIsi := fun {ca cc H xs z vs Q} hc d e k => by
  unfold dIsi at e
  split at e
  · rename_i x n
    split at e
    · rename_i c hkc
      have hn := kdOf_name hkc
      subst hn
      cases q : isK c x with
      | none => simp [q] at e
      | some b =>
        simp only [q, Option.map_some, Option.some.injEq] at e
        subst e
        obtain ⟨v, u, rfl, dx, dy⟩ := d2 d
        cases (show u = .ty c.name from dy)
        obtain ⟨t, ht⟩ := tyD_of q
        exact .inl ⟨v, .ty c.name, .type t, .type c.name, b, rfl, .ty _, tyX_of dx ht, kit_b ht q, k _ _ (Stp.refl _ _) hc rfl⟩
    · cases e
  · rename_i x cs
    split at e
    · rename_i ns t hns ht
      cases q : anyK ns x with
      | none => rw [q] at e; exact nomatch e
      | some b =>
        rw [q] at e
        cases e
        obtain ⟨v, u, rfl, dx, a, us, rfl, h1, h2⟩ := d2 d
        have hv := tysOf_ok h2 hns
        subst hv
        rcases h1 with h1 | ⟨o, its, m, h1, h3, h4, h5, h6⟩
        · exact .inr (.inl ⟨v, a, _, .type t, _, b, rfl, h1, cls_tys ns, tyX_of dx ht, anyK_ok ht q, k _ _ (Stp.refl _ _) hc rfl⟩)
        · obtain ⟨cl, dd, dt, sl⟩ := o
          have h3' : cl = .type "tuple" := h3
          have h4' : dt = .seq its m := h4
          subst h3' h4'
          have e1 := ClsV.all (cls_tys ns) h6
          refine .inr (.inr ⟨v, a, dd, ns.map .type, m, sl, .type t, b, rfl, ?_, tyX_of dx ht, anyK_ok ht q, k _ _ (Stp.refl _ _) hc rfl⟩)
          rw [← e1]
          simpa using h1
    · cases e
  · cases e
end
end DL
set_option Elab.async false
set_option linter.all false
set_option maxRecDepth 100000
set_option maxHeartbeats 1900000
/-! DL5: targets, loops, comprehensions. -/
namespace DL
open L2 PyProof.Rows PySem PySem.Spec

/-! ### targets -/
abbrev Tg := W → Env → Cs → Option Env
abbrev Tgs := List W → Env → Cs → Option Env
/-- only the slots js were stored -/
def But (js : List Nat) (σ σ' : L2.St) : Prop := σ'.length = σ.length ∧ ∀ j, j ∉ js → σ'[j]? = σ[j]?
theorem But.refl (js : List Nat) (σ : L2.St) : But js σ σ := ⟨rfl, fun _ _ => rfl⟩
theorem But.trans {a b : List Nat} {σ σ1 σ2 : L2.St} (p : But a σ σ1) (q : But b σ1 σ2) : But (a ++ b) σ σ2 :=
  ⟨q.1.trans p.1, fun j h => (q.2 j fun z => h (List.mem_append_right _ z)).trans (p.2 j fun z => h (List.mem_append_left _ z))⟩
theorem wipe_get {σ : L2.St} {j : Nat} : ∀ {vs : List Nat}, (wipe σ vs)[j]? = if j ∈ vs ∧ j < σ.length then some none else σ[j]?
  | [] => by simp [wipe]
  | v :: vs => by
    unfold wipe
    by_cases e : v = j
    · subst e
      by_cases hl : v < σ.length
      · rw [List.getElem?_set_self (by rw [wipe_length]; exact hl), if_pos ⟨List.mem_cons_self, hl⟩]
      · rw [List.getElem?_eq_none (by rw [List.length_set, wipe_length]; omega), if_neg fun z => hl z.2, List.getElem?_eq_none (by omega)]
    · rw [List.getElem?_set_ne e, wipe_get (vs := vs)]
      have h : (j ∈ v :: vs) ↔ j ∈ vs := by simp [List.mem_cons, Ne.symm e]
      simp only [h]
theorem But.wipe {js vs : List Nat} {σ σ' : L2.St} (b : But js σ σ') (h : ∀ j ∈ js, j ∈ vs) : wipe σ' vs = wipe σ vs := by
  apply List.ext_getElem?; intro j
  rw [wipe_get, wipe_get, b.1]
  by_cases hj : j ∈ vs ∧ j < σ.length
  · rw [if_pos hj, if_pos hj]
  · rw [if_neg hj, if_neg hj]
    by_cases hl : j < σ.length
    · exact b.2 j fun z => hj ⟨h j z, hl⟩
    · rw [List.getElem?_eq_none (by rw [b.1]; omega), List.getElem?_eq_none (by omega)]
def EvG (K : PySem.W.Frag) (mg : Str → Option Value) (js : List Nat) (G : Tg) : TG := fun v σ H Q =>
  ∃ env ca cc w env', EnvOk K mg ca H env σ ∧ CsOk K mg ca H cc ∧ DenW K mg ca H w v ∧ G w env cc = some env' ∧ ∀ σ', EnvOk K mg ca H env' σ' → But js σ σ' → Q σ' H
def EvGs (K : PySem.W.Frag) (mg : Str → Option Value) (js : List Nat) (G : Tgs) : TGs := fun vs σ H Q =>
  ∃ env ca cc ws env', EnvOk K mg ca H env σ ∧ CsOk K mg ca H cc ∧ DenWs K mg ca H ws vs ∧ G ws env cc = some env' ∧ ∀ σ', EnvOk K mg ca H env' σ' → But js σ σ' → Q σ' H
abbrev PGv (X : Cx) (tg : Expr) (js : List Nat) (G : Tg) : Prop := PG X tg (EvG X.K X.mg js G)
abbrev PGsv (X : Cx) (tg : List Expr) (js : List Nat) (G : Tgs) : Prop := PGs X tg (EvGs X.K X.mg js G)
theorem _root_.L2.PG.imp {X : Cx} {e : Expr} {t t' : TG} (h : PG X e t) (i : ∀ v σ H Q, t' v σ H Q → t v σ H Q) : PG X e t' := ⟨fun pins s σ H v u Q I r q => h.run pins s σ H v u Q I r (i v σ H Q q)⟩
theorem _root_.L2.PGs.imp {X : Cx} {e : List Expr} {t t' : TGs} (h : PGs X e t) (i : ∀ v σ H Q, t' v σ H Q → t v σ H Q) : PGs X e t' := ⟨fun pins s σ H v u Q I r q => h.run pins s σ H v u Q I r (i v σ H Q q)⟩
def gvName (i : Nat) : Tg := fun w env _ => some (env.set i (some w))
def gvNil : Tgs := fun ws env _ => match ws with
  | [] => some env
  | _ => none
def gvCons (a : Tg) (b : Tgs) : Tgs := fun ws env cc => match ws with
  | w :: r => match a w env cc with
    | some env' => b r env' cc
    | none => none
  | [] => none
def gvTup (n : Nat) (b : Tgs) : Tg := fun w env cc => match starOf cc w with
  | some ds => if ds.length = n then b (ds.map .d) env cc else none
  | none => none
section
variable {X : Cx} {pos : Pos}
theorem But.set {σ : L2.St} {i : Nat} {v : Option V} : But [i] σ (σ.set i v) := ⟨by simp, fun j h => List.getElem?_set_ne (fun z => h (by simp [z]))⟩
theorem gg_name {i : Nat} {x : Str} (hN : X.N.Nodup) (hi : X.N[i]? = some x) (hx : Loc X.env.scope x) (hf : X.fn x = true ∨ X.env.scope.names.lookup x = some .local := by first | exact .inl rfl | exact .inr rfl | assumption) : PGv X (.Name x pos) [i] (gvName i) :=
  (pg_name hN hi hx hf).imp fun v σ H Q h => by
    obtain ⟨env, ca, cc, w, env', he, hc, d, e, k⟩ := h
    cases e
    exact k _ (he.set d) But.set
theorem gg_nil : PGsv X [] [] gvNil := pgs_nil.imp fun vs σ H Q h => by
  obtain ⟨env, ca, cc, ws, env', he, hc, d, e, k⟩ := h
  unfold gvNil at e
  split at e
  · cases e
    exact ⟨d, k _ he (But.refl _ _)⟩
  · cases e
theorem gg_cons {e : Expr} {es : List Expr} {js ks : List Nat} {a : Tg} {b : Tgs} (h1 : PGv X e js a) (h2 : PGsv X es ks b) (hs : (assignEach (e :: es) X.env).map (·.2) = assign e X.env :: (assignEach es X.env).map (·.2) := by rfl) : PGsv X (e :: es) (js ++ ks) (gvCons a b) :=
  (pgs_cons h1 h2 hs).imp fun vs σ H Q h => by
    obtain ⟨env, ca, cc, ws, env', he, hc, d, e, k⟩ := h
    unfold gvCons at e
    split at e
    · rename_i w r
      obtain ⟨v, vr, rfl, d1, d2⟩ := d
      split at e
      · rename_i env1 e1
        exact ⟨v, vr, rfl, env, ca, cc, w, env1, he, hc, d1, e1, fun σ1 he1 b1 => ⟨env1, ca, cc, r, env', he1, hc, d2, e, fun σ2 he2 b2 => k σ2 he2 (b1.trans b2)⟩⟩
      · cases e
    · cases e
theorem starOf_ok' {K : PySem.W.Frag} {mg : Str → Option Value} {ca : Ca} {H : Hp} {cc : Cs} {w : W} {ds : List D} {v : V} (hc : CsOk K mg ca H cc) (d : DenW K mg ca H w v) (e : starOf cc w = some ds) :
    ∃ a vs, v = .ref a ∧ (SqT K H a vs ∨ SqL K H a vs) ∧ DenL K mg (Live ca) H ds vs := starOf_ok hc d e
/-- a tuple or a list goes to several names -/
theorem pg_unA {es : List Expr} {k : Nat} {t : TGs} {n : Nat} (hc : X.calm = true) (h : PGs X es t) (hn : (assignEach es X.env).length = n := by rfl) (hst : (assignEach es X.env).findIdx? (·.1) = none := by rfl) :
    PG X (.Tuple es k pos) (fun v σ H Q => gTup X.K n t v σ H Q ∨ gUnl X.K n t v σ H Q) :=
  ⟨fun pins s σ H v u Q I r hw => hw.elim (fun q => (pg_tup hc h hn hst).run pins s σ H v u Q I r q) fun q => (pg_unl hc h hn hst).run pins s σ H v u Q I r q⟩
theorem gg_tup {es : List Expr} {k : Nat} {js : List Nat} {b : Tgs} {n : Nat} (hc : X.calm = true) (h : PGsv X es js b) (hn : (assignEach es X.env).length = n := by rfl) (hst : (assignEach es X.env).findIdx? (·.1) = none := by rfl) : PGv X (.Tuple es k pos) js (gvTup n b) :=
  (pg_unA hc h hn hst).imp fun v σ H Q h => by
    obtain ⟨env, ca, cc, w, env', he, hc, d, e, k⟩ := h
    unfold gvTup at e
    split at e
    · rename_i ds e1
      obtain ⟨a, vs, rfl, h1, h2⟩ := starOf_ok hc d e1
      split at e
      · rename_i hl
        have q : EvGs X.K X.mg js b vs σ H Q := ⟨env, ca, cc, _, env', he, hc, h2.ws, e, k⟩
        rcases h1 with h1 | h1
        · exact .inl ⟨a, vs, rfl, h1, h2.length.trans hl, q⟩
        · exact .inr ⟨a, vs, rfl, h1, h2.length.trans hl, q⟩
      · cases e
    · cases e
/-- targets = value -/
def sAsg (G : Tg) (m : ME) : MS := fun env cc => (m env cc).thenS env fun w c => match G w env c with
  | some env' => .nx env' c
  | none => .stuck
theorem sv_asg {Wx : WX} {tg e : Expr} {js : List Nat} {G : Tg} {m : ME} (he : PEv X Wx e m) (hg : PGv X tg js G) (hs : swapsWithSole [tg] e pos.line X.env = pure false := by rfl) (hw : swappedStores [tg] e X.env = pure none := by rfl)
    (h1 : (assignEach [tg] X.env).map (·.2) = [assign tg X.env] := by rfl) : PSv X Wx (.Assign [tg] e pos) (sAsg G m) := (ps_asg he hg hs hw h1).imp fun Dn σ H h =>
  EvSt.bind h fun env ca w cc v H' he hc d hk => by
    split at hk
    · rename_i env' e1
      exact ⟨env, ca, cc, w, env', he, hc, d, e1, fun σ' he' _ => hk σ' H' ca (Stp.refl _ _) he' hc⟩
    · exact hk.elim
end

/-! ### what is walked -/
/-- J gives the data xs, one behind the other, from (ca, H) on -/
def ItD (K : PySem.W.Frag) (mg : Str → Option Value) (ca₀ : Ca) (H₀ : Hp) (xs : List D) (J : It) : Prop :=
  ∃ (G : Hp → Prop) (Y : Nat → Hp → V → Hp → Prop), Walk J xs.length G Y ∧ (∀ ca H, Mn ca₀ H₀ ca H → G H) ∧
    ∀ i H v H' ca cc, i < xs.length → Mn ca₀ H₀ ca H → CsOk K mg ca H cc → Y i H v H' → Stp ca H ca H' ∧ CsOk K mg ca H' cc ∧ ∃ d, xs[i]? = some d ∧ DenD K mg (Live ca) H' d v
abbrev denI (K : PySem.W.Frag) (mg : Str → Option Value) : Ca → Hp → List D → It → Prop := fun ca H xs J => ItD K mg ca H xs J
abbrev PIv (X : Cx) (Wx : WX) (tg iter : Expr) (m : Env → M (List D)) : Prop := PI X tg iter (Ev X.K X.mg (denI X.K X.mg) Wx m)
theorem _root_.L2.PI.imp {X : Cx} {tg e : Expr} {t t' : TI} (h : PI X tg e t) (i : ∀ σ H Q, t' σ H Q → t σ H Q) : PI X tg e t' := ⟨fun pins s σ H Q I q => h.run pins s σ H Q I (i σ H Q q)⟩
theorem ItD.step {K : PySem.W.Frag} {mg : Str → Option Value} {ca ca' : Ca} {H H' : Hp} {xs : List D} {J : It} (p : Stp ca H ca' H') (h : ItD K mg ca H xs J) : ItD K mg ca' H' xs J := by
  obtain ⟨G, Y, w, g, y⟩ := h
  exact ⟨G, Y, w, fun ca H q => g ca H (p.toMn.trans q), fun i H v H' ca cc hi q => y i H v H' ca cc hi (p.toMn.trans q)⟩
/-- a text's signs -/
def signs (x : Str) : List D := x.cps.toList.map fun c => .str ⟨#[c]⟩
section
variable {K : PySem.W.Frag} {mg : Str → Option Value} {ca : Ca} {H : Hp}
theorem itd_list {a : Addr} {ds : List D} {vs : List V} (n : ¬ Live ca a) (h : H a = some (.lst vs)) (d : DenL K mg (Live ca) H ds vs) : ItD K mg ca H ds (Itl K a) := by
  refine ⟨_, _, by rw [← d.length]; exact walk_list (xs := vs), fun ca' H' p => SqL.of (p.kp a _ h n).1, fun i H1 v H' ca' cc hi p hc y => ?_⟩
  obtain ⟨rfl, y⟩ := y
  obtain ⟨x, hx⟩ : ∃ x, ds[i]? = some x := ⟨_, List.getElem?_eq_getElem hi⟩
  obtain ⟨v', e1, d1⟩ := d.get hx
  rw [y] at e1
  cases e1
  exact ⟨Stp.refl _ _, hc, x, hx, DenD.mono p.kp _ _ d1⟩
theorem itd_tup {a : Addr} {ds : List D} {vs : List V} (h : (¬ Live ca a ∧ H a = some (.tup vs)) ∨ KTup K a vs) (d : DenL K mg (Live ca) H ds vs) : ItD K mg ca H ds (Itt K a) := by
  refine ⟨fun H => SqT K H a vs, _, by rw [← d.length]; exact walk_tup (xs := vs), fun ca' H' p => h.elim (fun z => Or.inl (.inl (p.kp a _ z.2 z.1).1)) Or.inr, fun i H1 v H' ca' cc hi p hc y => ?_⟩
  obtain ⟨rfl, y⟩ := y
  obtain ⟨x, hx⟩ : ∃ x, ds[i]? = some x := ⟨_, List.getElem?_eq_getElem hi⟩
  obtain ⟨v', e1, d1⟩ := d.get hx
  rw [y] at e1
  cases e1
  exact ⟨Stp.refl _ _, hc, x, hx, DenD.mono p.kp _ _ d1⟩
theorem itd_str {z : Str} : ItD K mg ca H (signs z) (Its z) := by
  refine ⟨_, _, by simp only [signs, List.length_map, Array.length_toList]; exact walk_str, fun _ _ _ => True.intro, fun i H1 v H' ca' cc hi p hc y => ?_⟩
  obtain ⟨rfl, c, h1, rfl⟩ := y
  exact ⟨Stp.refl _ _, hc, .str ⟨#[c]⟩, by simp [signs, h1], rfl⟩
theorem itd_range {lo : Int} {n : Nat} : ItD K mg ca H ((List.range n).map fun i : Nat => D.int (lo + (i : Int))) (Itr lo n) := by
  refine ⟨_, _, by simp only [List.length_map, List.length_range]; exact walk_range, fun _ _ _ => True.intro, fun i H1 v H' ca' cc hi p hc y => ?_⟩
  obtain ⟨rfl, rfl⟩ := y
  have hi' : i < n := by simpa using hi
  exact ⟨Stp.refl _ _, hc, .int (lo + i), by simp [hi'], rfl⟩
end
/-- the items of what is walked by itself -/
def itemsD : D → Option (List D)
  | .lst ds => some ds
  | .tup ds => some ds
  | .str x => some (signs x)
  | _ => none
def mIt (m : ME) : Env → M (List D) := fun env cc => (m env cc).bind fun w c => match w with
  | .d x => match itemsD x with
    | some ds => .ok ds c
    | none => .stuck
  | .cell _ => .stuck
section
variable {X : Cx} {Wx : WX} {tg e : Expr} {m : ME}
def iAny (K : PySem.W.Frag) (tl : TE) : TI := fun σ H R => tl σ H fun x H1 => (∃ a, x = .ref a ∧ (∃ xs, SqL K H1 a xs) ∧ R (Itl K a) H1) ∨ (∃ a, x = .ref a ∧ (∃ xs, SqT K H1 a xs) ∧ R (Itt K a) H1) ∨ ∃ z, x = .str z ∧ R (Its z) H1
/-- a fresh iterator at the heap's end may be stepped -/
theorem fresh_fp {pins : List (Addr × Obj)} {σ : L2.St} {H : Hp} {s : Shared} (inv : Inv X pins σ H s) : ∀ b ∈ [s.heap.objs.size], FpOk X pins H b := by
  intro b mem
  rw [List.mem_singleton.mp mem]
  exact inv.fpOk (Nat.le_refl _) (inv.hok.fresh (Nat.le_refl _))
theorem pi_any {tl : TE} (hl : PE X e tl) : PI X tg e (iAny X.K tl) := by
  constructor
  intro pins s σ H R inv left
  apply thn (hl.run pins s σ H _ inv left)
  rintro v s1 ⟨x, H1, I1, r1, ⟨a, rfl, ⟨xs, known⟩, q⟩ | ⟨a, rfl, ⟨xs, known⟩, q⟩ | ⟨z, ex, q⟩⟩
  · cases r1
    obtain ⟨_, _, lay, _⟩ := I1.list known
    apply wpAny_pyIter_list lay.isList
    exact ⟨_, _, _, _, H1, rfl, I1.kept (t' := s1.toks) (fun b o e => Heap.get?_push_of_some _ e), turn_list a _, ⟨_, Heap.get?_push_size _ rfl, rfl, rfl⟩, fresh_fp I1, q⟩
  · cases r1
    obtain ⟨its, _, lay, _⟩ := I1.tuple known
    have isT : s1.heap.IsTuple a its.toArray := lay
    apply wpAny_pyIter_tuple isT
    exact ⟨_, _, _, _, H1, rfl, I1.kept (t' := s1.toks) (fun b o e => Heap.get?_push_of_some _ e), turn_tuple a _, ⟨_, Heap.get?_push_size _ rfl, rfl, rfl⟩, fresh_fp I1, q⟩
  · subst ex
    obtain ⟨t, rfl⟩ := r1
    cases ha : z.cps.all (· < 128)
    · exact wpAny_pyIter_wide ha (pi_one (tk := s1.toks) I1 _ (turn_str _ z t "str_iterator" (.inr rfl)) ⟨_, Heap.get?_push_size _ rfl, rfl, rfl⟩ q)
    · exact wpAny_pyIter_ascii ha (pi_one (tk := s1.toks) I1 _ (turn_str _ z t "str_ascii_iterator" (.inl rfl)) ⟨_, Heap.get?_push_size _ rfl, rfl, rfl⟩ q)
theorem iv_any (h : PEv X Wx e m) : PIv X Wx tg e (mIt m) := (pi_any h).imp fun σ H R h =>
  Ev.bind h fun env ca w cc v H' he hc d hk => by
    split at hk
    · rename_i x
      split at hk
      · rename_i ds e1
        have d' : DenD X.K X.mg (Live ca) H' x v := d
        unfold itemsD at e1
        split at e1
        · cases e1
          simp only [DenD] at d'
          obtain ⟨a, vs, rfl, n, h1, h2⟩ := d'
          exact .inl ⟨a, rfl, ⟨vs, SqL.of h1⟩, hk.now (Stp.refl _ _) hc (itd_list n h1 h2)⟩
        · cases e1
          simp only [DenD] at d'
          obtain ⟨a, vs, rfl, h1, h2⟩ := d'
          exact .inr (.inl ⟨a, rfl, ⟨vs, TupAt.sq (h1.imp (fun z => z.2) fun z => z)⟩, hk.now (Stp.refl _ _) hc (itd_tup h1 h2)⟩)
        · cases e1
          exact .inr (.inr ⟨_, d', hk.now (Stp.refl _ _) hc itd_str⟩)
        · cases e1
      · exact hk.elim
    · exact hk.elim
/-- range(n), range(m, n) -/
def okR (i : Int) : Bool := decide (-(2 ^ 62) ≤ i ∧ i < 2 ^ 62)
def rangeOf (lo : Int) (n : Nat) : List D := (List.range n).map fun i : Nat => D.int (lo + (i : Int))
def mRng1 (a : ME) : Env → M (List D) := fun env cc => (a env cc).bind fun w c => match w with
  | .d (.int j) => if okR j = true then .ok (rangeOf 0 j.toNat) c else .stuck
  | _ => .stuck
def mRng2 (a b : ME) : Env → M (List D) := fun env cc => (a env cc).bind fun w c => (b env c).bind fun u c2 => match w, u with
  | .d (.int i), .d (.int j) => if okR i = true ∧ okR j = true then .ok (rangeOf i (j - i).toNat) c2 else .stuck
  | _, _ => .stuck
theorem iv_range1 {a : Expr} {ma : ME} {p pos : Pos} (hg : Gl X "range") (hm : X.mg "range" = none) (ha : PEv X Wx a ma) (hst : starEach [a] X.env = [(false, eval a X.env)] := by rfl) : PIv X Wx tg (.Call (.Name "range" p) [a] [] pos) (mRng1 ma) :=
  (pi_range1 hg hm (pa_cons ha pa_nil hst) hst).imp fun σ H R h => Ev.bind h fun env ca w cc v H' he hc d hk => by
    split at hk
    · rename_i j
      split at hk
      · rename_i hl
        have hl' := of_decide_eq_true hl
        exact ⟨j, by rw [show v = .int j from d], hl'.1, hl'.2, hk.now (Stp.refl _ _) hc itd_range⟩
      · exact hk.elim
    · exact hk.elim
theorem iv_range2 {a b : Expr} {ma mb : ME} {p pos : Pos} (hg : Gl X "range") (hm : X.mg "range" = none) (ha : PEv X Wx a ma) (hb : PEv X Wx b mb) (hst : starEach [a, b] X.env = [(false, eval a X.env), (false, eval b X.env)] := by rfl) (hst2 : starEach [b] X.env = [(false, eval b X.env)] := by rfl) :
    PIv X Wx tg (.Call (.Name "range" p) [a, b] [] pos) (mRng2 ma mb) :=
  (pi_range2 hg hm (pa_cons ha (pa_cons hb pa_nil hst2) (by rw [hst, hst2])) hst hst2).imp fun σ H R h => Ev.bind h fun env ca w cc v H' he hc d hk => ⟨env, ca, cc, he, hc, KS.bind hk fun u c2 v2 H2 ca2 p hc2 d2 hk2 => by
    split at hk2
    · rename_i i j
      split at hk2
      · rename_i hl
        have h1 := of_decide_eq_true hl.1
        have h2 := of_decide_eq_true hl.2
        exact ⟨i, j, by rw [show v = .int i from d, show v2 = .int j from d2], ⟨h1.1, h1.2, h2.1, h2.2⟩, hk2.now (Stp.refl _ _) hc2 itd_range⟩
      · exact hk2.elim
    · exact hk2.elim⟩
end

/-! ### for, while -/
def forL (G : Tg) (b : MS) : List D → Env → Cs → SR
  | [], env, cc => .nx env cc
  | x :: xs, env, cc => match G (.d x) env cc with
    | none => .stuck
    | some env' => match b env' cc with
      | .nx e c => forL G b xs e c
      | .ct e c => forL G b xs e c
      | .bk e c => .nx e c
      | .rt w c => .rt w c
      | .raise x e c => .raise x e c
      | .stuck => .stuck
def sFor (mi : Env → M (List D)) (G : Tg) (b : MS) : MS := fun env cc => (mi env cc).thenS env fun xs c => forL G b xs env c
def whileL (t : Env → M Bool) (b : MS) : Nat → Env → Cs → SR
  | 0, _, _ => .stuck
  | n + 1, env, cc => (t env cc).thenS env fun x c => if x = true then (match b env c with
      | .nx e c => whileL t b n e c
      | .ct e c => whileL t b n e c
      | .bk e c => .nx e c
      | .rt w c => .rt w c
      | .raise x e c => .raise x e c
      | .stuck => .stuck) else .nx env c
def sWhile (t : Env → M Bool) (b : MS) (fuel : Nat) : MS := fun env cc => whileL t b fuel env cc
section
variable {X : Cx} {Wx : WX} {tg iter c : Expr} {body : List Stmt} {mi : Env → M (List D)} {js : List Nat} {G : Tg} {b : MS} {t : Env → M Bool} {pos : Pos}
theorem drop_cons' {α : Type} {xs : List α} {i : Nat} {d : α} (h : xs[i]? = some d) : xs.drop i = d :: xs.drop (i + 1) := by
  obtain ⟨lt, e⟩ := List.getElem?_eq_some_iff.mp h
  rw [List.drop_eq_getElem_cons lt, e]
theorem sv_for (hp : PassesOwn (model X.prog X.w) X.A X.env X.xe) (hc : X.calm = true) (hi : PIv X Wx tg iter mi) (hg : PGv X tg js G) (hb : PSsv X Wx body b) (hs : ∀ x, foldedSetIterable iter X.env x = pure x := by intro _; rfl) :
    PSv X Wx (.For tg iter body [] pos) (sFor mi G b) := (ps_for hp hc hi hg hb hs).imp fun Dn σ H h =>
  EvSt.bind h fun env ca xs cc J H' he hc itd hk => by
    obtain ⟨Gp, Y, w, g, y⟩ := itd
    refine for_it w (fun i σ H => ∃ env1 ca1 cc1, Stp ca H' ca1 H ∧ EnvOk X.K X.mg ca1 H env1 σ ∧ CsOk X.K X.mg ca1 H cc1 ∧ KSt X.K X.mg Wx ca1 H Dn (forL G b (xs.drop i) env1 cc1)) ⟨env, ca, cc, Stp.refl _ _, he, hc, hk⟩
      (fun i σ H _ ⟨_, ca1, _, p, _⟩ => g ca1 H p.toMn) (fun i v σ H H2 hi ⟨env1, ca1, cc1, p, he1, hc1, hk1⟩ yy => ?_) fun σ H ⟨env1, ca1, cc1, p, he1, hc1, hk1⟩ => ?_
    · obtain ⟨p2, hc2, d, hd, dd⟩ := y i H v H2 ca1 cc1 hi p.toMn hc1 yy
      rw [drop_cons' hd] at hk1
      simp only [forL] at hk1
      split at hk1
      · exact hk1.elim
      · rename_i env' e1
        refine ⟨env1, ca1, cc1, .d d, env', he1.mono p2, hc2, dd, e1, fun σ' he' _ => ⟨env', ca1, cc1, he', hc2, ?_⟩⟩
        have hk2 := KSt.step p2 hk1
        cases q : b env' cc1 with
        | nx e c => rw [q] at hk2; exact fun σ'' H3 ca3 p3 he3 hc3 => ⟨e, ca3, c, (p.trans p2).trans p3, he3, hc3, KSt.step p3 hk2⟩
        | ct e c => rw [q] at hk2; exact fun σ'' H3 ca3 p3 he3 hc3 => ⟨e, ca3, c, (p.trans p2).trans p3, he3, hc3, KSt.step p3 hk2⟩
        | bk e c => rw [q] at hk2; exact hk2
        | rt w c => rw [q] at hk2; exact hk2
        | raise x e c => rw [q] at hk2; exact hk2
        | stuck => rw [q] at hk2; exact hk2.elim
    · rw [List.drop_length] at hk1
      exact hk1 σ H ca1 (Stp.refl _ _) he1 hc1
theorem sv_while (fuel : Nat) (hp : PassesOwn (model X.prog X.w) X.A X.env X.xe) (hc : PTv X Wx c t) (hb : PSsv X Wx body b) : PSv X Wx (.While c body [] pos) (sWhile t b fuel) := (ps_while hp hc hb).imp fun Dn σ H h => by
  obtain ⟨env, ca, cc, he, hc, hk⟩ := h
  refine ⟨fun m σ H => ∃ env1 ca1 cc1, EnvOk X.K X.mg ca1 H env1 σ ∧ CsOk X.K X.mg ca1 H cc1 ∧ KSt X.K X.mg Wx ca1 H Dn (whileL t b m env1 cc1), ⟨fuel, env, ca, cc, he, hc, hk⟩, ?_⟩
  rintro m σ H ⟨env1, ca1, cc1, he1, hc1, hk1⟩
  cases m with
  | zero => exact hk1.elim
  | succ m =>
    refine EvSt.bind (m := t) (f := fun env x c => if x = true then (match b env c with
      | .nx e c => whileL t b m e c
      | .ct e c => whileL t b m e c
      | .bk e c => .nx e c
      | .rt w c => .rt w c
      | .raise x e c => .raise x e c
      | .stuck => .stuck) else .nx env c) (Dn := Dn) ⟨env1, ca1, cc1, he1, hc1, hk1⟩ fun env2 ca2 x cc2 x' H2 he2 hc2 d hk2 => ?_
    have d' : x = x' := d
    subst d'
    cases x with
    | false => exact hk2 σ H2 ca2 (Stp.refl _ _) he2 hc2
    | true =>
      rw [if_pos rfl] at hk2
      refine ⟨fun σ' H' => ∃ env1 ca1 cc1, EnvOk X.K X.mg ca1 H' env1 σ' ∧ CsOk X.K X.mg ca1 H' cc1 ∧ KSt X.K X.mg Wx ca1 H' Dn (whileL t b m env1 cc1), fun σ' H' q => ⟨m, Nat.lt_succ_self m, q⟩, env2, ca2, cc2, he2, hc2, ?_⟩
      cases q : b env2 cc2 with
      | nx e c => rw [q] at hk2; exact fun σ'' H3 ca3 p3 he3 hc3 => ⟨e, ca3, c, he3, hc3, KSt.step p3 hk2⟩
      | ct e c => rw [q] at hk2; exact fun σ'' H3 ca3 p3 he3 hc3 => ⟨e, ca3, c, he3, hc3, KSt.step p3 hk2⟩
      | bk e c => rw [q] at hk2; exact hk2
      | rt w c => rw [q] at hk2; exact hk2
      | raise x e c => rw [q] at hk2; exact hk2
      | stuck => rw [q] at hk2; exact hk2.elim
end

/-! ### comprehensions -/
/-- no exception leaves -/
abbrev W0 : WX := fun _ _ _ _ => False
def wipeE (env : Env) : List Nat → Env
  | [] => env
  | v :: vs => (wipeE env vs).set v none
theorem EnvOk.wipe {K : PySem.W.Frag} {mg : Str → Option Value} {ca : Ca} {H : Hp} {env : Env} {σ : L2.St} (h : EnvOk K mg ca H env σ) : ∀ vs : List Nat, EnvOk K mg ca H (wipeE env vs) (wipe σ vs)
  | [] => h
  | v :: vs => (EnvOk.wipe h vs).unset
/-- the turns of a comprehension: what each gives, those left out by the test skipped -/
def lcL (G : Tg) (t : Env → M Bool) (m : ME) (env : Env) : List D → M (List D)
  | [], cc => .ok [] cc
  | x :: xs, cc => match G (.d x) env cc with
    | none => .stuck
    | some env' => match t env' cc with
      | .ok true c1 => match m env' c1 with
        | .ok (.d y) c2 => match lcL G t m env xs c2 with
          | .ok ys c3 => .ok (y :: ys) c3
          | _ => .stuck
        | _ => .stuck
      | .ok false c1 => lcL G t m env xs c1
      | _ => .stuck
def mLc (mi : Env → M (List D)) (vs : List Nat) (G : Tg) (t : Env → M Bool) (m : ME) : ME := fun env cc => (mi env cc).bind fun xs c => match lcL G t m (wipeE env vs) xs c with
  | .ok ys c2 => if xs.length ≤ CAP then .ok (.d (.lst ys)) c2 else .stuck
  | _ => .stuck
abbrev PTsv (X : Cx) (Wx : WX) (es : List Expr) (m : Env → M Bool) : Prop := PTs X es (EvB X Wx m)
def tvYes : Env → M Bool := fun _ cc => .ok true cc
section
variable {X : Cx} {Wx : WX}
theorem _root_.L2.PTs.imp {X : Cx} {e : List Expr} {t t' : TT} (h : PTs X e t) (i : ∀ σ H Q, t' σ H Q → t σ H Q) : PTs X e t' := ⟨fun pins s σ H Q I q => h.run pins s σ H Q I (i σ H Q q)⟩
theorem tsv_nil : PTsv X Wx [] tvYes := pts_nil.imp fun σ H Q h => by
  obtain ⟨env, ca, cc, he, hc, hk⟩ := h
  exact hk.now (Stp.refl _ _) hc rfl
theorem tsv_one {c : Expr} {m : Env → M Bool} (h : PTv X Wx c m) : PTsv X Wx [c] m := pts_one h
end
/-- with one more address that nobody sees -/
def Ca.hide (ca : Ca) (p : Addr) : Ca := ⟨ca.l, fun a => ca.g a ∨ a = p⟩
section
variable {K : PySem.W.Frag} {mg : Str → Option Value} {ca ca' : Ca} {H H' : Hp} {cc : Cs}
theorem live_hide {p a : Addr} : Live (ca.hide p) a ↔ Live ca a ∨ a = p := by
  unfold Live Ca.hide
  simp only [or_assoc]
/-- the new list is laid, hidden -/
theorem Kp.hide {p : Addr} {o : HO} (hp : H p = none) : Kp (Live ca) H (Live (ca.hide p)) (upd H p o) := fun a u e l => ⟨by rw [upd_ne (ne_of_none e hp)]; exact e, fun z => by
  rcases live_hide.mp z with z | z
  · exact l z
  · exact ne_of_none e hp z⟩
theorem Mn.hide {p : Addr} {o : HO} (hp : H p = none) : Mn ca H (ca.hide p) (upd H p o) := ⟨Nat.le_refl _, fun _ _ _ e => e, Kp.hide hp⟩
theorem CsOk.hide {p : Addr} {o : HO} (h : CsOk K mg ca H cc) (hp : H p = none) (mu : Mut (some o)) : CsOk K mg (ca.hide p) (upd H p o) cc := by
  have ne : ∀ {n : Nat} {a : Addr}, ca.l[n]? = some (some a) → a ≠ p := fun e => by
    obtain ⟨u, hu⟩ := h.tracked (Live.of e)
    exact ne_of_none hu hp
  refine ⟨h.len, fun n a e => ?_, h.live, h.inj, fun a g => ?_, fun n a e g => ?_⟩
  · obtain ⟨c, e1, d⟩ := h.at_ n a e
    exact ⟨c, e1, d.mn (Mn.hide hp) (upd_ne (ne e))⟩
  · rcases g with g | rfl
    · obtain ⟨u, e, m⟩ := h.gh a g
      exact ⟨u, by rw [upd_ne (ne_of_none e hp)]; exact e, m⟩
    · exact ⟨o, upd_same, mu⟩
  · rcases g with g | g
    · exact h.gd n a e g
    · exact ne e g
/-- a hidden thing is written -/
theorem Mn.gwrite {p : Addr} {o : HO} (g : ca.g p) : Mn ca H ca (upd H p o) := ⟨Nat.le_refl _, fun _ _ _ e => e, fun a u e l => ⟨by have ne : a ≠ p := fun z => l (.inr (z ▸ g)); rw [upd_ne ne]; exact e, l⟩⟩
theorem CsOk.gwrite {p : Addr} {o : HO} (h : CsOk K mg ca H cc) (g : ca.g p) (mu : Mut (some o)) : CsOk K mg ca (upd H p o) cc := by
  refine ⟨h.len, fun n a e => ?_, h.live, h.inj, fun a ga => ?_, h.gd⟩
  · obtain ⟨c, e1, d⟩ := h.at_ n a e
    exact ⟨c, e1, d.mn (Mn.gwrite g) (upd_ne fun z => h.gd n a e (z ▸ g))⟩
  · by_cases e : a = p
    · subst e
      exact ⟨o, upd_same, mu⟩
    · obtain ⟨u, e1, m⟩ := h.gh a ga
      exact ⟨u, by rw [upd_ne e]; exact e1, m⟩
/-- shown again -/
def Ca.back (ca : Ca) (g : Addr → Prop) : Ca := ⟨ca.l, g⟩
theorem live_back {g : Addr → Prop} (hg : ∀ a, g a → ca.g a) {a : Addr} (l : Live (ca.back g) a) : Live ca a := l.imp (fun z => z) (hg a)
theorem Mn.back {g : Addr → Prop} (hg : ∀ a, g a → ca.g a) : Mn ca H (ca.back g) H := ⟨Nat.le_refl _, fun _ _ _ e => e, fun a u e l => ⟨e, fun z => l (live_back hg z)⟩⟩
theorem CsOk.back {g : Addr → Prop} (h : CsOk K mg ca H cc) (hg : ∀ a, g a → ca.g a) : CsOk K mg (ca.back g) H cc :=
  ⟨h.len, fun n a e => let ⟨c, e1, d⟩ := h.at_ n a e; ⟨c, e1, d.mn (Mn.back hg) rfl⟩, h.live, h.inj, fun a ga => h.gh a (hg a ga), fun n a e ga => h.gd n a e (hg a ga)⟩
end
theorem wipe_wipe {σ : L2.St} {vs : List Nat} : wipe (wipe σ vs) vs = wipe σ vs := by
  apply List.ext_getElem?; intro j
  rw [wipe_get, wipe_get, wipe_length]
  by_cases h : j ∈ vs ∧ j < σ.length
  · rw [if_pos h, if_pos h]
  · rw [if_neg h, if_neg h]
section
variable {X : Cx} {Wx : WX} {elt tg iter : Expr} {ifs : List Expr} {scope : Scope} {own : List (Str × Nat)} {pos : Pos} {mi : Env → M (List D)} {js : List Nat} {G : Tg} {t : Env → M Bool} {m : ME}
theorem lc_read {σ : L2.St} {H : Hp} {Q : VK} (hjs : ∀ j ∈ js, j ∈ own.map (·.2)) (h : EvE X Wx (mLc mi (own.map (·.2)) G t m) σ H Q) :
    tLc (Ev X.K X.mg (denI X.K X.mg) Wx mi) (EvG X.K X.mg js G) (Ev X.K X.mg denB W0 t) (Ev X.K X.mg (denV X.K X.mg) W0 m) (own.map (·.2)) σ H Q :=
  Ev.bind h fun env ca xs cc J H1 he hc itd hk => by
    intro L hL
    generalize hvs : own.map (·.2) = vs at hk hjs ⊢
    split at hk
    · rename_i ys0 c0 e0
      split at hk
      · rename_i hcap
        obtain ⟨Gp, Y, w, g, y⟩ := itd
        refine lc_it w (fun i H => ∃ ca1 cc1 acc us ys, ca1.g = (ca.hide L).g ∧ Mn ca H1 ca1 H ∧ (∀ a, ca.g a → H a = H1 a) ∧ H L = some (.lst us) ∧ DenL X.K X.mg (Live ca1) H acc us ∧ acc.length ≤ i ∧ CsOk X.K X.mg ca1 H cc1 ∧
          EnvOk X.K X.mg ca1 H (wipeE env vs) (wipe σ vs) ∧ acc ++ ys = ys0 ∧ lcL G t m (wipeE env vs) (xs.drop i) cc1 = .ok ys c0) ?_ ?_ ?_ ?_
        · refine ⟨ca.hide L, cc, [], [], ys0, rfl, Mn.hide hL, fun a ga => upd_ne fun z => hc.gNew hL (z ▸ ga), upd_same, rfl, Nat.le_refl _, hc.hide hL True.intro, (he.wipe vs).mn (Mn.hide hL), rfl, ?_⟩
          simpa using e0
        · rintro i H _ ⟨ca1, cc1, acc, us, ys, hg1, mn, _⟩
          exact g ca1 H mn
        · rintro i v H H2 hi ⟨ca1, cc1, acc, us, ys, hg1, mn, gk, hLu, dL, hlen, hc1, he1, hys, hrest⟩ yy
          obtain ⟨p2, hc2, d, hd, dd⟩ := y i H v H2 ca1 cc1 hi mn hc1 yy
          have gL : ca1.g L := by rw [hg1]; exact .inr rfl
          rw [drop_cons' hd] at hrest
          simp only [lcL] at hrest
          split at hrest
          · cases hrest
          · rename_i env' e1
            refine ⟨wipeE env vs, ca1, cc1, .d d, env', he1.mono p2, hc2, dd, e1, fun σ2 he2 b2 => ⟨(b2.wipe hjs).trans wipe_wipe, env', ca1, cc1, he2, hc2, ?_⟩⟩
            split at hrest
            · rename_i c1 e2
              rw [e2]
              intro b H4 ca4 p4 hc4 hb
              have hb' : true = b := hb
              subst hb'
              rw [if_pos rfl]
              refine ⟨env', ca4, c1, he2.mono p4, hc4, ?_⟩
              split at hrest
              · rename_i y' c2 e3
                rw [e3]
                intro v5 H5 ca5 p5 hc5 d5
                have pp := (p2.trans p4).trans p5
                have hLu5 : H5 L = some (.lst us) := (pp.gKp L gL).trans hLu
                have gL5 : ca5.g L := by rw [pp.gEq]; exact gL
                split at hrest
                · rename_i ys1 c3 e4
                  simp only [R.ok.injEq] at hrest
                  obtain ⟨rfl, rfl⟩ := hrest
                  refine ⟨us, hLu5, ?_, ca5, c2, acc ++ [y'], us ++ [v5], ys1, by rw [pp.gEq]; exact hg1, (mn.trans pp.toMn).trans (Mn.gwrite gL5), fun a ga => ?_, upd_same, ?_, ?_, hc5.gwrite gL5 True.intro, (he1.mono pp).mn (Mn.gwrite gL5), ?_, e4⟩
                  · have := dL.length
                    have h1 : us.length < CAP := by omega
                    rw [sizeLine_eq]
                    exact h1
                  · have ne : a ≠ L := fun z => hc.gNew hL (z ▸ ga)
                    rw [upd_ne ne, pp.gKp a (by rw [hg1]; exact .inl ga)]
                    exact gk a ga
                  · exact (DenL.mono (Mn.gwrite gL5).kp _ _ ((DenL.mono pp.kp _ _ dL).snoc d5))
                  · simp; omega
                  · rw [← hys]; simp
                · cases hrest
              · cases hrest
            · rename_i c1 e2
              rw [e2]
              intro b H4 ca4 p4 hc4 hb
              have hb' : false = b := hb
              subst hb'
              rw [if_neg (by decide : ¬ false = true)]
              have pp := p2.trans p4
              exact ⟨ca4, c1, acc, us, ys, by rw [pp.gEq]; exact hg1, mn.trans pp.toMn, fun a ga => (pp.gKp a (by rw [hg1]; exact .inl ga)).trans (gk a ga), (pp.gKp L gL).trans hLu, DenL.mono pp.kp _ _ dL, by omega, hc4, he1.mono pp, hys, hrest⟩
            · cases hrest
        · rintro H ⟨ca1, cc1, acc, us, ys, hg1, mn, gk, hLu, dL, hlen, hc1, he1, hys, hrest⟩
          rw [List.drop_length] at hrest
          simp only [lcL, R.ok.injEq] at hrest
          obtain ⟨rfl, rfl⟩ := hrest
          rw [List.append_nil] at hys
          subst hys
          have hgs : ∀ a, ca.g a → ca1.g a := fun a ga => by rw [hg1]; exact .inl ga
          refine hk (.ref L) H (ca1.back ca.g) ⟨mn.trans (Mn.back hgs), rfl, gk⟩ (hc1.back hgs) ⟨L, us, rfl, fun z => ?_, hLu, DenL.mono (Mn.back hgs).kp _ _ dL⟩
          rcases z with z | z
          · obtain ⟨n, hn⟩ := List.getElem?_of_mem z
            exact hc1.gd n L hn (by rw [hg1]; exact .inr rfl)
          · exact hc.gNew hL z
      · exact hk.elim
    · exact hk.elim
theorem pv_lc (hc : X.calm = true) (hN : X.N.Nodup) (hi : PIv X Wx tg iter mi) (ok : BlkOk X.N X.env.scope scope own)
    (hg : ∀ (s : Shared) (H : Hp) (C : Addr) (cl : List (Str × Addr)) (fp : List Addr), PGv (X.blk s H scope (compEnvC scope cl C X.env) fp) tg js G) (hjs : ∀ j ∈ js, j ∈ own.map (·.2))
    (ht : ∀ (s : Shared) (H : Hp) (C : Addr) (cl : List (Str × Addr)) (fp : List Addr), PTsv (X.blk s H scope (compEnvC scope cl C X.env) fp) W0 ifs t)
    (he : ∀ (s : Shared) (H : Hp) (C : Addr) (cl : List (Str × Addr)) (fp : List Addr), PEv (X.blk s H scope (compEnvC scope cl C X.env) fp) W0 elt m) (hs : ∀ x, foldedSetIterable iter X.env x = pure x := by intro _; rfl) :
    PEv X Wx (.ListComp elt [⟨tg, iter, ifs, 0⟩] scope pos) (mLc mi (own.map (·.2)) G t m) := (pe_lc hc hN hi ok hg ht he hs).imp fun σ H Q h => lc_read hjs h
/-- y = [..] -/
theorem sv_lc {i : Nat} {y : Str} {py spos : Pos} (hc : X.calm = true) (hN : X.N.Nodup) (hy : X.N[i]? = some y) (hyl : X.env.scope.names.lookup y = some .local) (hsw : swapsWith (.ListComp elt [⟨tg, iter, ifs, 0⟩] scope pos) (some (.Name y py)) spos.line X.env = pure true)
    (hi : PIv X Wx tg iter mi) (ok : BlkOk X.N X.env.scope scope own)
    (hg : ∀ (s : Shared) (H : Hp) (C : Addr) (cl : List (Str × Addr)) (fp : List Addr), PGv (X.blk s H scope (compEnvC scope cl C X.env) fp) tg js G) (hjs : ∀ j ∈ js, j ∈ own.map (·.2))
    (ht : ∀ (s : Shared) (H : Hp) (C : Addr) (cl : List (Str × Addr)) (fp : List Addr), PTsv (X.blk s H scope (compEnvC scope cl C X.env) fp) W0 ifs t)
    (he : ∀ (s : Shared) (H : Hp) (C : Addr) (cl : List (Str × Addr)) (fp : List Addr), PEv (X.blk s H scope (compEnvC scope cl C X.env) fp) W0 elt m) (hs : ∀ x, foldedSetIterable iter X.env x = pure x := by intro _; rfl) :
    PSv X Wx (.Assign [.Name y py] (.ListComp elt [⟨tg, iter, ifs, 0⟩] scope pos) spos) (sSet i (mLc mi (own.map (·.2)) G t m)) := (ps_setLc hc hN hy hyl hsw hi ok hg ht he hs).imp fun Dn σ H h =>
  lc_read hjs (EvSt.bind h fun env ca w cc v H' he hc d hk => hk _ H' ca (Stp.refl _ _) (he.set d) hc)
end
end DL
set_option Elab.async false
set_option linter.all false
set_option maxRecDepth 100000
set_option maxHeartbeats 1900000
/-! DL6: own objects, methods, changing lists and dicts. -/
namespace DL
open L2 PyProof.Rows PySem PySem.Spec

/-! ### fields -/
def fld {α : Type} : List Str → List α → Str → Option α
  | n :: ns, v :: vs, f => if eqS f n = true then some v else fld ns vs f
  | _, _, _ => none
def putS {α : Type} (f : Str) (v : α) : List Str → List α → List Str × List α
  | n :: ns, x :: vs => if eqS n f = true then (n :: ns, v :: vs) else let r := putS f v ns vs; (n :: r.1, x :: r.2)
  | _, _ => ([f], [v])
theorem fld_lookup {f : Str} : ∀ {ns : List Str} {vs : List V}, ns.length = vs.length → (ns.zip vs).lookup f = fld ns vs f
  | [], [], _ => rfl
  | [], _ :: _, h => nomatch h
  | _ :: _, [], h => nomatch h
  | n :: ns, v :: vs, h => by
    have ih := fld_lookup (f := f) (ns := ns) (vs := vs) (by simpa using h)
    simp only [List.zip_cons_cons, List.lookup, fld, eqS_iff]
    by_cases e : f = n
    · have hb : (f == n) = true := beq_iff_eq.mpr e
      simp only [hb, if_pos e]
    · have hb : (f == n) = false := beq_eq_false_iff_ne.mpr e
      simp only [hb, if_neg e]
      exact ih
theorem fld_denW {K : PySem.W.Frag} {mg : Str → Option Value} {ca : Ca} {H : Hp} {f : Str} : ∀ {ns : List Str} {ws : List W} {vs : List V} {w : W}, DenWs K mg ca H ws vs → fld ns ws f = some w → ∃ v, fld ns vs f = some v ∧ DenW K mg ca H w v
  | [], _, _, _, _, e => by simp [fld] at e
  | _ :: _, [], _, _, _, e => by simp [fld] at e
  | n :: ns, u :: ws, vs, w, d, e => by
    obtain ⟨v, vr, rfl, d1, d2⟩ := d
    simp only [fld, eqS_iff] at e ⊢
    split at e
    · rename_i h; cases e; exact ⟨v, by rw [if_pos h], d1⟩
    · rename_i h; rw [if_neg h]; exact fld_denW d2 e
theorem fld_denL {K : PySem.W.Frag} {mg : Str → Option Value} {ca : Ca} {H : Hp} {f : Str} : ∀ {ns : List Str} {ws : List D} {vs : List V} {w : D}, DenL K mg (Live ca) H ws vs → fld ns ws f = some w → ∃ v, fld ns vs f = some v ∧ DenD K mg (Live ca) H w v
  | [], _, _, _, _, e => by simp [fld] at e
  | _ :: _, [], _, _, _, e => by simp [fld] at e
  | n :: ns, u :: ws, vs, w, d, e => by
    obtain ⟨v, vr, rfl, d1, d2⟩ := d
    simp only [fld, eqS_iff] at e ⊢
    split at e
    · rename_i h; cases e; exact ⟨v, by rw [if_pos h], d1⟩
    · rename_i h; rw [if_neg h]; exact fld_denL d2 e
theorem putS_zip {f : Str} {v : V} : ∀ {ns : List Str} {vs : List V}, ns.length = vs.length → putF f v (ns.zip vs) = (putS f v ns vs).1.zip (putS f v ns vs).2 ∧ (putS f v ns vs).1.length = (putS f v ns vs).2.length
  | [], [], _ => ⟨rfl, rfl⟩
  | [], _ :: _, h => nomatch h
  | _ :: _, [], h => nomatch h
  | n :: ns, x :: vs, h => by
    have h' : ns.length = vs.length := by simpa using h
    obtain ⟨i1, i2⟩ := putS_zip (f := f) (v := v) h'
    simp only [List.zip_cons_cons, putF, putS, eqS_iff]
    by_cases e : n = f
    · rw [if_pos e, if_pos e]
      exact ⟨rfl, by simp [h']⟩
    · rw [if_neg e, if_neg e]
      exact ⟨by rw [i1]; rfl, by simp [i2]⟩
theorem putS_ns {α β : Type} {f : Str} {v : α} {u : β} : ∀ {ns : List Str} {vs : List α} {us : List β}, vs.length = us.length → (putS f v ns vs).1 = (putS f u ns us).1
  | [], vs, us, h => by cases vs <;> cases us <;> simp_all [putS]
  | n :: ns, [], [], _ => rfl
  | n :: ns, [], _ :: _, h => by simp at h
  | n :: ns, _ :: _, [], h => by simp at h
  | n :: ns, x :: vs, y :: us, h => by
    have ih := putS_ns (f := f) (v := v) (u := u) (ns := ns) (vs := vs) (us := us) (by simpa using h)
    simp only [putS, eqS_iff]
    by_cases e : n = f
    · rw [if_pos e, if_pos e]
    · rw [if_neg e, if_neg e]
      simp [ih]
theorem putS_den {K : PySem.W.Frag} {mg : Str → Option Value} {ca : Ca} {H : Hp} {f : Str} {w : W} {v : V} (dw : DenW K mg ca H w v) : ∀ {ns : List Str} {ws : List W} {vs : List V}, DenWs K mg ca H ws vs → DenWs K mg ca H (putS f w ns ws).2 (putS f v ns vs).2
  | [], [], vs, d => by cases (show vs = [] from d); exact ⟨v, [], rfl, dw, rfl⟩
  | [], _ :: _, vs, d => by
    obtain ⟨u, vr, rfl, _, _⟩ := d
    exact ⟨v, [], rfl, dw, rfl⟩
  | n :: ns, [], vs, d => by cases (show vs = [] from d); exact ⟨v, [], rfl, dw, rfl⟩
  | n :: ns, x :: ws, vs, d => by
    obtain ⟨u, vr, rfl, d1, d2⟩ := d
    simp only [putS, eqS_iff]
    by_cases e : n = f
    · rw [if_pos e, if_pos e]
      exact ⟨v, vr, rfl, dw, d2⟩
    · rw [if_neg e, if_neg e]
      exact ⟨u, _, rfl, d1, putS_den dw d2⟩

/-- an own object: its class, its fields -/
def objOf (cc : Cs) : W → Option (Str × List Str × List W)
  | .d (.obj c ns ds) => some (c, ns, ds.map .d)
  | .cell n => match cc[n]? with
    | some (some (.obj c ns ws)) => some (c, ns, ws)
    | _ => none
  | _ => none
theorem objOf_ok {K : PySem.W.Frag} {mg : Str → Option Value} {ca : Ca} {H : Hp} {cc : Cs} {w : W} {v : V} {c : Str} {ns : List Str} {ws : List W} (hc : CsOk K mg ca H cc) (d : DenW K mg ca H w v) (e : objOf cc w = some (c, ns, ws)) :
    ∃ a Cl dx vs, v = .ref a ∧ mg c = some (.ref Cl) ∧ H a = some (.ins Cl dx (ns.zip vs)) ∧ ns.length = vs.length ∧ DenWs K mg ca H ws vs := by
  unfold objOf at e
  split at e
  · cases e
    have d' : DenD K mg (Live ca) H (.obj _ _ _) v := d
    simp only [DenD] at d'
    obtain ⟨a, Cl, dx, vs, rfl, _, h0, h1, hl, h2⟩ := d'
    exact ⟨a, Cl, dx, vs, rfl, h0, h1, hl, h2.ws⟩
  · split at e
    · rename_i n _ _ _ hn
      cases e
      obtain ⟨a, ha, rfl, Cl, dx, vs, h0, h1, hl, h2⟩ := cell_at hc d hn
      exact ⟨a, Cl, dx, vs, rfl, h0, h1, hl, h2⟩
    · cases e
  · cases e

def mFld (c f : Str) (m : ME) : ME := fun env cc => (m env cc).bind fun w c1 => match objOf c1 w with
  | some (c', ns, ws) => if eqS c' c = true then match fld ns ws f with
      | some u => .ok u c1
      | none => .stuck
    else .stuck
  | none => .stuck
/-- what the text says of a class -/
structure ClsF (K : PySem.W.Frag) (mg : Str → Option Value) (c : Str) (Cl : Addr) : Prop where
  mg : mg c = some (.ref Cl)
  cl : Cls K Cl
theorem ClsF.eq {K : PySem.W.Frag} {mg : Str → Option Value} {c : Str} {Cl Cl' : Addr} (h : ClsF K mg c Cl) (e : mg c = some (.ref Cl')) : Cl' = Cl := by
  have q := h.mg.symm.trans e
  cases q
  rfl
section
variable {X : Cx} {Wx : WX} {o e value : Expr} {c f : Str} {Cl : Addr} {m mo mv : ME} {pos pos' : Pos}
theorem pv_fld (hC : ClsF X.K X.mg c Cl) (hn : NoAttr X.K Cl f) (he : PEv X Wx e m) (hb : attributeBase e f X.env (eval e X.env) = eval e X.env := by rfl) : PEv X Wx (.Attribute e f pos) (mFld c f m) := (pe_fld he hb).imp fun σ H Q h =>
  Ev.bind h fun env ca w cc v H' he hc d hk => by
    split at hk
    · rename_i c' ns ws e1
      split at hk
      · rename_i hcc
        have hcc := eqS_iff.mp hcc
        subst hcc
        obtain ⟨a, Cl', dx, vs, rfl, h0, h1, hl, h2⟩ := objOf_ok hc d e1
        have := hC.eq h0
        subst this
        split at hk
        · rename_i u e2
          obtain ⟨v, e3, d3⟩ := fld_denW h2 e2
          exact ⟨a, Cl', dx, _, v, rfl, h1, hC.cl, hn, by rw [fld_lookup hl]; exact e3, hk.now (Stp.refl _ _) hc d3⟩
        · exact hk.elim
      · exact hk.elim
    · exact hk.elim
/-- e.f = value -/
def sFldSet (c f : Str) (mv mo : ME) : MS := fun env cc => (mv env cc).thenS env fun w c1 => (mo env c1).thenS env fun o c2 => match o with
  | .cell n => match c2[n]? with
    | some (some (.obj c' ns ws)) => if eqS c' c = true ∧ ns.length < 1000 then .nx env (c2.set n (some (.obj c' (putS f w ns ws).1 (putS f w ns ws).2))) else .stuck
    | _ => .stuck
  | _ => .stuck
theorem sv_fldSet (hC : ClsF X.K X.mg c Cl) (hn : NoAttr X.K Cl f) (ho : PEv X Wx o mo) (hv : PEv X Wx value mv) (hs : swapsWith value (some (.Attribute o f pos')) pos.line X.env = pure false := by rfl) : PSv X Wx (.Assign [.Attribute o f pos'] value pos) (sFldSet c f mv mo) :=
  (ps_fld ho hv hs).imp fun Dn σ H h => EvSt.bind h fun env ca w cc v H' he hc d hk => ⟨env, ca, cc, he, hc, KSt.bind he hk fun o2 c2 v2 H2 ca2 p hc2 d2 hk2 => by
    split at hk2
    · rename_i n
      split at hk2
      · rename_i c' ns ws hn'
        split at hk2
        · rename_i hh
          obtain ⟨hcc, hlen⟩ := hh
          have hcc := eqS_iff.mp hcc
          subst hcc
          obtain ⟨a, ha, rfl, Cl', dx, vs, h0, h1, hl, h3⟩ := cell_at hc2 d2 hn'
          have := hC.eq h0
          subst this
          refine ⟨a, Cl', dx, _, rfl, h1, hC.cl, hn, by rw [List.length_zip, ← hl]; simpa using hlen, ?_⟩
          have d' := d.mono p
          obtain ⟨z1, z2⟩ := putS_zip (f := f) (v := v) hl
          have q : (putS f w ns ws).1 = (putS f v ns vs).1 := putS_ns (by rw [h3.length])
          refine hk2 σ _ ca2 (Stp.write hc2 ha) ((he.mono p).mono (Stp.write hc2 ha)) (hc2.write ha ?_)
          refine ⟨Cl', dx, (putS f v ns vs).2, h0, ?_, ?_, ?_⟩
          · rw [upd_same, z1, q]
          · rw [q]
            exact z2
          · exact putS_den (d'.mono (Stp.write hc2 ha)) (h3.mono (Stp.write hc2 ha))
        · exact hk2.elim
      · exact hk2.elim
    · exact hk2.elim⟩
end

/-! ### methods of own classes -/
section
variable {X : Cx} {Wx : WX} {k n : Nat} {f Cl : Addr} {fd : FuncData} {ps : List Str} {F : Fn} {dvs : List V} {dfl : List W} {ds : List Value} {c m : Str} {apos pos : Pos} {o e : Expr} {es : List Expr} {mo : ME} {r : Env → M (List W)} {CX : CXT} {sp : Sp} {E : L2.St → XK} {ta : TE} {t : TA}
def tMethS (C : Addr) (m : Str) (sp : Sp) (dvs : List V) (E : L2.St → XK) (ta : TE) (t : TA) : TE := fun σ H Q => ta σ H fun x H1 => ∃ a dx fs, x = .ref a ∧ H1 a = some (.ins C dx fs) ∧ fs.lookup m = none ∧
  t σ H1 fun vs H2 => sp (.ref a :: (vs ++ dvs)) H2 Q (E σ)
/-- what a call of a method runs: the object, the method read of it, the call -/
def mcall (X : Cx) (o : Expr) (m : Str) (apos pos : Pos) (pl : Sem Bool) (es : List Expr) : Sem Value := do
  let ob ← eval o X.env
  standAt apos.atName
  let (g, self) ← holding [ob] (getMethod ob m pl)
  callWith pos g self (backTo pos (starEach es X.env)) (backToKw pos (keywordEach [] X.env))
/-- the object first, then the rest of the call in the state it leaves -/
theorem via_meth {pl : Sem Bool} {as : List Expr} {rest : Addr → L2.St → Hp → VK → Prop} (he : PE X o ta) (c : Cls X.K Cl) (hm : Meth X.K Cl m f) (ht : eval (.Call (.Attribute o m apos) as [] pos) X.env = mcall X o m apos pos pl as)
    (go : ∀ {pins : List (Addr × Obj)} {s : Shared} {σ : L2.St} {H : Hp} {Q : VK} {a : Addr}, Inv X pins σ H s → rest a σ H Q →
      wpAny (model X.prog X.w) X.A (callWith pos (.ref f) [.ref a] (backTo pos (starEach as X.env)) (backToKw pos (keywordEach [] X.env))) (EP X pins σ Q) X.xe s) :
    PE X (.Call (.Attribute o m apos) as [] pos) (fun σ H Q => ta σ H fun x H1 => ∃ a dx fs, x = .ref a ∧ H1 a = some (.ins Cl dx fs) ∧ fs.lookup m = none ∧ rest a σ H1 Q) := by
  constructor
  intro pins s σ H Q inv hyp
  refine PySem.W.methodCall_KW (he := ht) (pl := pl) ?_
  apply thn (he.run pins s σ H _ inv hyp)
  rintro u s1 ⟨_, H1, inv1, ru, a, dx, fs, rfl, at1, none1, left⟩
  have is_a : u = Value.ref a := ru
  cases is_a
  exact getmeth_ok inv1 at1 c hm none1 (go inv1 left)
theorem pe_methSD {pl : Sem Bool} (he : PE X o ta) (c : Cls X.K Cl) (hm : Meth X.K Cl m f) (F : FnOk X.prog X.w X.K X.mg X.base CX k f fd ps sp) (hr : Room k X.A) (hb : Binds X.K fd ps ds) (hd : Vals dvs ds) (hx : ∀ σ, PassesAt CX X σ (E σ)) (ha : PA X (e :: es) t)
    (hst : ArgAt X e es := by rfl) (hpl : FlatAt X pos es := by rfl)
    (ht : eval (.Call (.Attribute o m apos) (e :: es) [] pos) X.env = mcall X o m apos pos pl (e :: es) := by rfl) :
    PE X (.Call (.Attribute o m apos) (e :: es) [] pos) (tMethS Cl m sp dvs E ta t) :=
  via_meth (rest := fun a σ H Q => t σ H fun vs H2 => sp (.ref a :: (vs ++ dvs)) H2 Q (E σ)) he c hm ht (fun {pins s σ H Q a} inv left => PySem.W.callWith_K (first := [.ref a]) (h₀ := X.base) inv.ok.mod.kin hm.kp
    (thn (ha.run pos pins s σ H _ inv left) fun _ _ ⟨_, _, inv2, eqs, q2⟩ => ⟨inv2.kIn, run_fnSD F hr hb hd (hx σ) inv2 (.cons (show L2.RelV (.ref a) (Value.ref a) from rfl) eqs) q2⟩) hst hpl)
theorem pe_methSD0 {pl : Sem Bool} (he : PE X o ta) (c : Cls X.K Cl) (hm : Meth X.K Cl m f) (F : FnOk X.prog X.w X.K X.mg X.base CX k f fd ps sp) (hr : Room k X.A) (hb : Binds X.K fd ps ds) (hd : Vals dvs ds) (hx : ∀ σ, PassesAt CX X σ (E σ))
    (ht : eval (.Call (.Attribute o m apos) [] [] pos) X.env = mcall X o m apos pos pl [] := by rfl) :
    PE X (.Call (.Attribute o m apos) [] [] pos) (tMethS Cl m sp dvs E ta tNil) :=
  via_meth (rest := fun a σ H Q => sp (.ref a :: dvs) H Q (E σ)) he c hm ht (fun {pins s σ H Q a} inv left => PySem.W.callWith_K0 (first := [.ref a]) inv.kIn hm.kp (run_fnSD F hr hb hd (hx σ) inv (.cons (show L2.RelV (.ref a) (Value.ref a) from rfl) .nil) left))
/-- o.m(..), o of the class c -/
def mMeth (c m : Str) (F : Fn) (n : Nat) (mo : ME) (r : Env → M (List W)) (dfl : List W) : ME := fun env cc => (mo env cc).bind fun w c1 => match objOf c1 w with
  | some (c', ns, ws) => if eqS c' c = true ∧ (fld ns ws m).isNone = true then (r env c1).bind fun us c2 => if (w :: (us ++ dfl)).length = n then F (w :: (us ++ dfl)) c2 else .stuck
    else .stuck
  | none => .stuck
theorem fld_none {f : Str} : ∀ {ns : List Str} {ws : List W} {vs : List V}, ws.length = vs.length → fld ns ws f = none → fld ns vs f = none
  | [], _, _, _, _ => by simp [fld]
  | _ :: _, [], [], _, _ => by simp [fld]
  | _ :: _, [], _ :: _, h, _ => by simp at h
  | _ :: _, _ :: _, [], h, _ => by simp at h
  | n :: ns, w :: ws, v :: vs, h, e => by
    simp only [fld, eqS_iff] at e ⊢
    split at e
    · cases e
    · rename_i h'
      rw [if_neg h']
      exact fld_none (by simpa using h) e
theorem meth_read {σ : L2.St} {H : Hp} {Q : VK} (hC : ClsF X.K X.mg c Cl) (hdw : DflW X.K X.mg dfl dvs) (h : EvE X Wx (mMeth c m F n mo r dfl) σ H Q) : tMethS Cl m (spOf X.K X.mg n F) dvs (WE Wx) (EvE X Wx mo) (EvA X Wx r) σ H Q :=
  Ev.bind h fun env ca w cc v H' he hc d hk => by
    split at hk
    · rename_i c' ns ws e1
      split at hk
      · rename_i hh
        obtain ⟨hcc, hnone⟩ := hh
        have hcc := eqS_iff.mp hcc
        subst hcc
        obtain ⟨a, Cl', dx, vs, rfl, h0, h1, hl, h2⟩ := objOf_ok hc d e1
        have := hC.eq h0
        subst this
        refine ⟨a, dx, _, rfl, h1, by rw [fld_lookup hl]; exact fld_none h2.length.symm (Option.isNone_iff_eq_none.mp hnone), env, ca, cc, he, hc, KS.bind hk fun us c2 vs2 H2 ca2 p hc2 d2 hk2 => ?_⟩
        split at hk2
        · rename_i hlen
          exact ⟨_, ca2, c2, hlen, ⟨_, _, rfl, d.mono p, d2.append (hdw _ _)⟩, hc2, hk2⟩
        · exact hk2.elim
      · exact hk.elim
    · exact hk.elim
theorem pv_meth {pl : Sem Bool} (hC : ClsF X.K X.mg c Cl) (hm : Meth X.K Cl m f) (ho : PEv X Wx o mo) (G : FnOk X.prog X.w X.K X.mg X.base (L2.CX X.prog X.w) k f fd ps (spOf X.K X.mg n F)) (hr : Room k X.A) (hb : Binds X.K fd ps ds) (hd : Vals dvs ds) (hdw : DflW X.K X.mg dfl dvs)
    (tk : Takes X Wx) (ha : PAv X Wx (e :: es) r) (hst : ArgAt X e es := by rfl) (hpl : FlatAt X pos es := by rfl)
    (ht : eval (.Call (.Attribute o m apos) (e :: es) [] pos) X.env = mcall X o m apos pos pl (e :: es) := by rfl) :
    PEv X Wx (.Call (.Attribute o m apos) (e :: es) [] pos) (mMeth c m F n mo r dfl) := (pe_methSD ho hC.cl hm G hr hb hd (fun σ => passAt tk σ) ha hst hpl ht).imp fun _ _ _ h => meth_read hC hdw h
theorem pv_meth0 {pl : Sem Bool} (hC : ClsF X.K X.mg c Cl) (hm : Meth X.K Cl m f) (ho : PEv X Wx o mo) (G : FnOk X.prog X.w X.K X.mg X.base (L2.CX X.prog X.w) k f fd ps (spOf X.K X.mg n F)) (hr : Room k X.A) (hb : Binds X.K fd ps ds) (hd : Vals dvs ds) (hdw : DflW X.K X.mg dfl dvs)
    (tk : Takes X Wx)
    (ht : eval (.Call (.Attribute o m apos) [] [] pos) X.env = mcall X o m apos pos pl [] := by rfl) :
    PEv X Wx (.Call (.Attribute o m apos) [] [] pos) (mMeth c m F n mo mNil dfl) := (pe_methSD0 ho hC.cl hm G hr hb hd (fun σ => passAt tk σ) ht).imp fun σ H Q h => by
  have q := meth_read hC hdw h
  obtain ⟨env, ca, cc, he, hc, hk⟩ := q
  refine ⟨env, ca, cc, he, hc, ?_⟩
  cases q2 : mo env cc with
  | ok w c1 =>
    rw [q2] at hk
    intro v H' ca' p hc' d
    obtain ⟨a, dx, fs, h1, h2, h3, env2, ca2, cc2, he2, hc2, hk2⟩ := hk v H' ca' p hc' d
    exact ⟨a, dx, fs, h1, h2, h3, hk2.now (Stp.refl _ _) hc2 rfl⟩
  | raise x c1 => rw [q2] at hk; exact hk
  | stuck => rw [q2] at hk; exact hk

/-! ### a new object -/
def mkEnd (n : Nat) (keep : Bool) (w : W) (cc : Cs) : R W := match w with
  | .d .non => if keep = true then (match cc[n]? with
      | some (some (.obj c ns ws)) => .ok (.cell n) cc
      | _ => .stuck) else (match frz cc (.cell n) with
      | some (x, c) => cut n (okBelow1 n) (.d x) c
      | none => .stuck)
  | _ => .stuck
def mMake (c : Str) (keep : Bool) (F : Fn) (n : Nat) (r : Env → M (List W)) (dfl : List W) : ME := fun env cc => (r env cc).bind fun us c1 => if (W.cell c1.length :: (us ++ dfl)).length = n then (match F (.cell c1.length :: (us ++ dfl)) (c1 ++ [some (.obj c [] [])]) with
      | .ok w c2 => mkEnd c1.length keep w c2
      | .raise x c2 => if okBelow c1.length (c2.take c1.length) = true then .raise x (c2.take c1.length) else .stuck
      | .stuck => .stuck) else .stuck
end
section
variable {X : Cx} {Wx : WX} {k n : Nat} {f Cl : Addr} {fd : FuncData} {ps : List Str} {F : Fn} {dvs : List V} {dfl : List W} {ds : List Value} {c x : Str} {p pos : Pos} {e : Expr} {es : List Expr} {r : Env → M (List W)} {CX : CXT} {sp : Sp} {E : L2.St → XK} {t : TA}
theorem run_makeS {pins : List (Addr × Obj)} {σ : L2.St} {H : Hp} {s : Shared} {Q : VK} {us : List Value} {vs : List V} (M : Mk X.K Cl f) (F : FnOk X.prog X.w X.K X.mg X.base CX k f fd ps sp) (hr : Room (k + 1) X.A) (hb : Binds X.K fd ps ds) (hd : Vals dvs ds)
    (hx : PassesAt CX X σ (E σ)) (I : Inv X pins σ H s) (r : Vals vs us)
    (h : ∀ x dx, H x = none → H dx = none → dx ≠ x → sp (.ref x :: (vs ++ dvs)) (upd (upd H dx (.own x)) x (.ins Cl dx [])) (fun v H2 => v = .non ∧ Q (.ref x) H2) (E σ)) :
    wpAny (model X.prog X.w) X.A (call (.ref Cl) us) (EP X pins σ Q) X.xe s := by
  have inv' := Inv.made (C := Cl) I
  have start := h _ _ (I.hok.fresh (Nat.le_succ s.heap.objs.size)) (I.hok.fresh (Nat.le_refl s.heap.objs.size)) (Nat.ne_of_lt (Nat.lt_succ_self _))
  have args : Vals (.ref (s.heap.objs.size + 1) :: (vs ++ dvs)) (.ref (s.heap.objs.size + 1) :: (us ++ ds)) := .cons (show L2.RelV (.ref (s.heap.objs.size + 1)) (Value.ref (s.heap.objs.size + 1)) from rfl) (r.append hd)
  have count : (Value.ref (s.heap.objs.size + 1) :: us ++ ds).length = ps.length := (args.length.symm).trans (F.len _ _ _ _ start)
  have body := F.run _ X.stack _ _ ⟨.ref (s.heap.objs.size + 1) :: us, []⟩ _ _ _ (E σ) (hr.make Cl us []) (inv'.env0.make Cl us []) (hb _ _ inv'.kIn count) args start
  apply wpAny_call
  apply make_map (f := f) I.kIn M.makes M.init (beq_iff_eq.mp M.fn)
  apply codeAny_mono body
  rintro (bad | out) s' post
  · exact hx pins _ _ bad s' inv' post
  · match out, post with
    | .ret w, post =>
      obtain ⟨y, H', inv2, ry, none2, done⟩ := inv'.after post
      cases none2
      exact ⟨ry, V.ref (s.heap.objs.size + 1), H', inv2, rfl, done⟩
    | .next, post | .brk, post | .cont, post => cases post
def tMakeS (C : Addr) (sp : Sp) (dvs : List V) (E : L2.St → XK) (t : TA) : TE := fun σ H Q => t σ H fun vs H1 => ∀ x dx, H1 x = none → H1 dx = none → dx ≠ x →
  sp (.ref x :: (vs ++ dvs)) (upd (upd H1 dx (.own x)) x (.ins C dx [])) (fun v H2 => v = .non ∧ Q (.ref x) H2) (E σ)
theorem pe_makeS (M : Mk X.K Cl f) (F : FnOk X.prog X.w X.K X.mg X.base CX k f fd ps sp) (hr : Room (k + 1) X.A) (hg : Gl X x) (hm : X.mg x = some (.ref Cl)) (hb : Binds X.K fd ps ds) (hd : Vals dvs ds) (hx : ∀ σ, PassesAt CX X σ (E σ))
    (ha : PA X (e :: es) t) (hdb : (x == ("__debug__" : Str)) = false := by decide) (he : ArgAt X e es := by rfl) (hpl : FlatAt X pos es := by rfl) :
    PE X (.Call (.Name x p) (e :: es) [] pos) (tMakeS Cl sp dvs E t) := by
  constructor
  intro pins s σ H Q inv left
  apply wpAny_Call_Name_kw
  apply ld_glob inv hg hm _ hdb
  apply PySem.W.callWith_K (h₀ := X.base) inv.ok.mod.kin M.kp (he := he) (hplain := hpl)
  apply thn (ha.run pos pins s σ H _ inv left)
  rintro us s1 ⟨vs, H1, inv1, rel, more⟩
  exact ⟨inv1.kIn, run_makeS M F hr hb hd (hx σ) inv1 rel more⟩
theorem make_sp {σ : L2.St} {H' : Hp} {Q : VK} {ca : Ca} {cc : Cs} {us : List W} {vs : List V} {keep : Bool} (hC : ClsF X.K X.mg c Cl) (hc : CsOk X.K X.mg ca H' cc) (d : DenWs X.K X.mg ca H' us vs) (hlen : (W.cell cc.length :: us).length = n)
    (hk : KS X.K X.mg (denV X.K X.mg) (fun c d H => Wx c d σ H) ca H' Q (match F (.cell cc.length :: us) (cc ++ [some (.obj c [] [])]) with
      | .ok w c2 => mkEnd cc.length keep w c2
      | .raise x c2 => if okBelow cc.length (c2.take cc.length) = true then .raise x (c2.take cc.length) else .stuck
      | .stuck => .stuck)) (x dx : Addr) (hx : H' x = none) (hdx : H' dx = none) (ne : dx ≠ x) :
    spOf X.K X.mg n F (.ref x :: vs) (upd (upd H' dx (.own x)) x (.ins Cl dx [])) (fun v H2 => v = .non ∧ Q (.ref x) H2) (WE Wx σ) := by
  have hx' : upd H' dx (.own x) x = none := by rw [upd_ne (Ne.symm ne)]; exact hx
  have p1 : Stp ca H' ca (upd H' dx (.own x)) := Stp.new hc hdx
  have hc1 := hc.new (o := .own x) hdx
  have p2 : Stp ca (upd H' dx (.own x)) (ca.snoc x) (upd (upd H' dx (.own x)) x (.ins Cl dx [])) := Stp.cell hc1 hx'
  have hc2 : CsOk X.K X.mg (ca.snoc x) (upd (upd H' dx (.own x)) x (.ins Cl dx [])) (cc ++ [some (.obj c [] [])]) := hc1.cell hx' ⟨Cl, dx, [], hC.mg, upd_same, rfl, rfl⟩
  have pp := p1.trans p2
  refine ⟨_, ca.snoc x, cc ++ [some (.obj c [] [])], hlen, ⟨.ref x, vs, rfl, den_cell_new hc1, d.mono pp⟩, hc2, ?_⟩
  cases q : F (.cell cc.length :: us) (cc ++ [some (.obj c [] [])]) with
  | stuck => rw [q] at hk; exact hk
  | raise y c2 =>
    rw [q] at hk
    intro cls dd H3 ca3 p3 hc3 ex
    have hk' : KS X.K X.mg (denV X.K X.mg) (fun c d H => Wx c d σ H) ca H' Q (if okBelow cc.length (c2.take cc.length) = true then R.raise y (c2.take cc.length) else .stuck) := hk
    split at hk'
    · rename_i ok
      have hl' : cc.length ≤ ca3.l.length := by have := (pp.trans p3).len; rw [hc.len] at this; exact this
      have p4 := (pp.trans p3).take
      rw [hc.len] at p4
      exact hk' cls dd H3 _ p4 (hc3.take hl' ok) ex.take
    · exact hk'.elim
  | ok w c2 =>
    rw [q] at hk
    intro v H3 ca3 p3 hc3 dw
    have hk' : KS X.K X.mg (denV X.K X.mg) (fun c d H => Wx c d σ H) ca H' Q (mkEnd cc.length keep w c2) := hk
    unfold mkEnd at hk'
    have hl' : cc.length ≤ ca3.l.length := by have := (pp.trans p3).len; rw [hc.len] at this; exact this
    have hat : DenW X.K X.mg ca3 H3 (.cell cc.length) (.ref x) := (den_cell_new (K := X.K) (mg := X.mg) (o := .ins Cl dx []) (p := x) hc1).mono p3
    split at hk'
    · refine ⟨dw, ?_⟩
      split at hk'
      · split at hk'
        · exact hk'.now (pp.trans p3) hc3 hat
        · exact hk'.elim
      · split at hk'
        · rename_i y c3 e
          obtain ⟨ca4, p4, hc4, d4⟩ := frz_ok hc3 hat e
          unfold cut at hk'
          split at hk'
          · rename_i ok
            have hl4 : cc.length ≤ ca4.l.length := Nat.le_trans hl' p4.len
            have p5 := ((pp.trans p3).trans p4).take
            rw [hc.len] at p5
            exact hk'.now p5 (hc4.take hl4 ok.1) (DenW.take (w := .d y) hl4 d4 ok.2)
          · exact hk'.elim
        · exact hk'.elim
    · exact hk'.elim
theorem make_read {σ : L2.St} {H : Hp} {Q : VK} {keep : Bool} (hC : ClsF X.K X.mg c Cl) (hdw : DflW X.K X.mg dfl dvs) (h : EvE X Wx (mMake c keep F n r dfl) σ H Q) : tMakeS Cl (spOf X.K X.mg n F) dvs (WE Wx) (EvA X Wx r) σ H Q :=
  Ev.bind h fun env ca us cc vs H' he hc d hk => by
    split at hk
    · rename_i hlen
      exact fun x dx hx hdx ne => make_sp hC hc (d.append (hdw _ _)) hlen hk x dx hx hdx ne
    · exact hk.elim
theorem pv_make {keep : Bool} (hC : ClsF X.K X.mg c Cl) (M : Mk X.K Cl f) (G : FnOk X.prog X.w X.K X.mg X.base (L2.CX X.prog X.w) k f fd ps (spOf X.K X.mg n F)) (hr : Room (k + 1) X.A) (hg : Gl X c) (hb : Binds X.K fd ps ds) (hd : Vals dvs ds) (hdw : DflW X.K X.mg dfl dvs) (tk : Takes X Wx)
    (ha : PAv X Wx (e :: es) r) (hdb : (c == ("__debug__" : Str)) = false := by decide) (he : ArgAt X e es := by rfl) (hpl : FlatAt X pos es := by rfl) :
    PEv X Wx (.Call (.Name c p) (e :: es) [] pos) (mMake c keep F n r dfl) := (pe_makeS M G hr hg hC.mg hb hd (fun σ => passAt tk σ) ha hdb he hpl).imp fun _ _ _ h => make_read hC hdw h
end

/-! ### lists that change -/
/-- the receiver is a list that changes -/
def isLstC (cc : Cs) : W → Bool
  | .cell n => match cc[n]? with
    | some (some (.lst _)) => true
    | _ => false
  | _ => false
/-- o.m(x) upon a list that changes: g of its items and the argument: what comes back, the items behind -/
def mLm (g : List D → List D → Option (D × List D)) (mo : ME) (r : Env → M (List W)) : ME := fun env cc => (mo env cc).bind fun o c1 => if isLstC c1 o = true then (r env c1).bind fun ws c2 => match o, allD ws with
  | .cell n, some xs => match c2[n]? with
    | some (some (.lst ds)) => match g ds xs with
      | some (y, ds') => .ok (.d y) (c2.set n (some (.lst ds')))
      | none => .stuck
    | _ => .stuck
  | _, _ => .stuck else .stuck
/-- such a method, by values -/
def LmD (X : Cx) (rm : V → List V → Hp → VK → Prop) (g : List D → List D → Option (D × List D)) : Prop :=
  ∀ {ca : Ca} {H : Hp} {ds xs ds' : List D} {y : D} {a : Addr} {vs us : List V} {Q : VK}, H a = some (.lst vs) → DenL X.K X.mg (Live ca) H ds vs → DenL X.K X.mg (Live ca) H xs us → g ds xs = some (y, ds') →
    (∀ v' vs', (∀ H', Kp (Live ca) H (Live ca) H' → DenD X.K X.mg (Live ca) H' y v') → (∀ H', Kp (Live ca) H (Live ca) H' → DenL X.K X.mg (Live ca) H' ds' vs') → Q v' (upd H a (.lst vs'))) → rm (.ref a) us H Q
section
variable {X : Cx} {Wx : WX} {o e : Expr} {es : List Expr} {mo : ME} {r : Env → M (List W)} {apos cpos : Pos} {rm : V → List V → Hp → VK → Prop} {g : List D → List D → Option (D × List D)} {name : Str} {id : String}
theorem recv_ty {ca : Ca} {H : Hp} {cc : Cs} {w : W} {v : V} (hc : CsOk X.K X.mg ca H cc) (d : DenW X.K X.mg ca H w v) (e : isLstC cc w = true) : tyV X.K "list" v H := by
  unfold isLstC at e
  split at e
  · split at e
    · rename_i n _ _ hn
      obtain ⟨a, ha, rfl, vs, h1, h2⟩ := cell_at hc d hn
      exact .inl ⟨rfl, vs, SqL.of h1⟩
    · cases e
  · cases e
theorem lm_read {σ : L2.St} {H : Hp} {Q : VK} (hg : LmD X rm g) (h : EvE X Wx (mLm g mo r) σ H Q) : tBM X.K "list" rm (EvE X Wx mo) (EvA X Wx r) σ H Q :=
  Ev.bind h fun env ca w cc v H' he hc d hk => by
    split at hk
    · rename_i hl
      refine ⟨recv_ty hc d hl, env, ca, cc, he, hc, KS.bind hk fun ws c2 us H2 ca2 p hc2 d2 hk2 => ?_⟩
      split at hk2
      · rename_i n xs e1
        split at hk2
        · rename_i ds hn
          split at hk2
          · rename_i y ds' e2
            obtain ⟨a, ha, rfl, vs, h3, h4⟩ := cell_at hc2 (d.mono p) hn
            refine hg h3 h4 (allD_ok d2 e1) e2 fun v' vs' q1 q2 => ?_
            have st := Stp.write (o := .lst vs') hc2 ha
            exact hk2.now st (hc2.write ha ⟨_, upd_same, q2 _ st.kp⟩) (q1 _ st.kp)
          · exact hk2.elim
        · exact hk2.elim
      · exact hk2.elim
    · exact hk.elim
theorem pv_lm (slot : Slot "list" name id) (hty : typeOf (.builtin id) = pure (.type "method_descriptor")) (hm : MtR X id rm) (hg : LmD X rm g) (ho : PEv X Wx o mo) (ha : PAv X Wx (e :: es) r)
    (hbase : BaseAt X o name := by rfl)
    (hfew : FewAt X cpos (e :: es) := by rfl)
    (hline : RowAt apos cpos := by rfl) (hs : ArgAt X e es := by rfl) (hplain : FlatAt X cpos es := by rfl) :
    PEv X Wx (.Call (.Attribute o name apos) (e :: es) [] cpos) (mLm g mo r) := (pe_bm PySem.F.plainAttrs_list slot hty hm ho ha hbase hfew hline hs hplain).imp fun _ _ _ h => lm_read hg h
theorem pv_lm0 (slot : Slot "list" name id) (hty : typeOf (.builtin id) = pure (.type "method_descriptor")) (hm : MtR X id rm) (hg : LmD X rm g) (ho : PEv X Wx o mo)
    (hbase : BaseAt X o name := by rfl) (hline : RowAt apos cpos := by rfl) :
    PEv X Wx (.Call (.Attribute o name apos) [] [] cpos) (mLm g mo mNil) := (pe_bm0 PySem.F.plainAttrs_list slot hty hm ho hbase hline).imp fun σ H Q h => by
  obtain ⟨env, ca, cc, he, hc, hk⟩ := lm_read hg h
  refine ⟨env, ca, cc, he, hc, ?_⟩
  cases q : mo env cc with
  | stuck => rw [q] at hk; exact hk
  | raise x c => rw [q] at hk; exact hk
  | ok w c1 =>
    rw [q] at hk
    intro v H1 ca1 p1 hc1 d1
    obtain ⟨h1, env2, ca2, cc2, he2, hc2, hk2⟩ := hk v H1 ca1 p1 hc1 d1
    exact ⟨h1, hk2.now (Stp.refl _ _) hc2 rfl⟩
/-- append, pop(i), clear -/
def gApp : List D → List D → Option (D × List D) := fun ds xs => match xs with
  | [x] => if ds.length < CAP then some (.non, ds ++ [x]) else none
  | _ => none
theorem lm_append : LmD X rAppend gApp := fun {ca H ds xs ds' y a vs us Q} h1 h2 h3 e k => by
  unfold gApp at e
  split at e
  · split at e
    · rename_i hcap
      cases e
      obtain ⟨v, vr, rfl, d1, d2⟩ := h3
      cases (show vr = [] from d2)
      exact ⟨a, vs, v, rfl, rfl, h1, by rw [h2.length, sizeLine_eq]; exact hcap, k _ _ (fun _ _ => rfl) fun H' p => DenL.mono p _ _ (h2.snoc d1)⟩
    · cases e
  · cases e
def gPopAt : List D → List D → Option (D × List D) := fun ds xs => match xs with
  | [.int i] => if 0 ≤ i ∧ i < 2 ^ 62 then (match ds[i.toNat]? with
    | some y => some (y, ds.eraseIdx i.toNat)
    | none => none) else none
  | _ => none
theorem seqIx {i : Int} {n : Nat} (h0 : 0 ≤ i) (h : i.toNat < n) : seqIndex? i n = some i.toNat := by
  unfold seqIndex?
  have h1 : ¬ i < 0 := by omega
  have h2 : (decide (0 ≤ i) && decide (i < (n : Int))) = true := by simp; omega
  simp only [if_neg h1]
  rw [if_pos h2]
theorem lm_popAt : LmD X rPopAt gPopAt := fun {ca H ds xs ds' y a vs us Q} h1 h2 h3 e k => by
  unfold gPopAt at e
  split at e
  · rename_i i
    split at e
    · rename_i hi
      split at e
      · rename_i z hz
        cases e
        obtain ⟨v, vr, rfl, d1, d2⟩ := h3
        cases (show vr = [] from d2)
        obtain ⟨v', e1, d'⟩ := h2.get hz
        have hlt : i.toNat < vs.length := (List.getElem?_eq_some_iff.mp e1).1
        exact ⟨a, vs, i, i.toNat, v', rfl, by rw [show v = .int i from d1], h1, by omega, by omega, seqIx hi.1 hlt, e1, k _ _ (fun H' p => DenD.mono p _ _ d') fun H' p => DenL.mono p _ _ (h2.eraseIdx _)⟩
      · cases e
    · cases e
  · cases e
def gClear : List D → List D → Option (D × List D) := fun _ xs => match xs with
  | [] => some (.non, [])
  | _ => none
theorem lm_clear : LmD X rClear gClear := fun {ca H ds xs ds' y a vs us Q} h1 h2 h3 e k => by
  unfold gClear at e
  split at e
  · cases e
    cases (show us = [] from h3)
    exact ⟨a, vs, rfl, rfl, h1, k _ _ (fun _ _ => rfl) fun _ _ => rfl⟩
  · cases e
end
end DL
set_option Elab.async false
set_option linter.all false
set_option maxRecDepth 100000
set_option maxHeartbeats 1900000
/-! CL: the clauses of a comprehension, one at a time, whatever stands inside. -/
namespace L2
open PyProof.Rows PySem PySem.Spec
/-- one turn of a clause, its inner code given -/
def turnOf (place : Pos) (tg : Expr) (ifs : List Expr) (it : Value) (env : Env) (inner : Sem Fin → Sem Fin) (more : Sem Fin) : Sem Fin := do
  standAt place
  match ← pyNext it with
  | none => pure (.done .next)
  | some got =>
    letOwnedTupleGo tg it got
    assign tg env got
    let mut fits := true
    for test in ifs do
      if fits then fits ← isTrue test env (eval test env)
    if fits then inner more else more
theorem dict_turn (kx vx tg iter : Expr) (ifs : List Expr) (scope : Scope) (pos : Pos) (it : Value) (D : Addr) (env : Env) :
    compTurn (.DictComp kx vx [⟨tg, iter, ifs, 0⟩] scope pos) 0 it (.ref D) env = turnOf iter.pos tg ifs it env (fun more => do
      (do
        let key ← eval kx env
        let val ← holding [key] (eval vx env)
        standAt ({ kx.pos with endLine := vx.pos.endLine, endCol := vx.pos.endCol })
        holding [key, val] (dictSet D key val))
      more) (again (.compLoop (.DictComp kx vx [⟨tg, iter, ifs, 0⟩] scope pos) 0 it (.ref D) env)) := rfl
/-- inner code, with what is run behind it: it runs from slots and heap to slots and heap -/
structure PN (X : Cx) (code : Sem Fin → Sem Fin) (t : St → Hp → (St → Hp → Prop) → Prop) : Prop where
  run : ∀ {pins : List (Addr × Obj)} {s : Shared} {σ : St} {H : Hp} {R : St → Hp → Prop} {more : Sem Fin} {Q : Fin → Shared → Prop}, Inv X pins σ H s → t σ H R →
    (∀ s' σ' H', Inv X pins σ' H' s' → R σ' H' → wpAny (model X.prog X.w) X.A more Q X.xe s') → wpAny (model X.prog X.w) X.A (code more) Q X.xe s
section
variable {B : Cx} {pins : List (Addr × Obj)} {s : Shared} {σ : St} {H : Hp} {fp : List Addr} {it : Addr} {tn : Nat → Heap → Prop} {J : It} {tg : Expr} {ifs : List Expr} {place : Pos} {inner : Sem Fin → Sem Fin} {code : Code} {g : TG} {tt : TT} {tin : St → Hp → (St → Hp → Prop) → Prop}
/-- one turn: it is over, or the inner code has run (or was passed by) and the iterator stands one further -/
theorem turn_run {i : Nat} {Z : Hp → Prop} {Nx : St → Hp → Prop} (quiet : B.xe = fun _ _ => False) (hcalm : B.calm = true) (T : Turn B.prog B.w B.K tg J fp it tn) (foot : ∀ b ∈ fp, FpOk B pins H b) (pg : PG B tg g) (pt : PTs B ifs tt) (pn : PN B inner tin) (inv : Inv B pins σ H s) (st : tn i s.heap)
    (go : (J.stop i H ∧ Z H) ∨ (J.go i H ∧ ∀ x H', J.yld i H x H' → g x σ H' fun σ2 H2 => tt σ2 H2 fun b H3 => if b = true then tin σ2 H3 Nx else Nx σ2 H3)) :
    wpAny (model B.prog B.w) B.A (turnOf place tg ifs (.ref it) B.env inner (again code))
      (fun fin s' => (fin = .done .next ∧ ∃ H', Inv B pins σ H' s' ∧ Z H') ∨ (fin = .again code ∧ ∃ σ' H', Inv B pins σ' H' s' ∧ tn (i + 1) s'.heap ∧ (∀ b ∈ fp, H' b = none) ∧ Nx σ' H')) (fun _ _ => False) s := by
  unfold turnOf
  apply wpAny_bind; apply wpAny_standAt; apply wpAny_bind
  rcases go with ⟨stop, z⟩ | ⟨goes, each⟩
  · apply wpAny_mono (T.done B rfl rfl rfl hcalm i pins s σ H _ inv foot st stop) _ (fun _ _ f => f)
    rintro r s1 ⟨rfl, inv1⟩
    exact wpAny_pure (.inl ⟨rfl, H, inv1, z⟩)
  · apply wpAny_mono (T.item B rfl rfl rfl hcalm i pins s σ H _ inv foot st goes) _ (fun _ _ f => f)
    rintro r s1 ⟨u, rfl, more⟩
    apply wpAny_bind
    apply wpAny_mono more _ (fun _ _ f => f)
    rintro _ s2 ⟨x, H2, inv2, rel, yld, st2, free2⟩
    have inv2' := inv2.pinned (fun b hb => ⟨free2 b hb, (foot b hb).2⟩) (T.obj _ _ st2)
    have off : ∀ {σ' : St} {H' : Hp} {s' : Shared}, Inv B (pins ++ pinsAt fp s2.heap) σ' H' s' → Nx σ' H' →
        (Fin.again code = .done .next ∧ ∃ H', Inv B pins σ H' s' ∧ Z H') ∨ (Fin.again code = .again code ∧ ∃ σ' H', Inv B pins σ' H' s' ∧ tn (i + 1) s'.heap ∧ (∀ b ∈ fp, H' b = none) ∧ Nx σ' H') := by
      intro σ' H' s' inv' nx
      have held : ∀ b ∈ fp, ∀ o, s2.heap.get? b = some o → s'.heap.get? b = some o ∧ H' b = none := by
        intro b mem o at_b
        have p := inv'.pin (b, o) (List.mem_append_right _ (List.mem_append_right _ (mem_pinsAt mem at_b)))
        exact ⟨p.1, p.2.1⟩
      refine .inr ⟨rfl, σ', H', inv'.unpinned, T.keep _ _ _ st2 fun b mem o at_b => (held b mem o at_b).1, ?_, nx⟩
      intro b mem
      obtain ⟨o, at_b, _⟩ := T.obj _ _ st2 b mem
      exact (held b mem o at_b).2
    have g1 := pg.run _ s2 σ H2 x u _ inv2' rel (each x H2 yld)
    rw [quiet] at g1
    apply wpAny_bind
    apply wpAny_mono g1 _ (fun _ _ f => f)
    rintro _ s3 ⟨σ3, H3, inv3, q3⟩
    have t1 := pt.run _ s3 σ3 H3 _ inv3 q3
    rw [quiet] at t1
    apply wpAny_bind
    apply wpAny_mono t1 _ (fun _ _ f => f)
    rintro (_ | _) s4 ⟨H4, inv4, q4⟩
    · simp only [Bool.false_eq_true, if_false] at q4
      exact wpAny_pure (off inv4 q4)
    · simp only [if_true] at q4
      have last := pn.run (more := again code) inv4 q4 (Q := fun fin s' => (fin = .done .next ∧ ∃ H', Inv B pins σ H' s' ∧ Z H') ∨ (fin = .again code ∧ ∃ σ' H', Inv B pins σ' H' s' ∧ tn (i + 1) s'.heap ∧ (∀ b ∈ fp, H' b = none) ∧ Nx σ' H')) (fun s5 σ5 H5 inv5 q5 => wpAny_pure (off inv5 q5))
      rw [quiet] at last
      exact last
/-- the slots σ know at least what τ knows -/
def Back (τ σ : St) : Prop := τ.length = σ.length ∧ ∀ (j : Nat) v, τ[j]? = some (some v) → σ[j]? = some (some v)
/-- the loop of a clause: W i m is what holds before turn i, m falls -/
theorem clause_loop {τ : St} {W : Nat → Nat → Hp → Prop} {Z : Hp → Prop} (quiet : B.xe = fun _ _ => False) (hcalm : B.calm = true) (hq : code.quiet = true) (hund : B.A.under code = B.A)
    (hden : (model B.prog B.w).den code = (turnOf place tg ifs (.ref it) B.env inner (again code)).onRaise fun x => do noteFrame x B.env; theTreesLotGoes x)
    (T : Turn B.prog B.w B.K tg J fp it tn) (foot : ∀ {σ' : St} {H' : Hp} {s' : Shared}, Inv B pins σ' H' s' → (∀ b ∈ fp, H' b = none) → ∀ b ∈ fp, FpOk B pins H' b) (pg : PG B tg g) (pt : PTs B ifs tt) (pn : PN B inner tin)
    (turn : ∀ i m H, W i m H → (J.stop i H ∧ Z H) ∨ (J.go i H ∧ ∃ Nx : Hp → Prop, (∀ H', Nx H' → ∃ m', m' < m ∧ W (i + 1) m' H') ∧ ∀ x H', J.yld i H x H' →
      g x τ H' fun σ2 H2 => tt σ2 H2 fun b H3 => if b = true then tin σ2 H3 (fun σ3 H4 => Back τ σ3 ∧ Nx H4) else Back τ σ2 ∧ Nx H3))
    (inv : Inv B pins τ H s) (st : tn 0 s.heap) (free : ∀ b ∈ fp, H b = none) (w0 : ∃ m, W 0 m H) :
    codeAny (model B.prog B.w) B.A code (fun r s' => r = .ok .next ∧ ∃ H', Inv B pins τ H' s' ∧ Z H') s := by
  obtain ⟨m0, w0⟩ := w0
  refine codeAny_loop hq (fun m s' => ∃ i H', Inv B pins τ H' s' ∧ tn i s'.heap ∧ (∀ b ∈ fp, H' b = none) ∧ W i m H') ?_ m0 ⟨0, H, inv, st, free, w0⟩
  rintro m s1 ⟨i, H1, inv1, st1, free1, w1⟩
  rw [hund, hden]
  apply wpAny_noted
  rcases turn i m H1 w1 with ⟨stop, z⟩ | ⟨goes, Nx, next, each⟩
  · apply wpAny_mono (turn_run (Nx := fun _ _ => False) quiet hcalm T (foot inv1 free1) pg pt pn inv1 st1 (.inl ⟨stop, z⟩)) _ (fun _ _ f => f.elim)
    rintro fin s2 (⟨rfl, H2, inv2, z2⟩ | ⟨_, _, _, _, _, _, f⟩)
    · exact ⟨rfl, H2, inv2, z2⟩
    · exact f.elim
  · apply wpAny_mono (turn_run (Z := fun _ => False) (Nx := fun σ' H' => Back τ σ' ∧ Nx H') quiet hcalm T (foot inv1 free1) pg pt pn inv1 st1 (.inr ⟨goes, each⟩)) _ (fun _ _ f => f.elim)
    rintro fin s2 (⟨_, _, _, f⟩ | ⟨rfl, σ2, H2, inv2, st2, free2, back, nx⟩)
    · exact f.elim
    · obtain ⟨m', less, w2⟩ := next H2 nx
      exact ⟨rfl, m', less, i + 1, H2, inv2.weak back.1 back.2, st2, free2, w2⟩
end
section
variable {prog : Program} {w : World} {A : Around} {R : (Result → Shared → Prop)} {s : Shared}
/-- a clause's start: the loop, from the iterator that came or from its own iterator -/
theorem start_run {e : Expr} {idx : Nat} {it acc : Value} {env : Env} {c : Comprehension} (hden : (model prog w).den (.compStart e idx it acc env) = (compStart e idx it acc env).onRaise (fun x => do noteFrame x env; standAt theWindowsPlace))
    (hund : A.under (.compStart e idx it acc env) = A) (hq : (Code.compLoop e idx it acc env).quiet = true) (hq' : ∀ it', (Code.compLoop e idx it' acc env).quiet = true) (hc : (clausesOf e)[idx]? = some c) (hsync : (c.is_async != 0) = false) (as_is : codeAny (model prog w) A (.compLoop e idx it acc env) R s)
    (anew : wpAny (model prog w) A (pyIter it) (fun it' s' => codeAny (model prog w) A (.compLoop e idx it' acc env) R s') (fun _ _ => False) s) : codeAny (model prog w) A (.compStart e idx it acc env) R s := by
  apply codeAny_of_tree
  rw [hund, hden]
  apply wpAny_notedAt
  unfold compStart
  simp only [hc, Option.elim, hsync, Bool.false_eq_true, if_false]
  show wpAny _ _ (bind ask _) _ _ s
  apply wpAny_bind; apply wpAny_askSetting; apply wpAny_ite
  split
  · first
      | exact wpAny_pure ⟨hq, as_is⟩
      | exact wpAny_bind (wpAny_pure (wpAny_pure ⟨hq, as_is⟩))
  · apply wpAny_bind; apply wpAny_rule
    apply wpAny_bind; apply wpAny_standAt
    apply wpAny_bind
    apply wpAny_mono anew _ (fun _ _ f => f.elim)
    exact fun it' s' run => wpAny_pure ⟨hq' it', run⟩
end
/-- a further clause as inner code -/
def tNest (wi : TI) (g : TG) (tt : TT) (tin : St → Hp → (St → Hp → Prop) → Prop) (vs : List Nat) : St → Hp → (St → Hp → Prop) → Prop := fun σ H R => wi σ H fun J H1 => ∃ W : Nat → Nat → Hp → Prop, (∃ m, W 0 m H1) ∧
  ∀ i m H, W i m H → (J.stop i H ∧ R (wipe σ vs) H) ∨ (J.go i H ∧ ∃ Nx : Hp → Prop, (∀ H', Nx H' → ∃ m', m' < m ∧ W (i + 1) m' H') ∧ ∀ x H', J.yld i H x H' →
    g x (wipe σ vs) H' fun σ2 H2 => tt σ2 H2 fun b H3 => if b = true then tin σ2 H3 (fun σ3 H4 => Back (wipe σ vs) σ3 ∧ Nx H4) else Back (wipe σ vs) σ2 ∧ Nx H3)
theorem pn_clause {B : Cx} {tg iter : Expr} {ifs : List Expr} {place : Pos} {inner : Sem Fin → Sem Fin} {e : Expr} {idx : Nat} {acc : Value} {c : Comprehension} {wi : TI} {g : TG} {tt : TT} {tin : St → Hp → (St → Hp → Prop) → Prop} (vs : List Nat)
    (quiet : B.xe = fun _ _ => False) (hcalm : B.calm = true) (hs : ∀ x, foldedSetIterable iter B.env x = pure x)
    (pi : PI B tg iter wi) (pg : PG B tg g) (pt : PTs B ifs tt) (pn : PN B inner tin)
    (hden : ∀ it, (model B.prog B.w).den (.compStart e idx it acc B.env) = (compStart e idx it acc B.env).onRaise (fun x => do noteFrame x B.env; standAt theWindowsPlace))
    (hloop : ∀ it, (model B.prog B.w).den (.compLoop e idx it acc B.env) = (turnOf place tg ifs it B.env inner (again (.compLoop e idx it acc B.env))).onRaise fun x => do noteFrame x B.env; theTreesLotGoes x)
    (hu1 : ∀ it, B.A.under (.compStart e idx it acc B.env) = B.A) (hu2 : ∀ it, B.A.under (.compLoop e idx it acc B.env) = B.A) (hq : ∀ it, (Code.compLoop e idx it acc B.env).quiet = true) (hc : (clausesOf e)[idx]? = some c) (hsync : (c.is_async != 0) = false) :
    PN B (fun more => do
      let xs ← eval iter B.env
      standAt iter.pos
      let xs ← foldedSetIterable iter B.env xs
      let _ ← runOwn (.compStart e idx (← holding [xs] (pyIter xs)) acc B.env) B.env
      more) (tNest wi g tt tin vs) := by
  constructor
  intro pins s σ H R more Q inv left goOn
  have first := pi.run pins s σ H _ inv left
  rw [quiet] at first goOn ⊢
  apply wpAny_bind
  apply wpAny_mono first _ (fun _ _ f => f)
  intro xs s1 first1
  apply wpAny_bind; apply wpAny_standAt
  apply wpAny_bind; apply wpAny_of_eq (hs xs)
  apply wpAny_bind; apply wpAny_holding
  apply wpAny_mono first1 _ (fun _ _ f => f)
  rintro _ s2 ⟨it, fp, tn, J, H2, rfl, inv2, T, st2, foot2, W, w0, turn⟩
  have loop := clause_loop (s := s2) (τ := wipe σ vs) (Z := R (wipe σ vs)) (code := .compLoop e idx (.ref it) acc B.env) quiet hcalm (hq _) (hu2 _) (hloop _) T (fun _ free b mem => ⟨free b mem, (foot2 b mem).2⟩) pg pt pn turn
    (inv2.weak (wipe_length _ _) (fun j v at_j => (wipe_some at_j).1)) st2 (fun b mem => (foot2 b mem).1) w0
  refine (wpAny_bind (wpAny_runOwn ?_))
  rw [Around.mark_none]
  apply codeAny_mono (start_run (hden _) (hu1 _) (hq _) hq hc hsync loop (T.self B.A 0 _ _ _ st2 loop))
  rintro r s3 ⟨rfl, H3, inv3, z⟩
  exact goOn s3 _ H3 inv3 z
end L2
set_option Elab.async false
set_option linter.all false
set_option maxRecDepth 100000
set_option maxHeartbeats 1900000
/-! CB: into a comprehension's block and out of it; the loop is given. -/
namespace L2
open PyProof.Rows PySem PySem.Spec
section
variable {X : Cx} {pins : List (Addr × Obj)} {s : Shared} {σ : St} {H : Hp}
/-- the footprint of an iterator made outside, seen from the block -/
theorem blk_foot {s3 : Shared} {H3 : Hp} {scope : Scope} {ce : Env} {fp : List Addr} {σ' : St} {H' : Hp} {s' : Shared} (inv : Inv (X.blk s3 H3 scope ce fp) [] σ' H' s') (free : ∀ b ∈ fp, H' b = none) :
    ∀ b ∈ fp, FpOk (X.blk s3 H3 scope ce fp) [] H' b := by
  intro b mem
  have out := inv.ok.exf b mem
  refine ⟨free b mem, out.1, inv.ok.exfs b mem, .inl mem, fun x c at_x => out.2 x c at_x, ?_⟩
  intro p none_in
  exact absurd (show p ∈ ([] : List (Addr × Obj)) ++ [] from none_in) (by simp)
/-- out of the block: the def's own state again; the block's names stand apart -/
theorem blk_leave {s3 s' : Shared} {H3 H' : Hp} {scope : Scope} {cl : List (Str × Addr)} {fp : List Addr} {τ : St} (at3 : Inv X pins σ H3 s3) (foot : ∀ b ∈ fp, FpOk X pins H3 b)
    (inv : Inv (X.blk s3 H3 scope (compEnvC scope cl s3.heap.objs.size X.env) fp) [] τ H' s') :
    Inv X pins σ H' s' ∧ (∃ m, s'.heap.Ns s3.heap.objs.size m) ∧ FpOk X pins H' s3.heap.objs.size := by
  have gone : H' s3.heap.objs.size = none := inv.free
  have names : ∃ m, s'.heap.Ns s3.heap.objs.size m := by
    obtain ⟨m, ns, _⟩ := inv.loc
    exact ⟨m, ns⟩
  have apart : ∀ b ∈ fp, (b ∈ X.ex ∨ X.s_0.heap.objs.size ≤ b) ∧ b ≠ X.env.locals ∧ (∀ x c, X.env.cells.lookup x = some c → c ≠ b) ∧ ∀ p ∈ X.pn ++ pins, p.1 ≠ b := by
    intro b mem
    obtain ⟨_, a1, _, a3, a4, a5⟩ := foot b mem
    exact ⟨a3, a1, a4, a5⟩
  exact ⟨at3.call' inv.os inv.base inv.hok inv.bare apart, names, at3.fpOk (Nat.le_refl _) gone⟩
/-- a list's, a set's or a dict's comprehension -/
def IsComp : Expr → Prop
  | .ListComp .. => True
  | .SetComp .. => True
  | .DictComp .. => True
  | _ => False
/-- how the model reads a comprehension's codes -/
theorem den_start (P : Program) (w : World) {e : Expr} (k : IsComp e) (idx : Nat) (it acc : Value) (env : Env) :
    (model P w).den (.compStart e idx it acc env) = (compStart e idx it acc env).onRaise (fun x => do noteFrame x env; standAt theWindowsPlace) := by
  cases e <;> first | rfl | exact k.elim
theorem den_loop (P : Program) (w : World) {e : Expr} (k : IsComp e) (idx : Nat) (it acc : Value) (env : Env) :
    (model P w).den (.compLoop e idx it acc env) = (compTurn e idx it acc env).onRaise (fun x => do noteFrame x env; theTreesLotGoes x) := by
  cases e <;> first | rfl | exact k.elim
theorem under_start (A : Around) {e : Expr} (k : IsComp e) (idx : Nat) (it acc : Value) (env : Env) : A.under (.compStart e idx it acc env) = A := by
  cases e <;> first | rfl | exact k.elim
theorem under_loop (A : Around) {e : Expr} (k : IsComp e) (idx : Nat) (it acc : Value) (env : Env) : A.under (.compLoop e idx it acc env) = A := by
  cases e <;> first | rfl | exact k.elim
theorem quiet_loop {e : Expr} (k : IsComp e) (idx : Nat) (it acc : Value) (env : Env) : (Code.compLoop e idx it acc env).quiet = true := by
  cases e <;> first | rfl | exact k.elim
/-- a comprehension, its loop given: u is what the new thing is at first -/
theorem comp_run {e tg iter : Expr} {ifs : List Expr} {rest : List Comprehension} {scope : Scope} {own : List (Str × Nat)} {place : Pos} {wi : TI} {u : Addr → HO} {newAcc : Sem Value} {use : Option (Value → Sem Unit)} {Qf : Value → Shared → Prop} {LP : It → Addr → Hp → Prop} {Z : Addr → Hp → Prop}
    (kind : IsComp e) (hcls : clausesOf e = ⟨tg, iter, ifs, 0⟩ :: rest) (hcalm : X.calm = true) (hN : X.N.Nodup) (ok : BlkOk X.N X.env.scope scope own) (fold : ∀ x, foldedSetIterable iter X.env x = pure x) (pi : PI X tg iter wi)
    (lay : ∀ {s2 : Shared} {H2 : Hp} {E Q : Value → Shared → Prop}, Inv X pins σ H2 s2 → (∀ s3, H2 s2.heap.objs.size = none → Inv X pins σ (upd H2 s2.heap.objs.size (u s2.heap.objs.size)) s3 → s3.heap.objs.size = s2.heap.objs.size + 1 → (∀ b o, s2.heap.get? b = some o → s3.heap.get? b = some o) → Q (.ref s2.heap.objs.size) s3) → wpAny (model X.prog X.w) X.A newAcc Q E s2)
    (loop : ∀ {s3 s4 : Shared} {H3 : Hp} {cl : List (Str × Addr)} {C it L : Addr} {fp : List Addr} {tn : Nat → Heap → Prop} {J : It}, Turn X.prog X.w X.K tg J fp it tn → Inv (X.blk s3 H3 scope (compEnvC scope cl C X.env) fp) [] (wipe σ (own.map (·.2))) H3 s4 → tn 0 s4.heap → (∀ b ∈ fp, H3 b = none) → LP J L H3 →
      codeAny (model X.prog X.w) X.A (.compLoop e 0 (.ref it) (.ref L) (compEnvC scope cl C X.env)) (fun r s' => r = .ok .next ∧ ∃ H', Inv (X.blk s3 H3 scope (compEnvC scope cl C X.env) fp) [] (wipe σ (own.map (·.2))) H' s' ∧ Z L H') s4)
    (leave : ∀ {L C : Addr} {s' : Shared} {H' : Hp}, Inv X pins σ H' s' → Z L H' → (∃ m, s'.heap.Ns C m) → FpOk X pins H' C → compPost (model X.prog X.w) X.A X.xe use Qf (.ref L) C (.ok .next) s')
    (inv : Inv X pins σ H s) (begin : wi σ H fun J H1 => ∀ L, H1 L = none → LP J L (upd H1 L (u L))) :
    wpAny (model X.prog X.w) X.A (comprehension e scope X.env place newAcc false (eval iter X.env) use) Qf X.xe s := by
  have caught : ∀ y ∈ scope.names, y.2 = .free → ∃ c, X.env.cells.lookup y.1 = some c := by
    intro y mem is_free
    exact (ok.free y mem is_free).elim (fun k => inv.ok.has _ (.inl k)) (fun k => inv.ok.has _ (.inr k))
  apply wpAny_comprehension_free (use := use) hcls fold (closure_ok caught) ok.kind (fun y mem is_loc => (ok.uniq y mem).trans (congrArg some is_loc))
  apply wpAny_mono (pi.run pins s σ H _ inv begin) _ (fun _ _ f => f)
  intro xs s1 first
  apply wpAny_mono first _ (fun _ _ f => f)
  rintro _ s2 ⟨it, fp, tn, J, H2, rfl, inv2, T, st2, foot2, want⟩
  apply lay inv2
  intro s3 free3 inv3 size3 keep3
  have low : ∀ b ∈ fp, b < s2.heap.objs.size := by
    intro b mem
    obtain ⟨o, at_b, _⟩ := T.obj _ _ st2 b mem
    exact Heap.lt_size at_b
  have none3 : ∀ b ∈ fp, upd H2 s2.heap.objs.size (u s2.heap.objs.size) b = none := by
    intro b mem
    rw [upd_ne (Nat.ne_of_lt (low b mem))]
    exact (foot2 b mem).1
  have foot3 : ∀ b ∈ fp, FpOk X pins (upd H2 s2.heap.objs.size (u s2.heap.objs.size)) b := fun b mem => ⟨none3 b mem, (foot2 b mem).2⟩
  have inside := block_start inv3 ok hN (fun b mem => ⟨foot3 b mem, by rw [size3]; exact Nat.lt_succ_of_lt (low b mem)⟩)
  apply newEnv_comp
  have st3 : tn 0 s3.heap := T.keep _ _ _ st2 fun b _ o at_b => keep3 b o at_b
  have st4 : tn 0 (pushCells (s3.heap.push { cls := .type "dict", data := .dict #[] }) scope.names) := T.keep _ _ _ st3 fun b _ o at_b => pushCells_keeps _ _ _ _ (Heap.get?_push_of_some _ at_b)
  have all := loop (s4 := { s3 with heap := pushCells (s3.heap.push { cls := .type "dict", data := .dict #[] }) scope.names }) T inside st4 none3 (want _ free3)
  have ends := codeAny_mono (R' := compPost (model X.prog X.w) X.A X.xe use Qf (.ref s2.heap.objs.size) s3.heap.objs.size) all (by
    rintro r s5 ⟨rfl, H5, inv5, z⟩
    obtain ⟨back, names, apart⟩ := blk_leave inv3 foot3 inv5
    exact leave back z names apart)
  exact start_run (den_start _ _ kind _ _ _ _) (under_start _ kind _ _ _ _) (quiet_loop kind _ _ _ _) (fun _ => quiet_loop kind _ _ _ _) (show (clausesOf e)[0]? = some ⟨tg, iter, ifs, 0⟩ by rw [hcls]; rfl) rfl ends (T.self X.A 0 _ _ _ st4 ends)
end
end L2
set_option Elab.async false
set_option linter.all false
set_option maxRecDepth 100000
set_option maxHeartbeats 1900000
/-! CC: a comprehension as a value, or stored at once; its inner code given. -/
namespace L2
open PyProof.Rows PySem PySem.Spec
section
variable {X : Cx} {pins : List (Addr × Obj)} {σ : St} {s' : Shared} {H' : Hp} {L C : Addr}
/-- the block is left, the new thing is the value -/
theorem leave_value {Q : VK} (inv : Inv X pins σ H' s') (q : Q (.ref L) H') (names : ∃ m, s'.heap.Ns C m) (apart : FpOk X pins H' C) :
    compPost (model X.prog X.w) X.A X.xe none (EP X pins σ Q) (.ref L) C (.ok .next) s' := by
  obtain ⟨m, ns⟩ := names
  obtain ⟨a0, a1, _, a3, a4, a5⟩ := apart
  refine ⟨m, ns, ?_⟩
  intro h'' same
  have inv2 := inv.turned (t' := s'.toks) (fun b o ne at_b => (same.2 b ne).trans at_b) a0 a1 a3 a4 a5
  exact ⟨V.ref L, H', inv2, rfl, q⟩
/-- the block is left, the new thing goes to a name -/
theorem leave_store {i : Nat} {y : Str} {py : Pos} {D : Ends} (hN : X.N.Nodup) (hy : X.N[i]? = some y) (hyl : X.env.scope.names.lookup y = some .local) (inv : Inv X pins σ H' s') (q : D.nx (σ.set i (some (.ref L))) H') (names : ∃ m, s'.heap.Ns C m) (apart : FpOk X pins H' C) :
    compPost (model X.prog X.w) X.A X.xe (some (assign (.Name y py) X.env)) (fun _ s'' => SP X pins D .next s'') (.ref L) C (.ok .next) s' := by
  obtain ⟨m, ns⟩ := names
  obtain ⟨a0, a1, _, a3, a4, a5⟩ := apart
  apply wpAny_assign_Name
  apply store_ok2 (v := V.ref L) inv hN hy (.inl hyl) rfl _ (.inr hyl)
  rintro s2 inv2 ⟨a, same, place⟩
  have other : C ≠ a := by
    intro e
    rcases place with z | z
    · exact a1 (e.trans z)
    · exact a4 y a z e.symm
  refine ⟨m, ns.sameBut same other, ?_⟩
  intro h3 same3
  exact ⟨_, H', inv2.turned (t' := s2.toks) (fun b o ne at_b => (same3.2 b ne).trans at_b) a0 a1 a3 a4 a5, q⟩
end
/-- inner code's meaning, the hidden thing given -/
abbrev TN := Addr → St → Hp → (St → Hp → Prop) → Prop
/-- what a clause's loop asks -/
def LoopT (τ : St) (g : TG) (tt : TT) (tin : St → Hp → (St → Hp → Prop) → Prop) (J : It) (H1 : Hp) (Z : Hp → Prop) : Prop :=
  ∃ W : Nat → Nat → Hp → Prop, (∃ m, W 0 m H1) ∧ ∀ i m H, W i m H → (J.stop i H ∧ Z H) ∨ (J.go i H ∧ ∃ Nx : Hp → Prop, (∀ H', Nx H' → ∃ m', m' < m ∧ W (i + 1) m' H') ∧ ∀ x H', J.yld i H x H' →
    g x τ H' fun σ2 H2 => tt σ2 H2 fun b H3 => if b = true then tin σ2 H3 (fun σ3 H4 => Back τ σ3 ∧ Nx H4) else Back τ σ2 ∧ Nx H3)
/-- a comprehension: u is the new thing, empty -/
def tComp (u : Addr → HO) (wi : TI) (g : TG) (tt : TT) (tin : TN) (vs : List Nat) : TE := fun σ H Q => wi σ H fun J H1 => ∀ L, H1 L = none → LoopT (wipe σ vs) g tt (tin L) J (upd H1 L (u L)) fun H2 => Q (.ref L) H2
/-- a new empty thing -/
def Lays (X : Cx) (newAcc : Sem Value) (u : Addr → HO) : Prop := ∀ {pins : List (Addr × Obj)} {σ : St} {s2 : Shared} {H2 : Hp} {E Q : Value → Shared → Prop}, Inv X pins σ H2 s2 →
  (∀ s3, H2 s2.heap.objs.size = none → Inv X pins σ (upd H2 s2.heap.objs.size (u s2.heap.objs.size)) s3 → s3.heap.objs.size = s2.heap.objs.size + 1 → (∀ b o, s2.heap.get? b = some o → s3.heap.get? b = some o) → Q (.ref s2.heap.objs.size) s3) → wpAny (model X.prog X.w) X.A newAcc Q E s2
theorem lays_dict {X : Cx} {u : Addr → HO} (first : ∀ (H : Hp) (h : Heap), sysModules < h.objs.size → ObjOk X.prog X.w H (h.push { cls := .type "dict", data := .dict #[] }) h.objs.size (u h.objs.size)) : Lays X newDict u := by
  intro pins σ s2 H2 E Q inv next
  have none2 : H2 s2.heap.objs.size = none := inv.hok.fresh (Nat.le_refl _)
  have grown := next _ none2 (inv.laid (t' := s2.toks) (fun b o at_b => Heap.get?_push_of_some _ at_b) (Nat.le_refl _) (first _ _ inv.big)) (Heap.size_push ..) fun b o at_b => Heap.get?_push_of_some _ at_b
  exact wpAny_newObj_type grown
theorem lays_list {X : Cx} : Lays X (newList []) (fun _ => .lst []) := by
  intro pins σ s2 H2 E Q inv next
  have none2 : H2 s2.heap.objs.size = none := inv.hok.fresh (Nat.le_refl _)
  have fresh : ObjOk X.prog X.w (upd H2 s2.heap.objs.size (.lst [])) (s2.heap.push { cls := .type "list", data := .seq #[] }) s2.heap.objs.size (.lst []) :=
    ⟨Nat.zero_le _, [], 0, .nil, Heap.get?_push_size _ rfl⟩
  have grown := next _ none2 (inv.laid (t' := s2.toks) (fun b o at_b => Heap.get?_push_of_some _ at_b) (Nat.le_refl _) fresh) (Heap.size_push ..) fun b o at_b => Heap.get?_push_of_some _ at_b
  exact wpAny_newList grown
section
variable {X : Cx} {e tg iter : Expr} {ifs : List Expr} {rest : List Comprehension} {scope : Scope} {own : List (Str × Nat)} {place : Pos} {wi : TI} {u : Addr → HO} {newAcc : Sem Value} {g : TG} {tt : TT} {tin : TN} {inner : Env → Addr → Sem Fin → Sem Fin}
theorem comp_all {pins : List (Addr × Obj)} {s : Shared} {σ : St} {H : Hp} {use : Option (Value → Sem Unit)} {Qf : Value → Shared → Prop} {Z : Addr → Hp → Prop}
    (kind : IsComp e) (hcls : clausesOf e = ⟨tg, iter, ifs, 0⟩ :: rest) (hcalm : X.calm = true) (hN : X.N.Nodup) (ok : BlkOk X.N X.env.scope scope own) (fold : ∀ x, foldedSetIterable iter X.env x = pure x) (pi : PI X tg iter wi) (lay : Lays X newAcc u)
    (hloop : ∀ it L env, compTurn e 0 it (.ref L) env = turnOf iter.pos tg ifs it env (inner env L) (again (.compLoop e 0 it (.ref L) env)))
    (pg : ∀ (s : Shared) (H : Hp) (C : Addr) (cl : List (Str × Addr)) (fp : List Addr), PG (X.blk s H scope (compEnvC scope cl C X.env) fp) tg g)
    (pt : ∀ (s : Shared) (H : Hp) (C : Addr) (cl : List (Str × Addr)) (fp : List Addr), PTs (X.blk s H scope (compEnvC scope cl C X.env) fp) ifs tt)
    (pn : ∀ (s : Shared) (H : Hp) (C : Addr) (cl : List (Str × Addr)) (fp : List Addr) (L : Addr), PN (X.blk s H scope (compEnvC scope cl C X.env) fp) (inner (compEnvC scope cl C X.env) L) (tin L))
    (leave : ∀ {L C : Addr} {s' : Shared} {H' : Hp}, Inv X pins σ H' s' → Z L H' → (∃ m, s'.heap.Ns C m) → FpOk X pins H' C → compPost (model X.prog X.w) X.A X.xe use Qf (.ref L) C (.ok .next) s')
    (inv : Inv X pins σ H s) (begin : wi σ H fun J H1 => ∀ L, H1 L = none → LoopT (wipe σ (own.map (·.2))) g tt (tin L) J (upd H1 L (u L)) (Z L)) :
    wpAny (model X.prog X.w) X.A (comprehension e scope X.env place newAcc false (eval iter X.env) use) Qf X.xe s := by
  refine comp_run (Z := Z) (LP := fun J L H3 => LoopT (wipe σ (own.map (·.2))) g tt (tin L) J H3 (Z L)) kind hcls hcalm hN ok fold pi lay ?_ leave inv begin
  intro s3 s4 H3 cl C it L fp tn J T inside st free ⟨W, w0, turn⟩
  refine clause_loop (place := iter.pos) (inner := inner (compEnvC scope cl C X.env) L) (B := X.blk s3 H3 scope (compEnvC scope cl C X.env) fp) (code := .compLoop e 0 (.ref it) (.ref L) (compEnvC scope cl C X.env)) rfl hcalm (quiet_loop kind _ _ _ _) (under_loop _ kind _ _ _ _) ?_ T (fun inv' fr => blk_foot inv' fr) (pg _ _ _ _ _) (pt _ _ _ _ _) (pn _ _ _ _ _ _) turn inside st free w0
  exact (den_loop X.prog X.w kind 0 (.ref it) (.ref L) (compEnvC scope cl C X.env)).trans (by rw [hloop])
theorem pe_comp (arm : eval e X.env = comprehension e scope X.env place newAcc false (eval iter X.env) none)
    (kind : IsComp e) (hcls : clausesOf e = ⟨tg, iter, ifs, 0⟩ :: rest) (hcalm : X.calm = true) (hN : X.N.Nodup) (ok : BlkOk X.N X.env.scope scope own) (fold : ∀ x, foldedSetIterable iter X.env x = pure x) (pi : PI X tg iter wi) (lay : Lays X newAcc u)
    (hloop : ∀ it L env, compTurn e 0 it (.ref L) env = turnOf iter.pos tg ifs it env (inner env L) (again (.compLoop e 0 it (.ref L) env)))
    (pg : ∀ (s : Shared) (H : Hp) (C : Addr) (cl : List (Str × Addr)) (fp : List Addr), PG (X.blk s H scope (compEnvC scope cl C X.env) fp) tg g)
    (pt : ∀ (s : Shared) (H : Hp) (C : Addr) (cl : List (Str × Addr)) (fp : List Addr), PTs (X.blk s H scope (compEnvC scope cl C X.env) fp) ifs tt)
    (pn : ∀ (s : Shared) (H : Hp) (C : Addr) (cl : List (Str × Addr)) (fp : List Addr) (L : Addr), PN (X.blk s H scope (compEnvC scope cl C X.env) fp) (inner (compEnvC scope cl C X.env) L) (tin L)) :
    PE X e (tComp u wi g tt tin (own.map (·.2))) := by
  constructor
  intro pins s σ H Q inv begin
  rw [arm]
  exact comp_all (Z := fun L H2 => Q (.ref L) H2) kind hcls hcalm hN ok fold pi lay hloop pg pt pn (fun i q n a => leave_value i q n a) inv begin
theorem ps_comp {i : Nat} {y : Str} {py spos : Pos} (arm : ∀ k, evalThenUse e X.env k = (do let _ ← comprehension e scope X.env place newAcc false (eval iter X.env) (some k)))
    (kind : IsComp e) (hcls : clausesOf e = ⟨tg, iter, ifs, 0⟩ :: rest) (hcalm : X.calm = true) (hN : X.N.Nodup) (hy : X.N[i]? = some y) (hyl : X.env.scope.names.lookup y = some .local) (hsw : swapsWith e (some (.Name y py)) spos.line X.env = pure true) (ok : BlkOk X.N X.env.scope scope own) (fold : ∀ x, foldedSetIterable iter X.env x = pure x) (pi : PI X tg iter wi) (lay : Lays X newAcc u)
    (hloop : ∀ it L env, compTurn e 0 it (.ref L) env = turnOf iter.pos tg ifs it env (inner env L) (again (.compLoop e 0 it (.ref L) env)))
    (pg : ∀ (s : Shared) (H : Hp) (C : Addr) (cl : List (Str × Addr)) (fp : List Addr), PG (X.blk s H scope (compEnvC scope cl C X.env) fp) tg g)
    (pt : ∀ (s : Shared) (H : Hp) (C : Addr) (cl : List (Str × Addr)) (fp : List Addr), PTs (X.blk s H scope (compEnvC scope cl C X.env) fp) ifs tt)
    (pn : ∀ (s : Shared) (H : Hp) (C : Addr) (cl : List (Str × Addr)) (fp : List Addr) (L : Addr), PN (X.blk s H scope (compEnvC scope cl C X.env) fp) (inner (compEnvC scope cl C X.env) L) (tin L)) :
    PS X (.Assign [.Name y py] e spos) (tAsg (tComp u wi g tt tin (own.map (·.2))) (gName i)) := by
  constructor
  intro pins s σ H D inv begin
  rw [exec_Assign_Name_used _ _ _ _ hsw, arm]
  apply wpAny_bind; apply wpAny_standAt; apply wpAny_bind; apply wpAny_bind
  apply wpAny_mono (comp_all (Z := fun L H2 => D.nx (σ.set i (some (.ref L))) H2) (Qf := fun _ s'' => SP X pins D .next s'') (use := some (assign (.Name y py) X.env)) kind hcls hcalm hN ok fold pi lay hloop pg pt pn (fun i q n a => leave_store hN hy hyl i q n a) inv begin) _ (fun _ _ f => f)
  intro _ s2 done
  exact wpAny_pure (wpAny_pure done)
end
end L2
set_option Elab.async false
set_option linter.all false
set_option maxRecDepth 100000
set_option maxHeartbeats 1900000
/-! CN: comprehensions over data: inner code by what it hands to the hidden thing. -/
namespace DL
open L2 PyProof.Rows PySem PySem.Spec
/-- as Stp, but the hidden thing at L may be written -/
structure Gst (L : Addr) (ca : Ca) (H : Hp) (ca' : Ca) (H' : Hp) : Prop extends Mn ca H ca' H' where
  same : ca'.g = ca.g
  hold : ∀ a, a ≠ L → ca.g a → H' a = H a
theorem Stp.gst {L : Addr} {ca ca' : Ca} {H H' : Hp} (p : Stp ca H ca' H') : Gst L ca H ca' H' := ⟨p.toMn, p.gEq, fun a _ ga => p.gKp a ga⟩
theorem Gst.trans {L : Addr} {ca ca1 ca2 : Ca} {H H1 H2 : Hp} (p : Gst L ca H ca1 H1) (q : Gst L ca1 H1 ca2 H2) : Gst L ca H ca2 H2 := by
  refine ⟨p.toMn.trans q.toMn, q.same.trans p.same, ?_⟩
  intro a ne ga
  rw [q.hold a ne (by rw [p.same]; exact ga), p.hold a ne ga]
theorem Gst.refl (L : Addr) (ca : Ca) (H : Hp) : Gst L ca H ca H := (Stp.refl ca H).gst
/-- what the hidden thing holds: `holds` what was handed so far, `fits` what may be handed in all -/
structure Acc (K : PySem.W.Frag) (mg : Str → Option Value) (α : Type) where
  holds : Ca → Hp → Addr → List α → Prop
  fits : List α → Prop
  keep : ∀ {ca H ca' H' L ys}, ca.g L → Stp ca H ca' H' → holds ca H L ys → holds ca' H' L ys
  less : ∀ {xs ys}, fits (xs ++ ys) → fits xs
section
variable {K : PySem.W.Frag} {mg : Str → Option Value} {α : Type}
/-- inner code hands zs to the hidden thing at L; it may forget the slots vs -/
def EvN (Ac : Acc K mg α) (vs : List Nat) (mi : Env → M (List α)) : TN := fun L σ H R =>
  ∃ env ca cc ys zs c1, EnvOk K mg ca H env σ ∧ CsOk K mg ca H cc ∧ ca.g L ∧ Ac.holds ca H L ys ∧ mi env cc = .ok zs c1 ∧ Ac.fits (ys ++ zs) ∧
    ∀ σ' H' ca', Gst L ca H ca' H' → CsOk K mg ca' H' c1 → Ac.holds ca' H' L (ys ++ zs) → But vs σ σ' → R σ' H'
/-- the turns of a clause -/
def clL (G : Tg) (t : Env → M Bool) (m : Env → M (List α)) (env : Env) : List D → M (List α)
  | [], cc => .ok [] cc
  | x :: xs, cc => match G (.d x) env cc with
    | none => .stuck
    | some env' => match t env' cc with
      | .ok true c1 => match m env' c1 with
        | .ok ys c2 => match clL G t m env xs c2 with
          | .ok zs c3 => .ok (ys ++ zs) c3
          | _ => .stuck
        | _ => .stuck
      | .ok false c1 => clL G t m env xs c1
      | _ => .stuck
/-- a clause, from its iterator on -/
def mCl (mi : Env → M (List D)) (vs : List Nat) (G : Tg) (t : Env → M Bool) (m : Env → M (List α)) : Env → M (List α) := fun env cc => match mi env cc with
  | .ok xs c => clL G t m (wipeE env vs) xs c
  | _ => .stuck
theorem but_back {vs js ks : List Nat} {σ σ2 σ3 : L2.St} (first : But js (wipe σ vs) σ2) (second : But ks σ2 σ3) (hj : ∀ j ∈ js, j ∈ vs) (hk : ∀ j ∈ ks, j ∈ vs) : Back (wipe σ vs) σ3 := by
  have both := first.trans second
  refine ⟨both.1.symm, ?_⟩
  intro j v at_j
  have out := (wipe_some at_j).2
  rw [both.2 j ?_]
  · exact at_j
  · intro mem
    rcases List.mem_append.mp mem with z | z
    · exact out (hj j z)
    · exact out (hk j z)
theorem but_wipe (vs : List Nat) (σ : L2.St) : But vs σ (wipe σ vs) := by
  refine ⟨wipe_length _ _, ?_⟩
  intro j out
  rw [wipe_get, if_neg fun z => out z.1]
/-- the loop of a clause, as data says it -/
theorem loop_read {Ac : Acc K mg α} {js ks vs : List Nat} {G : Tg} {t : Env → M Bool} {m : Env → M (List α)} {σ : L2.St} {xs : List D} {J : It} {ca : Ca} {H1 : Hp} {cc cE : Cs} {env : Env} {L : Addr} {ys zs : List α} {Z : Hp → Prop} (hj : ∀ j ∈ js, j ∈ vs) (hk : ∀ j ∈ ks, j ∈ vs)
    (items : ItD K mg ca H1 xs J) (he : EnvOk K mg ca H1 env (wipe σ vs)) (hc : CsOk K mg ca H1 cc) (gL : ca.g L) (now : Ac.holds ca H1 L ys) (run : clL G t m env xs cc = .ok zs cE) (fit : Ac.fits (ys ++ zs))
    (fin : ∀ H ca', Gst L ca H1 ca' H → CsOk K mg ca' H cE → Ac.holds ca' H L (ys ++ zs) → Z H) :
    LoopT (wipe σ vs) (EvG K mg js G) (Ev K mg denB W0 t) (EvN Ac ks m L) J H1 Z := by
  obtain ⟨Gp, Y, walk, good, gives⟩ := items
  refine ⟨fun i n H => n = xs.length - i ∧ i ≤ xs.length ∧ ∃ ca1 cc1 ys1 zs1, Gst L ca H1 ca1 H ∧ CsOk K mg ca1 H cc1 ∧ EnvOk K mg ca1 H env (wipe σ vs) ∧ Ac.holds ca1 H L ys1 ∧ clL G t m env (xs.drop i) cc1 = .ok zs1 cE ∧ ys1 ++ zs1 = ys ++ zs,
    ⟨_, rfl, Nat.zero_le _, ca, cc, ys, zs, Gst.refl _ _ _, hc, he, now, by simpa using run, rfl⟩, ?_⟩
  rintro i _ H ⟨rfl, le, ca1, cc1, ys1, zs1, gs, hc1, he1, now1, run1, all⟩
  have g1 : ca1.g L := by rw [gs.same]; exact gL
  rcases Nat.lt_or_ge i xs.length with lt | ge
  · refine .inr ⟨walk.goes i H lt (good ca1 H gs.toMn), fun H' => ∃ ca' cc' ys' zs', Gst L ca H1 ca' H' ∧ CsOk K mg ca' H' cc' ∧ EnvOk K mg ca' H' env (wipe σ vs) ∧ Ac.holds ca' H' L ys' ∧ clL G t m env (xs.drop (i + 1)) cc' = .ok zs' cE ∧ ys' ++ zs' = ys ++ zs, ?_, ?_⟩
    · intro H' more
      exact ⟨xs.length - (i + 1), Nat.sub_lt_sub_left lt (Nat.lt_succ_self i), rfl, lt, more⟩
    · intro v H2 yld
      obtain ⟨p2, hc2, d, at_i, den⟩ := gives i H v H2 ca1 cc1 lt gs.toMn hc1 (walk.yields i H v H2 lt (good ca1 H gs.toMn) yld)
      rw [drop_cons' at_i] at run1
      unfold clL at run1
      split at run1
      · exact nomatch run1
      · rename_i env2 eG
        refine ⟨env, ca1, cc1, .d d, env2, he1.mono p2, hc2, den, eG, ?_⟩
        intro σ2 he2 but2
        refine ⟨env2, ca1, cc1, he2, hc2, ?_⟩
        split at run1
        · rename_i c2 eT
          rw [eT]
          rintro b H4 ca4 p4 hc4 (rfl : true = b)
          rw [if_pos rfl]
          split at run1
          · rename_i some_ c3 eM
            split at run1
            · rename_i others c4 eR
              simp only [R.ok.injEq] at run1
              obtain ⟨rfl, rfl⟩ := run1
              have g4 : ca4.g L := by rw [p4.gEq]; exact g1
              have now4 := Ac.keep (by rw [← gs.same] at gL; exact gL) (p2.trans p4) now1
              refine ⟨env2, ca4, c2, ys1, some_, c3, he2.mono p4, hc4, g4, now4, eM, Ac.less (ys := others) (by rw [List.append_assoc, all]; exact fit), ?_⟩
              intro σ5 H5 ca5 gs5 hc5 now5 but5
              refine ⟨but_back but2 but5 hj hk, ca5, c3, ys1 ++ some_, others, (gs.trans (p2.trans p4).gst).trans gs5, hc5, ?_, now5, eR, by rw [List.append_assoc]; exact all⟩
              exact ((he1.mono p2).mono p4).mn gs5.toMn
            · exact nomatch run1
          · exact nomatch run1
        · rename_i c2 eT
          rw [eT]
          rintro b H4 ca4 p4 hc4 (rfl : false = b)
          rw [if_neg (by decide : ¬ false = true)]
          refine ⟨but_back but2 (But.refl [] _) hj (fun _ z => nomatch z), ca4, c2, ys1, zs1, gs.trans (p2.trans p4).gst, hc4, (he1.mono p2).mono p4, Ac.keep g1 (p2.trans p4) now1, run1, all⟩
        · exact nomatch run1
  · have e : i = xs.length := Nat.le_antisymm le ge
    subst e
    rw [List.drop_length] at run1
    simp only [clL, R.ok.injEq] at run1
    obtain ⟨rfl, rfl⟩ := run1
    rw [List.append_nil] at all
    subst all
    exact .inl ⟨walk.stops H (good ca1 H gs.toMn), fin H ca1 gs hc1 now1⟩
/-- a whole comprehension: `shows` what the thing is, once it is shown -/
def mComp (mi : Env → M (List D)) (vs : List Nat) (G : Tg) (t : Env → M Bool) (m : Env → M (List α)) (res : List α → Option D) : ME := fun env cc => (mi env cc).bind fun xs c => match clL G t m (wipeE env vs) xs c with
  | .ok ys c2 => match res ys with
    | some x => .ok (.d x) c2
    | none => .stuck
  | _ => .stuck
theorem comp_read {Ac : Acc K mg α} {Wx : WX} {js ks vs : List Nat} {mi : Env → M (List D)} {G : Tg} {t : Env → M Bool} {m : Env → M (List α)} {res : List α → Option D} {u : Addr → HO} {σ : L2.St} {H : Hp} {Q : VK} (hj : ∀ j ∈ js, j ∈ vs) (hk : ∀ j ∈ ks, j ∈ vs)
    (mut0 : ∀ L, Mut (some (u L))) (first : ∀ {ca : Ca} {H : Hp} {L : Addr}, H L = some (u L) → Ac.holds ca H L []) (fit : ∀ {ys x}, res ys = some x → Ac.fits ys)
    (shown : ∀ {ca : Ca} {H : Hp} {L : Addr} {ys x}, res ys = some x → Ac.holds ca H L ys → ¬ Live ca L → DenD K mg (Live ca) H x (.ref L))
    (mono : ∀ {ca ca' : Ca} {H : Hp} {L : Addr} {ys}, Mn ca H ca' H → Ac.holds ca H L ys → Ac.holds ca' H L ys)
    (h : Ev K mg (denV K mg) Wx (mComp mi vs G t m res) σ H Q) :
    tComp u (Ev K mg (denI K mg) Wx mi) (EvG K mg js G) (Ev K mg denB W0 t) (EvN Ac ks m) vs σ H Q := by
  refine Ev.bind h ?_
  intro env ca xs cc J H1 he hc items left L none1
  split at left
  · rename_i ys cE run
    split at left
    · rename_i x eR
      have hide := Mn.hide (ca := ca) (o := u L) none1
      have it2 : ItD K mg (ca.hide L) (upd H1 L (u L)) xs J := by
        obtain ⟨Gp, Y, w, g, y⟩ := items
        exact ⟨Gp, Y, w, fun c2 H2 q => g c2 H2 (hide.trans q), fun i H2 v H3 c2 cc2 hi q => y i H2 v H3 c2 cc2 hi (hide.trans q)⟩
      refine loop_read hj hk it2 ((he.wipe vs).mn hide) (hc.hide none1 (mut0 L)) (.inr rfl) (first upd_same) run (by simpa using fit eR) ?_
      intro H2 ca2 gs hc2 all
      rw [List.nil_append] at all
      have more : ∀ a, ca.g a → ca2.g a := fun a ga => by rw [gs.same]; exact .inl ga
      have g2 : ca2.g L := by rw [gs.same]; exact .inr rfl
      have back : Stp ca H1 (ca2.back ca.g) H2 := by
        refine ⟨(hide.trans gs.toMn).trans (Mn.back more), rfl, ?_⟩
        intro a ga
        have ne : a ≠ L := fun z => hc.gNew none1 (z ▸ ga)
        rw [gs.hold a ne (.inl ga), upd_ne ne]
      have out : ¬ Live (ca2.back ca.g) L := by
        rintro (z | z)
        · obtain ⟨n, at_n⟩ := List.getElem?_of_mem z
          exact hc2.gd n L at_n g2
        · exact hc.gNew none1 z
      exact KS.now left back (hc2.back more) (show DenW K mg (ca2.back ca.g) H2 (.d x) (.ref L) from shown eR (mono (Mn.back more) all) out)
    · exact left.elim
  · exact left.elim
end
/-- inner code over data -/
abbrev PNv {α : Type} (X : Cx) (code : Addr → Sem Fin → Sem Fin) (Ac : Acc X.K X.mg α) (vs : List Nat) (m : Env → M (List α)) : Prop := ∀ L, PN X (code L) (EvN Ac vs m L)
theorem _root_.L2.PN.imp {X : Cx} {code : Sem Fin → Sem Fin} {t t' : L2.St → Hp → (L2.St → Hp → Prop) → Prop} (h : PN X code t) (i : ∀ σ H R, t' σ H R → t σ H R) : PN X code t' := ⟨fun inv left goOn => h.run inv (i _ _ _ left) goOn⟩
/-- a further clause -/
theorem nv_clause {α : Type} {B : Cx} {Ac : Acc B.K B.mg α} {tg iter : Expr} {ifs : List Expr} {inner : PySem.Env → Addr → Sem Fin → Sem Fin} {e : Expr} {idx : Nat} {c : Comprehension} {js ks vs : List Nat} {mi : Env → M (List D)} {G : Tg} {t : Env → M Bool} {m : Env → M (List α)}
    (kind : IsComp e) (quiet : B.xe = fun _ _ => False) (hcalm : B.calm = true) (fold : ∀ env x, foldedSetIterable iter env x = pure x) (hj : ∀ j ∈ js, j ∈ vs) (hk : ∀ j ∈ ks, j ∈ vs)
    (pi : PIv B W0 tg iter mi) (pg : PGv B tg js G) (pt : PTsv B W0 ifs t) (pn : PNv B (inner B.env) Ac ks m)
    (hloop : ∀ it L env, compTurn e idx it (.ref L) env = turnOf iter.pos tg ifs it env (inner env L) (again (.compLoop e idx it (.ref L) env)))
    (hc : (clausesOf e)[idx]? = some c) (hsync : (c.is_async != 0) = false) :
    PNv B (fun L more => do
      let xs ← eval iter B.env
      standAt iter.pos
      let xs ← foldedSetIterable iter B.env xs
      let _ ← runOwn (.compStart e idx (← holding [xs] (pyIter xs)) (.ref L) B.env) B.env
      more) Ac vs (mCl mi vs G t m) := by
  intro L
  refine (pn_clause (place := iter.pos) vs quiet hcalm (fold B.env) pi pg pt (pn L) (fun it => den_start _ _ kind _ _ _ _) (fun it => by rw [den_loop _ _ kind, hloop]) (fun _ => under_start _ kind _ _ _ _) (fun _ => under_loop _ kind _ _ _ _) (fun _ => quiet_loop kind _ _ _ _) hc hsync).imp ?_
  rintro σ H R ⟨env, ca, cc, ys, zs, c1, he, hcs, gL, now, run, fit, go⟩
  unfold mCl at run
  split at run
  · rename_i xs c2 eI
    refine ⟨env, ca, cc, he, hcs, ?_⟩
    rw [eI]
    intro J H1 ca1 p1 hc1 items
    have g1 : ca1.g L := by rw [p1.gEq]; exact gL
    refine loop_read hj hk items ((he.mono p1).wipe vs) hc1 g1 (Ac.keep gL p1 now) run fit ?_
    intro H2 ca2 gs hc2 all
    exact go (wipe σ vs) H2 ca2 (p1.gst.trans gs) hc2 all (but_wipe vs σ)
  · exact nomatch run
end DL
set_option Elab.async false
set_option linter.all false
set_option maxRecDepth 100000
set_option maxHeartbeats 1900000
/-! CD: dict comprehensions over data. -/
namespace L2
open PyProof.Rows PySem PySem.Spec
/-- the innermost code of a dict comprehension -/
def leafD (kx vx : Expr) (env : Env) (L : Addr) (more : Sem Fin) : Sem Fin := do
  (do
    let key ← eval kx env
    let val ← holding [key] (eval vx env)
    standAt ({ kx.pos with endLine := vx.pos.endLine, endCol := vx.pos.endCol })
    holding [key, val] (dictSet L key val))
  more
/-- a further clause as code -/
def nextD (e iter : Expr) (idx : Nat) (env : Env) (L : Addr) (more : Sem Fin) : Sem Fin := do
  let xs ← eval iter env
  standAt iter.pos
  let xs ← foldedSetIterable iter env xs
  let _ ← runOwn (.compStart e idx (← holding [xs] (pyIter xs)) (.ref L) env) env
  more
section
variable {B : Cx} {kx vx : Expr} {tk tv : TE} {L : Addr}
theorem pn_leafD {st : V → V → Hp → (Hp → Prop) → Prop} (pk : PE B kx tk) (pv : PE B vx tv)
    (store : ∀ {pins : List (Addr × Obj)} {s : Shared} {σ : St} {H : Hp} {y z : V} {u r : Value} {R : Hp → Prop}, Inv B pins σ H s → RelV y u → RelV z r → st y z H R → wpAny (model B.prog B.w) B.A (dictSet L u r) (fun _ s' => ∃ H', Inv B pins σ H' s' ∧ R H') B.xe s) :
    PN B (leafD kx vx B.env L) (fun σ H R => tk σ H fun y H1 => tv σ H1 fun z H2 => st y z H2 (R σ)) := by
  constructor
  intro pins s σ H R more Q inv left goOn
  unfold leafD
  apply wpAny_bind; apply wpAny_bind
  apply wpAny_mono (pk.run _ _ _ _ _ inv left) _ (fun _ _ f => f)
  rintro u s1 ⟨y, H1, inv1, rel1, left1⟩
  apply wpAny_bind; apply wpAny_holding
  apply wpAny_mono (pv.run _ _ _ _ _ inv1 left1) _ (fun _ _ f => f)
  rintro r s2 ⟨z, H2, inv2, rel2, left2⟩
  apply wpAny_bind; apply wpAny_standAt; apply wpAny_holding
  apply wpAny_mono (store inv2 rel1 rel2 left2) _ (fun _ _ f => f)
  rintro _ s3 ⟨H3, inv3, left3⟩
  exact goOn s3 σ H3 inv3 left3
end
/-- entries as they stand -/
def entsN (P : Program) (w : World) (xs : List (NestedKey × Addr × Value)) : List DictEntry := xs.map (entryOfKey (nestedKind P w))
theorem raw_new {P : Program} {w : World} {H : Hp} (h : Heap) (big : sysModules < h.objs.size) : ObjOk P w H (h.push { cls := .type "dict", data := .dict #[] }) h.objs.size (DL.RawD h.objs.size []) := by
  have there : (h.push { cls := .type "dict", data := .dict #[] }).get? h.objs.size = some { cls := .type "dict", data := .dict #[] } := Heap.get?_push_size _ rfl
  refine ⟨⟨beq_eq_false_iff_ne.mpr (Nat.ne_of_gt big), Nat.zero_le _, _, 0, there, ⟨rfl, rfl, rfl⟩, rfl⟩, ⟨_, there⟩, ?_⟩
  rintro h1 h2 ⟨a1, a2, o, ep, a3, a4⟩ keep
  exact ⟨a1, a2, o, ep, keep _ a3, a4⟩
/-- a store with a key that is a tuple -/
theorem set_nested {X : Cx} {pins : List (Addr × Obj)} {σ : St} {H : Hp} {s : Shared} {E : Value → Shared → Prop} {L b : Addr} {es : List (NestedKey × Addr × Value)} {k : NestedKey} {r : Value} {Q : Unit → Shared → Prop} (room : X.A.units + 8 < cLine) (inv : Inv X pins σ H s)
    (here : H L = some (DL.RawD L (entsN X.prog X.w es))) (once : (es.map (·.1)).Nodup) (short : es.length < sizeLine) (old : ∀ x ∈ es, (nestedKind X.prog X.w).is s.heap x.1 x.2.1) (new : (nestedKind X.prog X.w).is s.heap k b)
    (go : ∀ s', Inv X pins σ (upd H L (DL.RawD L (entsN X.prog X.w (storedH es k b r)))) s' → Q () s') : wpAny (model X.prog X.w) X.A (dictSet L (.ref b) r) Q E s := by
  obtain ⟨⟨noSys, _, o, ep, at_L, exact_, lies⟩, _⟩ := (show ObjOk X.prog X.w H s.heap L (DL.RawD L (entsN X.prog X.w es)) from inv.hok L _ here)
  have now : s.heap.DictOfH (nestedKind X.prog X.w) L es := ⟨o, (entsN X.prog X.w es).toArray, ep, at_L, exact_, lies, rfl, old, once⟩
  apply wpAny_dictSet_heap (knd := nestedKind X.prog X.w) (k := k) room new now _ (Nat.le_of_lt short)
  intro h' then_ same
  obtain ⟨o', es', ep', at_L', exact', lies', list', _, _⟩ := then_
  have arr : es' = (entsN X.prog X.w (storedH es k b r)).toArray := by rw [← Array.toArray_toList (xs := es'), list']; rfl
  have len : (entsN X.prog X.w (storedH es k b r)).length ≤ sizeLine := by
    have := storedH_length es k b r
    unfold entsN
    rw [List.length_map]
    omega
  refine go _ (d_write inv (by rw [here]; exact True.intro) same ⟨o', at_L'⟩ ⟨⟨noSys, len, o', ep', at_L', exact', by rw [lies', arr]⟩, ⟨o', at_L'⟩, ?_⟩)
  rintro h1 h2 ⟨a1, a2, o2, ep2, a3, a4⟩ keep
  exact ⟨a1, a2, o2, ep2, keep _ a3, a4⟩
end L2
namespace DL
open L2 PyProof.Rows PySem PySem.Spec
/-! ### keys that are texts or ints -/
/-- kvs[k] = v -/
def putG {β : Type} (kvs : List (Key × β)) (k : Key) (v : β) : List (Key × β) := if (kvs.any fun p => decide (p.1 = k)) = true then kvs.map (fun p => if p.1 = k then (p.1, v) else p) else kvs ++ [(k, v)]
def pks : List (D × D) → Option (List (Key × D))
  | [] => some []
  | x :: xs => match asKey x.1, pks xs with
    | some k, some ks => some ((k, x.2) :: ks)
    | _, _ => none
theorem pks_app : ∀ {xs ys : List (D × D)} {ks : List (Key × D)}, pks (xs ++ ys) = some ks → ∃ k1 k2, pks xs = some k1 ∧ pks ys = some k2 ∧ ks = k1 ++ k2
  | [], ys, ks, h => ⟨[], ks, rfl, h, rfl⟩
  | x :: xs, ys, ks, h => by
    simp only [List.cons_append, pks] at h
    split at h
    · rename_i k r e1 e2
      cases h
      obtain ⟨k1, k2, h1, h2, rfl⟩ := pks_app e2
      exact ⟨(k, x.2) :: k1, k2, by simp [pks, e1, h1], h2, rfl⟩
    · exact nomatch h
def foldP (ks : List (Key × D)) : List (Key × D) := ks.foldl (fun acc p => putG acc p.1 p.2) []
section
variable {K : PySem.W.Frag} {mg : Str → Option Value} {L L' : Addr → Prop} {H H' : Hp}
/-- pairs of a key and data lie as pairs of a key and a value -/
def Lie2 (K : PySem.W.Frag) (mg : Str → Option Value) (L : Addr → Prop) (H : Hp) : List (Key × D) → List (Key × V) → Prop
  | [], vs => vs = []
  | p :: ps, vs => ∃ v vr, vs = (p.1, v) :: vr ∧ DenD K mg L H p.2 v ∧ Lie2 K mg L H ps vr
theorem Lie2.mono (p : Kp L H L' H') : ∀ {ps : List (Key × D)} {vs : List (Key × V)}, Lie2 K mg L H ps vs → Lie2 K mg L' H' ps vs
  | [], _, h => h
  | _ :: _, _, ⟨v, vr, e, d, r⟩ => ⟨v, vr, e, DenD.mono p _ _ d, Lie2.mono p r⟩
theorem Lie2.keys : ∀ {ps : List (Key × D)} {vs : List (Key × V)}, Lie2 K mg L H ps vs → vs.map (·.1) = ps.map (·.1)
  | [], _, h => by rw [show _ = [] from h]; rfl
  | _ :: _, _, ⟨v, vr, e, _, r⟩ => by rw [e, List.map_cons, List.map_cons, r.keys]
theorem Lie2.vals : ∀ {ps : List (Key × D)} {vs : List (Key × V)}, Lie2 K mg L H ps vs → DenL K mg L H (ps.map (·.2)) (vs.map (·.2))
  | [], _, h => by rw [show _ = [] from h]; rfl
  | _ :: _, _, ⟨v, vr, e, d, r⟩ => by rw [e]; exact ⟨v, vr.map (·.2), rfl, d, r.vals⟩
theorem Lie2.any (k : Key) : ∀ {ps : List (Key × D)} {vs : List (Key × V)}, Lie2 K mg L H ps vs → (vs.any fun p => decide (p.1 = k)) = ps.any fun p => decide (p.1 = k)
  | [], _, h => by rw [show _ = [] from h]; rfl
  | _ :: _, _, ⟨v, vr, e, _, r⟩ => by rw [e, List.any_cons, List.any_cons, r.any k]
theorem Lie2.snoc {k : Key} {x : D} {v : V} (d : DenD K mg L H x v) : ∀ {ps : List (Key × D)} {vs : List (Key × V)}, Lie2 K mg L H ps vs → Lie2 K mg L H (ps ++ [(k, x)]) (vs ++ [(k, v)])
  | [], _, h => by rw [show _ = [] from h]; exact ⟨v, [], rfl, d, rfl⟩
  | _ :: _, _, ⟨u, vr, e, d1, r⟩ => by rw [e]; exact ⟨u, _, rfl, d1, r.snoc d⟩
theorem Lie2.swap {k : Key} {x : D} {v : V} (d : DenD K mg L H x v) : ∀ {ps : List (Key × D)} {vs : List (Key × V)}, Lie2 K mg L H ps vs → Lie2 K mg L H (ps.map fun p => if p.1 = k then (p.1, x) else p) (vs.map fun p => if p.1 = k then (p.1, v) else p)
  | [], _, h => by rw [show _ = [] from h]; rfl
  | p :: _, _, ⟨u, vr, e, d1, r⟩ => by
    rw [e, List.map_cons, List.map_cons]
    by_cases q : p.1 = k
    · rw [if_pos q, if_pos q]
      exact ⟨v, _, rfl, d, r.swap d⟩
    · rw [if_neg q, if_neg q]
      exact ⟨u, _, rfl, d1, r.swap d⟩
theorem Lie2.put {k : Key} {x : D} {v : V} (d : DenD K mg L H x v) {ps : List (Key × D)} {vs : List (Key × V)} (h : Lie2 K mg L H ps vs) : Lie2 K mg L H (putG ps k x) (putK vs k v) := by
  unfold putG putK
  rw [h.any k]
  split
  · exact h.swap d
  · exact h.snoc d
theorem Lie2.length : ∀ {ps : List (Key × D)} {vs : List (Key × V)}, Lie2 K mg L H ps vs → vs.length = ps.length
  | [], _, h => by rw [show _ = [] from h]; rfl
  | _ :: _, _, ⟨v, vr, e, _, r⟩ => by rw [e, List.length_cons, List.length_cons, r.length]
end
theorem putG_len {β : Type} (kvs : List (Key × β)) (k : Key) (v : β) : (putG kvs k v).length ≤ kvs.length + 1 := by
  unfold putG
  split
  · rw [List.length_map]; exact Nat.le_succ _
  · rw [List.length_append]; exact Nat.le_refl _
theorem foldP_snoc (ks : List (Key × D)) (p : Key × D) : foldP (ks ++ [p]) = putG (foldP ks) p.1 p.2 := by
  unfold foldP
  rw [List.foldl_append]
  rfl
theorem foldP_len (ks : List (Key × D)) : (foldP ks).length ≤ ks.length := by
  suffices h : ∀ (ks acc : List (Key × D)), (ks.foldl (fun acc p => putG acc p.1 p.2) acc).length ≤ acc.length + ks.length by simpa [foldP] using h ks []
  intro ks
  induction ks with
  | nil => intro acc; exact Nat.le_refl _
  | cons p ks ih =>
    intro acc
    have one := putG_len acc p.1 p.2
    have more := ih (putG acc p.1 p.2)
    rw [List.length_cons, List.foldl_cons]
    omega
/-- a dict with plain keys is filled -/
def accP (K : PySem.W.Frag) (mg : Str → Option Value) : Acc K mg (D × D) where
  holds ca H L ys := ∃ ks kvs, pks ys = some ks ∧ H L = some (.dK kvs) ∧ Lie2 K mg (Live ca) H (foldP ks) kvs
  fits ys := ∃ ks, pks ys = some ks ∧ ks.length ≤ CAP
  keep := by
    rintro ca H ca' H' L ys gL p ⟨ks, kvs, e, h, d⟩
    exact ⟨ks, kvs, e, (p.gKp L gL).trans h, d.mono p.kp⟩
  less := by
    rintro xs ys ⟨ks, e, l⟩
    obtain ⟨k1, k2, e1, _, rfl⟩ := pks_app e
    exact ⟨k1, e1, Nat.le_trans (by simp) l⟩
def dpOf (ys : List (D × D)) : Option D := match pks ys with
  | some ks => if ks.length ≤ CAP then some (.dct ((foldP ks).map fun p => keyD p.1) ((foldP ks).map (·.2))) else none
  | none => none
def mPair (mk mv : ME) : Env → M (List (D × D)) := fun env cc => match mk env cc with
  | .ok (.d k) c1 => match mv env c1 with
    | .ok (.d v) c2 => .ok [(k, v)] c2
    | _ => .stuck
  | _ => .stuck
theorem nv_leafP {B : Cx} {kx vx : Expr} {mk mv : ME} (pk : PEv B W0 kx mk) (pv : PEv B W0 vx mv) : PNv B (leafD kx vx B.env) (accP B.K B.mg) [] (mPair mk mv) := by
  intro L
  refine (pn_leafD (st := fun y z H R => ∃ kvs k, y = kV k ∧ H L = some (.dK kvs) ∧ kvs.length < sizeLine ∧ R (upd H L (.dK (putK kvs k z)))) pk pv ?_).imp ?_
  · rintro pins s σ H y z u r R inv ry rz ⟨kvs, k, rfl, here, short, go⟩
    exact d_dictSet inv here short ry rz fun s' inv' => ⟨_, inv', go⟩
  · rintro σ H R ⟨env, ca, cc, ys, zs, c1, he, hc, gL, ⟨ks, kvs, eK, here, lie⟩, run, ⟨all, eA, cap⟩, go⟩
    refine ⟨env, ca, cc, he, hc, ?_⟩
    unfold mPair at run
    split at run
    · rename_i k c2 eM
      rw [eM]
      intro v1 H1 ca1 p1 hc1 d1
      refine ⟨env, ca1, c2, he.mono p1, hc1, ?_⟩
      split at run
      · rename_i v c3 eV
        rw [eV]
        simp only [DL.R.ok.injEq] at run
        obtain ⟨rfl, rfl⟩ := run
        intro v2 H2 ca2 p2 hc2 d2
        have p := p1.trans p2
        have g2 : ca2.g L := by rw [p.gEq]; exact gL
        obtain ⟨k1, k2, e1, e2, rfl⟩ := pks_app eA
        rw [eK] at e1
        cases e1
        simp only [pks] at e2
        split at e2
        · rename_i key kr q1 q2
          cases q2
          cases e2
          obtain ⟨rfl, _⟩ := asKey_ok q1 (DenD.t (K := B.K) (mg := B.mg) (ca := ca1) (H := H1) d1)
          have here2 : H2 L = some (.dK kvs) := (p.gKp L gL).trans here
          have lie2 := lie.mono p.kp
          have gw : Mn ca2 H2 ca2 (upd H2 L (.dK (putK kvs key v2))) := Mn.gwrite g2
          refine ⟨kvs, key, rfl, here2, ?_, ?_⟩
          · have := foldP_len ks
            have l := lie.length
            rw [List.length_append, List.length_singleton] at cap
            rw [sizeLine_eq, l]
            show _ < CAP
            omega
          · refine go σ _ ca2 ⟨p.toMn.trans gw, p.gEq, ?_⟩ (hc2.gwrite g2 True.intro) ⟨ks ++ [(key, v)], _, eA, upd_same, ?_⟩ (But.refl _ _)
            · intro a ne ga
              rw [upd_ne ne]
              exact p.gKp a ga
            · rw [foldP_snoc]
              exact (lie2.put d2).mono gw.kp
        · exact nomatch e2
      · exact nomatch run
    · exact nomatch run
/-! ### keys that are tuples -/
mutual
def nk : D → Option NestedKey
  | .non => some .none
  | .bl b => some (.num (if b = true then 1 else 0))
  | .int i => some (.num i)
  | .str x => some (.text x)
  | .tup ds => (nks ds).map .tup
  | _ => none
def nks : List D → Option (List NestedKey)
  | [] => some []
  | x :: xs => match nk x, nks xs with
    | some k, some ks => some (k :: ks)
    | _, _ => none
end
section
variable {X : Cx} {pins : List (Addr × Obj)} {σ : L2.St} {H : Hp} {s : Shared} {L : Addr → Prop}
mutual
theorem nest_of (inv : Inv X pins σ H s) : ∀ (x : D) {v : V} {k : NestedKey} {u : Value}, DenD X.K X.mg L H x v → nk x = some k → RelV v u → NestedIs s.heap k u
  | .non, _, _, _, d, e, r => by cases e; cases (show _ = V.non from d); cases r; exact .none
  | .bl b, _, _, _, d, e, r => by cases e; cases (show _ = V.bl b from d); cases r; exact .bool rfl
  | .int i, _, _, _, d, e, r => by cases e; cases (show _ = V.int i from d); obtain ⟨t, rfl⟩ := r; exact .int i t
  | .str x, _, _, _, d, e, r => by cases e; cases (show _ = V.str x from d); obtain ⟨t, rfl⟩ := r; exact .text x t
  | .tup ds, _, _, _, d, e, r => by
    obtain ⟨a, vs, rfl, lies, items⟩ := d
    obtain ⟨ks, q, rfl⟩ := Option.map_eq_some_iff.mp e
    cases r
    obtain ⟨its, rel, ⟨o, at_a, cl, n, dt⟩, _⟩ := inv.tuple (TupAt.sq (lies.imp (fun z => z.2) id))
    exact .tup at_a cl dt (by simpa using nests_of inv ds items q rel)
  | .lst _, _, _, _, _, e, _ => nomatch e
  | .scr _, _, _, _, _, e, _ => nomatch e
  | .dct _ _, _, _, _, _, e, _ => nomatch e
  | .obj _ _ _, _, _, _, _, e, _ => nomatch e
  | .glo _, _, _, _, _, e, _ => nomatch e
  | .ty _, _, _, _, _, e, _ => nomatch e
  | .dkn _, _, _, _, _, e, _ => nomatch e
theorem nests_of (inv : Inv X pins σ H s) : ∀ (xs : List D) {vs : List V} {ks : List NestedKey} {us : List Value}, DenL X.K X.mg L H xs vs → nks xs = some ks → Vals vs us → NestedAll s.heap ks us
  | [], _, _, _, d, e, r => by cases e; cases (show _ = [] from d); cases r; exact .nil
  | x :: xs, _, _, _, d, e, r => by
    obtain ⟨v, vr, rfl, d1, d2⟩ := d
    cases r with
    | cons r1 r2 =>
      simp only [nks] at e
      split at e
      · rename_i k ks q1 q2
        cases e
        exact .cons (nest_of inv x d1 q1 r1) (nests_of inv xs d2 q2 r2)
      · exact nomatch e
end
end
/-- a key that is a tuple, not too deep -/
def tk (x : D) : Option NestedKey := match x with
  | .tup ds => match nk (.tup ds) with
    | some k => if k.depth ≤ 8 then some k else none
    | none => none
  | _ => none
theorem tk_is {x : D} {k : NestedKey} (e : tk x = some k) : (∃ ds, x = .tup ds) ∧ nk x = some k ∧ k.depth ≤ 8 := by
  cases x with
  | tup ds =>
    simp only [tk] at e
    split at e
    · rename_i k' q
      split at e
      · rename_i deep
        cases e
        exact ⟨⟨ds, rfl⟩, q, deep⟩
      · exact nomatch e
    · exact nomatch e
  | _ => exact nomatch e
def tks : List D → Option (List NestedKey)
  | [] => some []
  | x :: xs => match tk x, tks xs with
    | some k, some ks => some (k :: ks)
    | _, _ => none
theorem tks_app : ∀ {xs ys : List D} {ks : List NestedKey}, tks (xs ++ ys) = some ks → ∃ k1 k2, tks xs = some k1 ∧ tks ys = some k2 ∧ ks = k1 ++ k2
  | [], ys, ks, h => ⟨[], ks, rfl, h, rfl⟩
  | x :: xs, ys, ks, h => by
    simp only [List.cons_append, tks] at h
    split at h
    · rename_i k r e1 e2
      cases h
      obtain ⟨k1, k2, h1, h2, rfl⟩ := tks_app e2
      exact ⟨k :: k1, k2, by simp [tks, e1, h1], h2, rfl⟩
    · exact nomatch h
theorem tks_snoc : ∀ {xs : List D} {x : D} {ks : List NestedKey} {k : NestedKey}, tks xs = some ks → tk x = some k → tks (xs ++ [x]) = some (ks ++ [k])
  | [], x, ks, k, h, e => by cases h; simp [tks, e]
  | y :: xs, x, ks, k, h, e => by
    simp only [tks] at h
    split at h
    · rename_i j js q1 q2
      cases h
      simp only [List.cons_append, tks, q1, tks_snoc q2 e]
    · exact nomatch h
theorem tks_len : ∀ {xs : List D} {ks : List NestedKey}, tks xs = some ks → ks.length = xs.length
  | [], ks, h => by cases h; rfl
  | x :: xs, ks, h => by
    simp only [tks] at h
    split at h
    · rename_i j js q1 q2
      cases h
      rw [List.length_cons, List.length_cons, tks_len q2]
    · exact nomatch h
def addK (ks : List NestedKey) (k : NestedKey) : List NestedKey := if k ∈ ks then ks else ks ++ [k]
theorem addK_once {ks : List NestedKey} {k : NestedKey} (h : ks.Nodup) : (addK ks k).Nodup := by
  unfold addK
  split
  · exact h
  · rename_i out
    rw [List.nodup_append]
    refine ⟨h, List.nodup_cons.mpr ⟨List.not_mem_nil, List.nodup_nil⟩, ?_⟩
    intro a mem b is_k e
    rw [List.mem_singleton.mp is_k] at e
    exact out (e ▸ mem)
def foldN (ks : List NestedKey) : List NestedKey := ks.foldl addK []
theorem foldN_snoc (ks : List NestedKey) (k : NestedKey) : foldN (ks ++ [k]) = addK (foldN ks) k := by
  unfold foldN
  rw [List.foldl_append]
  rfl
theorem foldN_len (ks : List NestedKey) : (foldN ks).length ≤ ks.length := by
  suffices h : ∀ (ks acc : List NestedKey), (ks.foldl addK acc).length ≤ acc.length + ks.length by simpa [foldN] using h ks []
  intro ks
  induction ks with
  | nil => intro acc; exact Nat.le_refl _
  | cons k ks ih =>
    intro acc
    have more := ih (addK acc k)
    have one : (addK acc k).length ≤ acc.length + 1 := by
      unfold addK
      split
      · exact Nat.le_succ _
      · rw [List.length_append]; exact Nat.le_refl _
    rw [List.length_cons, List.foldl_cons]
    omega
theorem foldN_once (ks : List NestedKey) : (foldN ks).Nodup := by
  suffices h : ∀ (ks acc : List NestedKey), acc.Nodup → (ks.foldl addK acc).Nodup from h ks [] List.nodup_nil
  intro ks
  induction ks with
  | nil => exact fun _ h => h
  | cons k ks ih => exact fun acc h => ih _ (addK_once h)
/-- the store of a key among entries: what becomes of the keys and of where they lie -/
theorem stored_old {es : List (NestedKey × Addr × Value)} {k : NestedKey} {b : Addr} {r : Value} (mem : k ∈ es.map (·.1)) : (storedH es k b r).map (fun x => (x.1, x.2.1)) = es.map fun x => (x.1, x.2.1) := by
  obtain ⟨x, at_x, e⟩ := List.mem_map.mp mem
  have found : (atKey es k).isSome = true := by
    unfold atKey
    rw [Option.isSome_map, List.find?_isSome]
    exact ⟨x, at_x, decide_eq_true e⟩
  unfold storedH
  rw [if_pos found, List.map_map]
  apply List.map_congr_left; intro y _
  unfold Function.comp putAt
  split <;> rfl
theorem stored_new {es : List (NestedKey × Addr × Value)} {k : NestedKey} {b : Addr} {r : Value} (out : k ∉ es.map (·.1)) : storedH es k b r = es ++ [(k, b, r)] := by
  apply storedH_new
  unfold atKey
  rw [Option.map_eq_none_iff, List.find?_eq_none]
  intro x mem e
  exact out (List.mem_map.mpr ⟨x, mem, of_decide_eq_true e⟩)
section
variable (P : Program) (w : World) (K : PySem.W.Frag) (mg : Str → Option Value)
/-- a dict whose keys are tuples is filled -/
def accN : Acc K mg D where
  holds ca H L ys := ∃ ks es kds, tks ys = some ks ∧ H L = some (RawD L (entsN P w es)) ∧ es.map (·.1) = foldN ks ∧ tks kds = some (es.map (·.1)) ∧ DenL K mg (Live ca) H kds (es.map fun x => V.ref x.2.1)
  fits ys := ys.length ≤ CAP ∧ ∃ ks, tks ys = some ks
  keep := by
    rintro ca H ca' H' L ys gL p ⟨ks, es, kds, e, h, f, t, d⟩
    exact ⟨ks, es, kds, e, (p.gKp L gL).trans h, f, t, DenL.mono p.kp _ _ d⟩
  less := by
    rintro xs ys ⟨l, ks, e⟩
    obtain ⟨k1, k2, e1, _, _⟩ := tks_app e
    rw [List.length_append] at l
    exact ⟨Nat.le_trans (Nat.le_add_right _ _) l, k1, e1⟩
end
def dnOf (ys : List D) : Option D := if ys.length ≤ CAP then (match tks ys with
  | some ks => some (.dkn (foldN ks).length)
  | none => none) else none
def mKey (m : ME) : Env → M (List D) := fun env cc => match m env cc with
  | .ok (.d y) c => .ok [y] c
  | _ => .stuck
theorem keys_lie {X : Cx} {pins : List (Addr × Obj)} {σ : L2.St} {H : Hp} {s : Shared} {L : Addr → Prop} (inv : Inv X pins σ H s) : ∀ {kds : List D} {es : List (NestedKey × Addr × Value)}, tks kds = some (es.map (·.1)) → DenL X.K X.mg L H kds (es.map fun x => V.ref x.2.1) → ∀ x ∈ es, (nestedKind X.prog X.w).is s.heap x.1 x.2.1
  | _, [], _, _, x, mem => nomatch mem
  | [], e :: es, t, _, _, _ => nomatch (show some ([] : List NestedKey) = some (e.1 :: es.map (·.1)) from t)
  | kd :: kds, e :: es, t, d, x, mem => by
    obtain ⟨v, vr, q, d1, d2⟩ := d
    rw [List.map_cons] at q
    cases q
    simp only [tks] at t
    split at t
    · rename_i k ks t1 t2
      simp only [List.map_cons, Option.some.injEq, List.cons.injEq] at t
      obtain ⟨rfl, rfl⟩ := t
      obtain ⟨_, is_k, deep⟩ := tk_is t1
      rcases List.mem_cons.mp mem with z | z
      · rw [z]
        exact ⟨nest_of inv kd d1 is_k rfl, deep⟩
      · exact keys_lie inv t2 d2 x z
    · exact nomatch t
theorem nv_leafN {B : Cx} {kx vx : Expr} {mk : ME} {v : V} (room : B.A.units + 65 < cLine) (pk : PEv B W0 kx mk) (pv : PE B vx (tC v)) : PNv B (leafD kx vx B.env) (accN B.prog B.w B.K B.mg) [] (mKey mk) := by
  intro L
  refine (pn_leafD (st := fun y z H R => ∃ es k b kd kds L', y = .ref b ∧ H L = some (RawD L (entsN B.prog B.w es)) ∧ (es.map (·.1)).Nodup ∧ es.length < sizeLine ∧ tks kds = some (es.map (·.1)) ∧ DenL B.K B.mg L' H kds (es.map fun x => V.ref x.2.1) ∧
    tk kd = some k ∧ DenD B.K B.mg L' H kd (.ref b) ∧ ∀ r, R (upd H L (RawD L (entsN B.prog B.w (storedH es k b r))))) pk pv ?_).imp ?_
  · rintro pins s σ H y z u r R inv ry rz ⟨es, k, b, kd, kds, L', rfl, here, once, short, t, d, tkd, dk, go⟩
    cases ry
    obtain ⟨_, is_k, deep⟩ := tk_is tkd
    exact set_nested (Nat.lt_of_le_of_lt (Nat.add_le_add_left (by decide) _) room) inv here once short (keys_lie inv t d) ⟨nest_of inv kd dk is_k rfl, deep⟩ fun s' inv' => ⟨_, inv', go r⟩
  · rintro σ H R ⟨env, ca, cc, ys, zs, c1, he, hc, gL, ⟨ks, es, kds, eK, here, folded, t, d⟩, run, ⟨cap, all, eA⟩, go⟩
    refine ⟨env, ca, cc, he, hc, ?_⟩
    unfold mKey at run
    split at run
    · rename_i kd c2 eM
      rw [eM]
      simp only [DL.R.ok.injEq] at run
      obtain ⟨rfl, rfl⟩ := run
      intro v1 H1 ca1 p hc1 d1
      obtain ⟨k1, k2, e1, e2, rfl⟩ := tks_app eA
      rw [eK] at e1
      cases e1
      simp only [tks] at e2
      split at e2
      · rename_i k kr q1 q2
        cases q2
        cases e2
        obtain ⟨⟨ds, rfl⟩, _, _⟩ := tk_is q1
        obtain ⟨b, us, rfl, _⟩ := id d1
        have here1 : H1 L = some (RawD L (entsN B.prog B.w es)) := (p.gKp L gL).trans here
        have dk : DenL B.K B.mg (Live ca1) H1 kds (es.map fun x => V.ref x.2.1) := DenL.mono p.kp _ _ d
        have g1 : ca1.g L := by rw [p.gEq]; exact gL
        have once : (es.map (·.1)).Nodup := by rw [folded]; exact foldN_once ks
        refine ⟨es, k, b, .tup ds, kds, Live ca1, rfl, here1, once, ?_, t, dk, q1, d1, ?_⟩
        · have a1 := foldN_len ks
          have a2 := tks_len eK
          have a3 := congrArg List.length folded
          rw [List.length_map] at a3
          rw [List.length_append, List.length_singleton] at cap
          rw [sizeLine_eq]
          show _ < CAP
          omega
        · intro r
          have gw : Mn ca1 H1 ca1 (upd H1 L (RawD L (entsN B.prog B.w (storedH es k b r)))) := Mn.gwrite g1
          have gs : Gst L ca H ca1 (upd H1 L (RawD L (entsN B.prog B.w (storedH es k b r)))) := by
            refine ⟨p.toMn.trans gw, p.gEq, ?_⟩
            intro a ne ga
            rw [upd_ne ne]
            exact p.gKp a ga
          refine go σ _ ca1 gs (hc1.gwrite g1 True.intro) ?_ (But.refl _ _)
          by_cases mem : k ∈ es.map (·.1)
          · have both := stored_old (b := b) (r := r) mem
            have ones : (storedH es k b r).map (·.1) = es.map (·.1) := by
              have := congrArg (List.map (·.1)) both
              simpa [List.map_map, Function.comp_def] using this
            have twos : (storedH es k b r).map (fun x => V.ref x.2.1) = es.map fun x => V.ref x.2.1 := by
              have := congrArg (List.map fun p => V.ref p.2) both
              simpa [List.map_map, Function.comp_def] using this
            refine ⟨ks ++ [k], storedH es k b r, kds, eA, upd_same, ?_, by rw [ones]; exact t, by rw [twos]; exact DenL.mono gw.kp _ _ dk⟩
            rw [ones, folded, foldN_snoc, addK, if_pos (by rw [← folded]; exact mem)]
          · rw [stored_new mem] at gw ⊢
            refine ⟨ks ++ [k], _, kds ++ [.tup ds], eA, upd_same, ?_, ?_, ?_⟩
            · rw [List.map_append, folded, foldN_snoc, addK, if_neg (by rw [← folded]; exact mem)]
              rfl
            · rw [List.map_append]
              exact tks_snoc t q1
            · rw [List.map_append]
              exact DenL.mono gw.kp _ _ (dk.snoc d1)
      · exact nomatch e2
    · exact nomatch run
end DL
set_option Elab.async false
set_option linter.all false
set_option maxRecDepth 100000
set_option maxHeartbeats 1900000
/-! CE: dict comprehensions of one clause or two, as values and stored at once. -/
namespace DL
open L2 PyProof.Rows PySem PySem.Spec
/-- a comprehension's block, seen from X -/
abbrev Blks (X : Cx) (scope : Scope) (P : Cx → Prop) : Prop := ∀ (s : Shared) (H : Hp) (C : Addr) (cl : List (Str × Addr)) (fp : List Addr), P (X.blk s H scope (compEnvC scope cl C X.env) fp)
/-- {key: constant for ..}, keys tuples: just counted -/
def mDcN (mi : Env → M (List D)) (vs : List Nat) (G : Tg) (t : Env → M Bool) (m : ME) : ME := mComp mi vs G t (mKey m) dnOf
/-- {key: value for ..}, keys ints or texts -/
def mDp (mi : Env → M (List D)) (vs : List Nat) (G : Tg) (t : Env → M Bool) (m mv : ME) : ME := mComp mi vs G t (mPair m mv) dpOf
def mDp2 (mi : Env → M (List D)) (vs : List Nat) (G : Tg) (t : Env → M Bool) (mi1 : Env → M (List D)) (vs1 : List Nat) (G1 : Tg) (t1 : Env → M Bool) (m mv : ME) : ME := mComp mi vs G t (mCl mi1 vs1 G1 t1 (mPair m mv)) dpOf
def mDc2 (bv : Bool) (mi : Env → M (List D)) (vs : List Nat) (G : Tg) (t : Env → M Bool) (mi1 : Env → M (List D)) (vs1 : List Nat) (G1 : Tg) (t1 : Env → M Bool) (m : ME) : ME := mDp2 mi vs G t mi1 vs1 G1 t1 m (mC (.bl bv))
section
variable {P : Program} {w : World} {K : PySem.W.Frag} {mg : (Str → Option Value)}
theorem readN {Wx : WX} {js vs : List Nat} {mi : Env → M (List D)} {G : Tg} {t : Env → M Bool} {m : ME} {σ : L2.St} {H : Hp} {Q : VK} (hj : ∀ j ∈ js, j ∈ vs) (h : Ev K mg (denV K mg) Wx (mDcN mi vs G t m) σ H Q) :
    tComp (fun L => RawD L []) (Ev K mg (denI K mg) Wx mi) (EvG K mg js G) (Ev K mg denB W0 t) (EvN (accN P w K mg) [] (mKey m)) vs σ H Q := by
  apply comp_read (Ac := accN P w K mg) (ks := []) (u := fun L => RawD L []) hj (fun _ z => (nomatch z)) (fun _ => True.intro) _ _ _ _ h
  · intro ca H L here
    exact ⟨[], [], [], rfl, here, rfl, rfl, rfl⟩
  · intro ys x e
    unfold dnOf at e
    split at e
    · rename_i cap
      split at e
      · rename_i ks q
        exact ⟨cap, ks, q⟩
      · exact nomatch e
    · exact nomatch e
  · rintro ca H L ys x e ⟨ks, es, kds, eK, here, folded, _⟩ out
    unfold dnOf at e
    rw [eK] at e
    split at e
    · cases e
      refine ⟨L, entsN P w es, rfl, out, here, ?_⟩
      rw [← folded, entsN, List.length_map, List.length_map]
    · exact nomatch e
  · rintro ca ca' H L ys mn ⟨ks, es, kds, e, h, f, t, d⟩
    exact ⟨ks, es, kds, e, h, f, t, DenL.mono mn.kp _ _ d⟩
theorem readP {Wx : WX} {js ks vs : List Nat} {mi : Env → M (List D)} {G : Tg} {t : Env → M Bool} {m : Env → M (List (D × D))} {σ : L2.St} {H : Hp} {Q : VK} (hj : ∀ j ∈ js, j ∈ vs) (hk : ∀ j ∈ ks, j ∈ vs) (h : Ev K mg (denV K mg) Wx (mComp mi vs G t m dpOf) σ H Q) :
    tComp (fun _ => .dK []) (Ev K mg (denI K mg) Wx mi) (EvG K mg js G) (Ev K mg denB W0 t) (EvN (accP K mg) ks m) vs σ H Q := by
  apply comp_read (Ac := accP K mg) (u := fun _ => .dK []) hj hk (fun _ => True.intro) _ _ _ _ h
  · intro ca H L here
    exact ⟨[], [], rfl, here, rfl⟩
  · intro ys x e
    unfold dpOf at e
    split at e
    · rename_i ks q
      split at e
      · rename_i cap
        exact ⟨ks, q, cap⟩
      · exact nomatch e
    · exact nomatch e
  · rintro ca H L ys x e ⟨ks, kvs, eK, here, lie⟩ out
    unfold dpOf at e
    rw [eK] at e
    simp only at e
    split at e
    · cases e
      refine ⟨L, kvs.map (·.2), rfl, out, ⟨kvs, here, ?_, rfl⟩, lie.vals⟩
      have := congrArg (List.map keyD) lie.keys
      simpa [List.map_map, Function.comp_def] using this
    · exact nomatch e
  · rintro ca ca' H L ys mn ⟨ks, kvs, e, h, d⟩
    exact ⟨ks, kvs, e, h, d.mono mn.kp⟩
end
section
variable {X : Cx} {Wx : WX} {kx vx tg iter tg1 iter1 : Expr} {ifs ifs1 : List Expr} {scope : Scope} {own : List (Str × Nat)} {pos spos py p2 : Pos} {mi mi1 : Env → M (List D)} {js js1 : List Nat} {G G1 : Tg} {t t1 : Env → M Bool} {m mv : ME} {bv : Bool} {vs1 : List Nat} {i j : Nat} {y : Str}
theorem pv_dcN (room : X.A.units + 65 < cLine) (hcalm : X.calm = true) (hN : X.N.Nodup) (pi : PIv X Wx tg iter mi) (ok : BlkOk X.N X.env.scope scope own) (pg : Blks X scope fun B => PGv B tg js G) (hj : ∀ j ∈ js, j ∈ own.map (·.2)) (pt : Blks X scope fun B => PTsv B W0 ifs t) (pk : Blks X scope fun B => PEv B W0 kx m)
    (fold : ∀ x, foldedSetIterable iter X.env x = pure x := by intro _; rfl) : PEv X Wx (.DictComp kx (.Constant (.bool bv) j p2) [⟨tg, iter, ifs, 0⟩] scope pos) (mDcN mi (own.map (·.2)) G t m) :=
  (pe_comp (e := (.DictComp kx (.Constant (.bool bv) j p2) [⟨tg, iter, ifs, 0⟩] scope pos)) (inner := leafD kx (.Constant (.bool bv) j p2)) (arm_eval_DictComp ..) True.intro rfl hcalm hN ok fold pi (lays_dict fun _ h big => raw_new h big) (fun _ _ _ => rfl) pg pt (fun s H C cl fp L => nv_leafN (B := X.blk s H scope (compEnvC scope cl C X.env) fp) room (pk s H C cl fp) pe_bl L)).imp fun _ _ _ h => readN hj h
theorem sv_dcN (room : X.A.units + 65 < cLine) (hcalm : X.calm = true) (hN : X.N.Nodup) (hy : X.N[i]? = some y) (hyl : X.env.scope.names.lookup y = some .local) (hsw : swapsWith (.DictComp kx (.Constant (.bool bv) j p2) [⟨tg, iter, ifs, 0⟩] scope pos) (some (.Name y py)) spos.line X.env = pure true)
    (pi : PIv X Wx tg iter mi) (ok : BlkOk X.N X.env.scope scope own) (pg : Blks X scope fun B => PGv B tg js G) (hj : ∀ j ∈ js, j ∈ own.map (·.2)) (pt : Blks X scope fun B => PTsv B W0 ifs t) (pk : Blks X scope fun B => PEv B W0 kx m)
    (fold : ∀ x, foldedSetIterable iter X.env x = pure x := by intro _; rfl) : PSv X Wx (.Assign [.Name y py] (.DictComp kx (.Constant (.bool bv) j p2) [⟨tg, iter, ifs, 0⟩] scope pos) spos) (sSet i (mDcN mi (own.map (·.2)) G t m)) :=
  (ps_comp (e := (.DictComp kx (.Constant (.bool bv) j p2) [⟨tg, iter, ifs, 0⟩] scope pos)) (inner := leafD kx (.Constant (.bool bv) j p2)) (fun _ => rfl) True.intro rfl hcalm hN hy hyl hsw ok fold pi (lays_dict fun _ h big => raw_new h big) (fun _ _ _ => rfl) pg pt (fun s H C cl fp L => nv_leafN (B := X.blk s H scope (compEnvC scope cl C X.env) fp) room (pk s H C cl fp) pe_bl L)).imp fun Dn σ H h =>
    readN hj (EvSt.bind h fun env ca w cc v H' he hc d hk => hk _ H' ca (Stp.refl _ _) (he.set d) hc)
theorem pv_dp (hcalm : X.calm = true) (hN : X.N.Nodup) (pi : PIv X Wx tg iter mi) (ok : BlkOk X.N X.env.scope scope own) (pg : Blks X scope fun B => PGv B tg js G) (hj : ∀ j ∈ js, j ∈ own.map (·.2)) (pt : Blks X scope fun B => PTsv B W0 ifs t) (pk : Blks X scope fun B => PEv B W0 kx m) (pv : Blks X scope fun B => PEv B W0 vx mv)
    (fold : ∀ x, foldedSetIterable iter X.env x = pure x := by intro _; rfl) : PEv X Wx (.DictComp kx vx [⟨tg, iter, ifs, 0⟩] scope pos) (mDp mi (own.map (·.2)) G t m mv) :=
  (pe_comp (e := (.DictComp kx vx [⟨tg, iter, ifs, 0⟩] scope pos)) (inner := leafD kx vx) (arm_eval_DictComp ..) True.intro rfl hcalm hN ok fold pi (lays_dict fun _ h big => dk_empty h big) (fun _ _ _ => rfl) pg pt (fun s H C cl fp L => nv_leafP (B := X.blk s H scope (compEnvC scope cl C X.env) fp) (pk s H C cl fp) (pv s H C cl fp) L)).imp fun _ _ _ h => readP (ks := []) hj (fun _ z => (nomatch z)) h
theorem sv_dp (hcalm : X.calm = true) (hN : X.N.Nodup) (hy : X.N[i]? = some y) (hyl : X.env.scope.names.lookup y = some .local) (hsw : swapsWith (.DictComp kx vx [⟨tg, iter, ifs, 0⟩] scope pos) (some (.Name y py)) spos.line X.env = pure true)
    (pi : PIv X Wx tg iter mi) (ok : BlkOk X.N X.env.scope scope own) (pg : Blks X scope fun B => PGv B tg js G) (hj : ∀ j ∈ js, j ∈ own.map (·.2)) (pt : Blks X scope fun B => PTsv B W0 ifs t) (pk : Blks X scope fun B => PEv B W0 kx m) (pv : Blks X scope fun B => PEv B W0 vx mv)
    (fold : ∀ x, foldedSetIterable iter X.env x = pure x := by intro _; rfl) : PSv X Wx (.Assign [.Name y py] (.DictComp kx vx [⟨tg, iter, ifs, 0⟩] scope pos) spos) (sSet i (mDp mi (own.map (·.2)) G t m mv)) :=
  (ps_comp (e := (.DictComp kx vx [⟨tg, iter, ifs, 0⟩] scope pos)) (inner := leafD kx vx) (fun _ => rfl) True.intro rfl hcalm hN hy hyl hsw ok fold pi (lays_dict fun _ h big => dk_empty h big) (fun _ _ _ => rfl) pg pt (fun s H C cl fp L => nv_leafP (B := X.blk s H scope (compEnvC scope cl C X.env) fp) (pk s H C cl fp) (pv s H C cl fp) L)).imp fun Dn σ H h =>
    readP (ks := []) hj (fun _ z => (nomatch z)) (EvSt.bind h fun env ca w cc v H' he hc d hk => hk _ H' ca (Stp.refl _ _) (he.set d) hc)
/-- the second of two clauses -/
theorem nv_second {B : Cx} {α : Type} {Ac : Acc B.K B.mg α} {ks : List Nat} {mx : Env → M (List α)} (quiet : B.xe = fun _ _ => False) (hcalm : B.calm = true) (fold1 : ∀ env x, foldedSetIterable iter1 env x = pure x) (hj1 : ∀ j ∈ js1, j ∈ vs1) (hk : ∀ j ∈ ks, j ∈ vs1) (pi1 : PIv B W0 tg1 iter1 mi1) (pg1 : PGv B tg1 js1 G1) (pt1 : PTsv B W0 ifs1 t1) (pn : PNv B (leafD kx vx B.env) Ac ks mx) :
    PNv B (nextD (.DictComp kx vx [⟨tg, iter, ifs, 0⟩, ⟨tg1, iter1, ifs1, 0⟩] scope pos) iter1 1 B.env) Ac vs1 (mCl mi1 vs1 G1 t1 mx) :=
  nv_clause (inner := leafD kx vx) (idx := 1) (c := ⟨tg1, iter1, ifs1, 0⟩) True.intro quiet hcalm fold1 hj1 hk pi1 pg1 pt1 pn (fun _ _ _ => rfl) rfl rfl
theorem pv_dp2 (hcalm : X.calm = true) (hN : X.N.Nodup) (pi : PIv X Wx tg iter mi) (ok : BlkOk X.N X.env.scope scope own) (hv : ∀ i ∈ vs1, i ∈ own.map (·.2)) (pg : Blks X scope fun B => PGv B tg js G) (hj : ∀ j ∈ js, j ∈ own.map (·.2)) (pt : Blks X scope fun B => PTsv B W0 ifs t)
    (pi1 : Blks X scope fun B => PIv B W0 tg1 iter1 mi1) (pg1 : Blks X scope fun B => PGv B tg1 js1 G1) (hj1 : ∀ j ∈ js1, j ∈ vs1) (pt1 : Blks X scope fun B => PTsv B W0 ifs1 t1) (pk : Blks X scope fun B => PEv B W0 kx m) (pv : Blks X scope fun B => PEv B W0 vx mv)
    (fold : ∀ x, foldedSetIterable iter X.env x = pure x := by intro _; rfl) (fold1 : ∀ env x, foldedSetIterable iter1 env x = pure x := by intro _ _; rfl) :
    PEv X Wx (.DictComp kx vx [⟨tg, iter, ifs, 0⟩, ⟨tg1, iter1, ifs1, 0⟩] scope pos) (mDp2 mi (own.map (·.2)) G t mi1 vs1 G1 t1 m mv) :=
  (pe_comp (e := (.DictComp kx vx [⟨tg, iter, ifs, 0⟩, ⟨tg1, iter1, ifs1, 0⟩] scope pos)) (inner := nextD (.DictComp kx vx [⟨tg, iter, ifs, 0⟩, ⟨tg1, iter1, ifs1, 0⟩] scope pos) iter1 1) (arm_eval_DictComp ..) True.intro rfl hcalm hN ok fold pi (lays_dict fun _ h big => dk_empty h big) (fun _ _ _ => rfl) pg pt
    (fun s H C cl fp L => nv_second (B := X.blk s H scope (compEnvC scope cl C X.env) fp) rfl hcalm fold1 hj1 (ks := []) (fun _ z => (nomatch z)) (pi1 s H C cl fp) (pg1 s H C cl fp) (pt1 s H C cl fp) (nv_leafP (B := X.blk s H scope (compEnvC scope cl C X.env) fp) (pk s H C cl fp) (pv s H C cl fp)) L)).imp fun _ _ _ h => readP hj hv h
theorem sv_dp2 (hcalm : X.calm = true) (hN : X.N.Nodup) (hy : X.N[i]? = some y) (hyl : X.env.scope.names.lookup y = some .local) (hsw : swapsWith (.DictComp kx vx [⟨tg, iter, ifs, 0⟩, ⟨tg1, iter1, ifs1, 0⟩] scope pos) (some (.Name y py)) spos.line X.env = pure true)
    (pi : PIv X Wx tg iter mi) (ok : BlkOk X.N X.env.scope scope own) (hv : ∀ i ∈ vs1, i ∈ own.map (·.2)) (pg : Blks X scope fun B => PGv B tg js G) (hj : ∀ j ∈ js, j ∈ own.map (·.2)) (pt : Blks X scope fun B => PTsv B W0 ifs t)
    (pi1 : Blks X scope fun B => PIv B W0 tg1 iter1 mi1) (pg1 : Blks X scope fun B => PGv B tg1 js1 G1) (hj1 : ∀ j ∈ js1, j ∈ vs1) (pt1 : Blks X scope fun B => PTsv B W0 ifs1 t1) (pk : Blks X scope fun B => PEv B W0 kx m) (pv : Blks X scope fun B => PEv B W0 vx mv)
    (fold : ∀ x, foldedSetIterable iter X.env x = pure x := by intro _; rfl) (fold1 : ∀ env x, foldedSetIterable iter1 env x = pure x := by intro _ _; rfl) :
    PSv X Wx (.Assign [.Name y py] (.DictComp kx vx [⟨tg, iter, ifs, 0⟩, ⟨tg1, iter1, ifs1, 0⟩] scope pos) spos) (sSet i (mDp2 mi (own.map (·.2)) G t mi1 vs1 G1 t1 m mv)) :=
  (ps_comp (e := (.DictComp kx vx [⟨tg, iter, ifs, 0⟩, ⟨tg1, iter1, ifs1, 0⟩] scope pos)) (inner := nextD (.DictComp kx vx [⟨tg, iter, ifs, 0⟩, ⟨tg1, iter1, ifs1, 0⟩] scope pos) iter1 1) (fun _ => rfl) True.intro rfl hcalm hN hy hyl hsw ok fold pi (lays_dict fun _ h big => dk_empty h big) (fun _ _ _ => rfl) pg pt
    (fun s H C cl fp L => nv_second (B := X.blk s H scope (compEnvC scope cl C X.env) fp) rfl hcalm fold1 hj1 (ks := []) (fun _ z => (nomatch z)) (pi1 s H C cl fp) (pg1 s H C cl fp) (pt1 s H C cl fp) (nv_leafP (B := X.blk s H scope (compEnvC scope cl C X.env) fp) (pk s H C cl fp) (pv s H C cl fp)) L)).imp fun Dn σ H h =>
    readP hj hv (EvSt.bind h fun env ca w cc v H' he hc d hk => hk _ H' ca (Stp.refl _ _) (he.set d) hc)
end
end DL
set_option Elab.async false
set_option linter.all false
set_option maxRecDepth 100000
set_option maxHeartbeats 1900000
/-! DE: enumerate of a tuple: the library's walk over new pairs, brought into the layer. -/
namespace PySem
/-- enumerate's object over a begun iterator at it -/
def enumObj (it : Addr) : Obj := { cls := .type "enumerate", data := .fields #[.none, .bool false, .ref it, rawInt 0, .none, .none] }
/-- the making of enumerate of one thing -/
theorem make_enum {v : Value} {o : Obj} {T : Heap → Prop} (begin : Begins v o T) :
    Meets (Builtin.«enumerate.__new__» ⟨[.type "enumerate", v], []⟩) (fun _ after s => T s.heap ∧ after (.ok (.ret (.ref (s.heap.push o).objs.size))) { s with heap := (s.heap.push o).push (enumObj s.heap.objs.size) }) := by
  apply Meets.of_wp
  rintro prog w A R ⟨h0, gens, drawn, toks, os⟩ ⟨there, goal⟩
  have sub := sub_enumerate
  have iterates : ∀ {A' : Around} {E Q : Value → Shared → Prop}, Q (.ref h0.objs.size) ⟨h0.push o, gens, drawn, toks, os⟩ → wpAny (model prog w) A' (pyIter v) Q E ⟨h0, gens, drawn, toks, os⟩ := by
    intro A' E Q q
    exact begin.iter prog w A' E _ Q there q
  wp_walk using iterates
  apply wpAny_stack_any
  intro acts
  apply wpAny_pure
  split
  · rename_i c _ _ _ _ _
    rcases Bool.eq_false_or_eq_true (c == Value.type "enumerate") with yes | no
    · rw [yes]
      wp_walk using iterates
      exact ⟨_, rfl, goal⟩
    · rw [no]
      wp_walk using iterates
      exact ⟨_, rfl, goal⟩
  · wp_walk using iterates
    exact ⟨_, rfl, goal⟩
/-- enumerate(v) makes an iterator and its own object -/
theorem call_enum {prog : Program} {w : World} {A : Around} {E Q : Value → Shared → Prop} {s : Shared} {v : Value} {o : Obj} {T : Heap → Prop} (begin : Begins v o T) (there : T s.heap)
    (next : ∀ h', IsEnum h' (s.heap.objs.size + 1) s.heap.objs.size 0 .none → h'.get? s.heap.objs.size = some o → (∀ b u, s.heap.get? b = some u → h'.get? b = some u) → Q (.ref (s.heap.objs.size + 1)) { s with heap := h' }) :
    wpAny (model prog w) A (call (.type "enumerate") [v]) Q E s := by
  have size1 : (s.heap.push o).objs.size = s.heap.objs.size + 1 := Heap.size_push ..
  have made : IsEnum ((s.heap.push o).push (enumObj s.heap.objs.size)) (s.heap.objs.size + 1) s.heap.objs.size 0 .none := by
    rw [← size1]
    exact Heap.get?_push_size (s.heap.push o) rfl
  have old := next _ made (Heap.get?_push_of_some _ (Heap.get?_push_size _ begin.free)) fun b u at_b => Heap.get?_push_of_some _ (Heap.get?_push_of_some _ at_b)
  apply callType_new F.called_enumerate (by decide) (F.typeCall_enumerate_1 _) (F.newCall_enumerate_1 _) (fun obj => F.args_object_init_2 obj _) F.entry_enumerate_new (make_enum begin)
  refine ⟨there, ?_⟩
  rw [size1]
  exact ⟨⟨_, made, rfl⟩, old⟩
end PySem
namespace L2
open PyProof.Rows PySem PySem.Spec
/-- what enumerate of the tuple at a hands out -/
def IteT (K : PySem.W.Frag) (a : Addr) : It where
  go i H := ∃ (xs : List V) (x : V), SqT K H a xs ∧ xs[i]? = some x
  yld i H v H' := ∃ T x, v = .ref T ∧ H T = none ∧ H' = upd H T (.tup [.int (i : Nat), x]) ∧ ∀ xs, SqT K H a xs → xs[i]? = some x
  stop i H := ∃ xs : List V, SqT K H a xs ∧ xs.length ≤ i
/-- the two objects behind it -/
def EnumAt (a e it : Addr) (i : Nat) (h : Heap) : Prop := (∃ old, IsEnum h e it (0 + ((i : Nat) : Int)) old) ∧ h.IsTupleIter it a i ∧ e ≠ it ∧ a ≠ it ∧ a ≠ e
theorem turn_enumT {P : Program} {w : World} {K : PySem.W.Frag} {elts : List Expr} {kk : Nat} {tpos : Pos} (a e it : Addr) : Turn P w K (.Tuple elts kk tpos) (IteT K a) [e, it] e (EnumAt a e it) := by
  have two : ∀ {b : Addr}, b ∈ [e, it] → b = e ∨ b = it := by
    intro b mem
    simpa using mem
  constructor
  · exact List.mem_cons_self
  · rintro i h ⟨⟨_, en⟩, ⟨_, at_it, _, dt⟩, _⟩ b mem
    rcases two mem with rfl | rfl
    · refine ⟨_, en, ?_⟩
      intro _ z
      exact nomatch z
    · refine ⟨_, at_it, ?_⟩
      intro _ z
      exact nomatch dt.symm.trans z
  · rintro i h h' ⟨⟨old, en⟩, tup, apart⟩ keep
    exact ⟨⟨old, keep e List.mem_cons_self _ en⟩, tup.at (keep it (List.mem_cons_of_mem _ List.mem_cons_self)), apart⟩
  · rintro X rfl rfl rfl calm i pins s σ H E inv foot ⟨en, tup, ne1, ne2, ne3⟩ ⟨xs, x, known, at_i⟩
    obtain ⟨its, rel, lies, _⟩ := inv.tuple known
    obtain ⟨u, at_u, ru⟩ := rel.get at_i
    have lt : i < its.toArray.size := by simpa using (List.getElem?_eq_some_iff.mp at_u).1
    have walk := GoesN.enumFrom (prog := X.prog) (w := X.w) (A := X.A) (elts := elts) (x1 := kk) (pos := tpos) 0 (Draws.tuple (prog := X.prog) (w := X.w) (A := X.A.in1) (inv.ok.hd calm) it a ne2 its.toArray) e ne1 (by simpa using ⟨ne1, Ne.symm ne3⟩) (by simp)
    refine walk.goes i s _ E lt ⟨en, tup, lies⟩ ?_
    rintro v h' tk ⟨T, t, u', rfl, high, drawn, pair⟩ ⟨en', tup', _⟩ kept _
    have same : u' = u := Option.some.inj ((by simpa using drawn.symm : some u' = its[i]?).trans at_u)
    subst same
    have off : H T = none := inv.hok.fresh high
    have lies2 : ObjOk X.prog X.w (upd H T (.tup [.int (i : Nat), x])) h' T (.tup [.int (i : Nat), x]) := by
      rw [Int.zero_add] at pair
      exact ⟨show 2 ≤ sizeLine by decide, [.int i t, u'], .cons ⟨_, rfl⟩ (.cons ru .nil), pair⟩
    refine ⟨.ref T, _, inv.turnedNew kept foot high lies2, rfl, ⟨T, x, rfl, off, rfl, ?_⟩, ⟨en', tup', ne1, ne2, ne3⟩, ?_⟩
    · intro ys also
      rw [inv.tuple_inj also known]
      exact at_i
    · intro b mem
      have below : b < s.heap.objs.size := by
        rcases two mem with rfl | rfl
        · exact Heap.lt_size en.choose_spec
        · exact Heap.lt_size tup.choose_spec.1
      rw [upd_ne (Nat.ne_of_lt (Nat.lt_of_lt_of_le below high))]
      exact (foot b mem).1
  · rintro X rfl rfl rfl calm i pins s σ H E inv foot ⟨en, tup, ne1, ne2, ne3⟩ ⟨xs, known, over⟩
    obtain ⟨its, rel, lies, _⟩ := inv.tuple known
    obtain ⟨a0, a1, a2, a3, a4, a5⟩ := foot it (List.mem_cons_of_mem _ List.mem_cons_self)
    have none_left : its.toArray[i]? = none := by
      rw [List.getElem?_toArray, List.getElem?_eq_none]
      rw [← rel.length]
      exact over
    obtain ⟨old, en⟩ := en
    have ty : s.TypeIs (.ref e) "enumerate" := ⟨_, en, rfl⟩
    unfold pyNext
    apply wpAny_bind
    apply wpAny_attempt
    apply wpAny_callSpecial?_slot (name := Str.ofString "__next__") ty F.slot_enumerate_next
    apply wpAny_call_entry F.slot_enumerate_next ty F.entry_enumerate_next _ (F.args_enumerate_next_1 _)
    show wpAny _ _ (bind (field (.ref e) 2) _) _ _ s
    apply wpAny_bind
    apply wpAny_field en rfl (x := .ref it) rfl
    apply wpAny_bind
    apply wpAny_nextOf_tuple_end (A := X.A.in1) (inv.ok.hd calm) tup lies none_left
    rintro h' y kept ⟨oy, at_y, cl⟩
    apply wpAny_bind
    refine wpAny_isInstance (b := true) (T := "StopIteration") ⟨oy, at_y, cl⟩ isSubtype_stop (wpAny_pure ?_)
    exact ⟨rfl, inv.turned (t' := s.toks) kept a0 a1 a3 a4 a5⟩
  · rintro A i s Q E ⟨⟨old, en⟩, _⟩ q
    exact wpAny_pyIter_enum en q
/-- enumerate of a list or a tuple -/
def iEnumA (K : PySem.W.Frag) (ta : TA) : TI := fun σ H R => ta σ H fun vs H1 => ∃ a xs, vs = [.ref a] ∧ ((SqL K H1 a xs ∧ R (Ite K a) H1) ∨ (SqT K H1 a xs ∧ R (IteT K a) H1))
theorem pi_enumA {X : Cx} {e : Expr} {ta : TA} {p pos tpos : Pos} {elts : List Expr} {kk : Nat} (hg : Gl X "enumerate") (hm : X.mg "enumerate" = none) (pa : PA X [e] ta) (hs : OneAt X e := by rfl) :
    PI X (.Tuple elts kk tpos) (.Call (.Name "enumerate" p) [e] [] pos) (iEnumA X.K ta) := by
  constructor
  intro pins s σ H R inv left
  refine Call_ (ld_blt inv hg hm boot_enumerate ?_)
  apply PyProof.Rows.callWith_type1 _ hs rfl
  apply wpAny_mono (pa.run pos pins s σ H _ inv left) _ (fun _ _ f => f)
  rintro us s1 ⟨vs, H1, inv1, rels, a, xs, rfl, which⟩
  cases rels with
  | cons r rr =>
    cases rr
    cases r
    have fresh : ∀ b ∈ [s1.heap.objs.size + 1, s1.heap.objs.size], FpOk X pins H1 b := by
      intro b mem
      have high : s1.heap.objs.size ≤ b := by
        simp only [List.mem_cons, List.not_mem_nil, or_false] at mem
        omega
      exact inv1.fpOk high (inv1.hok.fresh high)
    rcases which with ⟨known, q⟩ | ⟨known, q⟩
    · obtain ⟨its, rel, lies, _⟩ := inv1.list known
      apply call_enumerate_list lies.isList
      intro h' en iter _ kept
      apply wpAny_pyIter_enum en
      exact ⟨_, _, _, _, H1, rfl, inv1.kept (t' := s1.toks) kept, turn_enum a _ _, ⟨⟨.none, en⟩, iter, Nat.succ_ne_self _⟩, fresh, q⟩
    · obtain ⟨its, rel, lies, _⟩ := inv1.tuple known
      have isT : s1.heap.IsTuple a its.toArray := lies
      have low : a < s1.heap.objs.size := Heap.lt_size isT.choose_spec.1
      apply call_enum (begins_tuple a its.toArray) isT
      intro h' en iter kept
      apply wpAny_pyIter_enum en
      exact ⟨_, _, _, _, H1, rfl, inv1.kept (t' := s1.toks) kept, turn_enumT a _ _, ⟨⟨.none, en⟩, ⟨_, iter, rfl, rfl⟩, Nat.succ_ne_self _, Nat.ne_of_lt low, Nat.ne_of_lt (Nat.lt_succ_of_lt low)⟩, fresh, q⟩
theorem walk_enumT {K : PySem.W.Frag} {a : Addr} {xs : List V} : Walk (IteT K a) xs.length (fun H => SqT K H a xs) (YPair (fun i => some (.int (i : Nat))) (fun i => xs[i]?)) := by
  constructor
  · intro i H lt known
    exact ⟨xs, xs[i], known, List.getElem?_eq_getElem lt⟩
  · intro H known
    exact ⟨xs, known, Nat.le_refl _⟩
  · rintro i H v H' _ known ⟨T, x, e1, e2, e3, all⟩
    exact ⟨T, .int (i : Nat), x, e1, e2, e3, rfl, all xs known⟩
end L2
set_option Elab.async false
set_option linter.all false
set_option maxRecDepth 100000
set_option maxHeartbeats 1900000
/-! DZ: dict(zip(a, b)) of two tuples. -/
namespace PySem
/-- where zip of the tuples l1 and l2 stands: i pairs were given out -/
structure TwoAt (l1 l2 TI i1 i2 : Addr) (xs ys : Array Value) (i : Nat) (h : Heap) : Prop where
  its : IsPair h TI (.ref i1) (.ref i2)
  fst : h.IsTupleIter i1 l1 i
  snd : h.IsTupleIter i2 l2 i
  one : h.IsTuple l1 xs
  two : h.IsTuple l2 ys
theorem TwoAt.later {l1 l2 TI i1 i2 : Addr} {xs ys : Array Value} {i : Nat} {h h' : Heap} (t : TwoAt l1 l2 TI i1 i2 xs ys i h) (k : ∀ b ∈ [TI, i1, i2, l1, l2], ∀ o, h.get? b = some o → h'.get? b = some o) : TwoAt l1 l2 TI i1 i2 xs ys i h' :=
  ⟨k TI (by simp) _ t.its, t.fst.at (k i1 (by simp)), t.snd.at (k i2 (by simp)), t.one.at (k l1 (by simp)), t.two.at (k l2 (by simp))⟩
/-- all but z, i1, i2 stand -/
def Rest (z i1 i2 : Addr) (h h' : Heap) : Prop := ∀ c o, c ≠ z → c ≠ i1 → c ≠ i2 → h.get? c = some o → h'.get? c = some o
section
variable {prog : Program} {w : World} {A : Around} {E : Value → Shared → Prop} {s : Shared} {z TI TO T i1 i2 l1 l2 : Addr} {f : Bool} {oT : Obj} {i : Nat} {xs ys : Array Value}
/-- next of zip, up to the two draws, while the pair of before stands -/
theorem zip_to_draws {Q : Fin → Shared → Prop} (hz : IsZipHeld s.heap z TI TO T f) (old : s.heap.get? T = some oT) (t : IsPair s.heap TI (.ref i1) (.ref i2))
    (go : ∀ h', IsZipHeld h' z TI TO T true → Heap.SameBut z s.heap h' → wpAny (model prog w) A (Builtin.SmallTypes.nextOf (.ref i1)) (fun x s1 => wpAny (model prog w) A (Builtin.SmallTypes.nextOf (.ref i2)) (fun y s2 => Q (.done (.ret (.ref s2.heap.objs.size))) { s2 with heap := s2.heap.push { cls := .type "tuple", data := .seq #[x, y] } }) E s1) E { s with heap := h' }) : wpAny (model prog w) A (Builtin.«zip.__next__» ⟨[.ref z], []⟩) Q E s := by
  have field2 := fun {R : Value → Shared → Prop} => wpAny_field (M := model prog w) (A := A) (E := E) (s := s) (Q := R) (i := 2) hz rfl (x := .bool false) rfl
  have field3 := fun {R : Value → Shared → Prop} => wpAny_field (M := model prog w) (A := A) (E := E) (s := s) (Q := R) (i := 3) hz rfl (x := .ref TI) rfl
  refine wpAny_bind (m := field (.ref z) 2) (field2 (wpAny_bind (m := field (.ref z) 3) (field3 (wpAny_bind (wpAny_seqItems t rfl ?_)))))
  refine wpAny_bind (m := Builtin.SmallTypes.ownedTupleIsFree (.ref z)) (wpAny_tupleHeld_zip hz old ?_)
  intro h1 hz1 same1
  rw [if_neg (by decide : ¬ false = true)]
  apply wpAny_bind
  rw [← Array.forIn_toList]
  simp only [List.forIn_nil, List.forIn_cons]
  apply wpAny_bind; apply wpAny_bind; apply wpAny_holding
  refine wpAny_bind (m := Builtin.SmallTypes.nextOf (.ref i1)) (wpAny_mono (go h1 hz1 same1) ?_ fun _ _ e => e)
  intro x s1 more
  apply wpAny_pure; apply wpAny_pure
  apply wpAny_bind; apply wpAny_bind; apply wpAny_holding
  refine wpAny_bind (m := Builtin.SmallTypes.nextOf (.ref i2)) (wpAny_mono more ?_ fun _ _ e => e)
  intro y s2 fin
  apply wpAny_pure; apply wpAny_pure; apply wpAny_pure
  refine wpAny_bind (m := newTuple [x, y]) (wpAny_newTuple (wpAny_pure fin))
theorem held_item {x y : Value} {Q : Option Value → Shared → Prop} (D : ZipApart z TI TO i1 i2 l1 l2) (hz : IsZipHeld s.heap z TI TO T f) (old : s.heap.get? T = some oT) (t : TwoAt l1 l2 TI i1 i2 xs ys i s.heap) (ex : xs[i]? = some x) (ey : ys[i]? = some y)
    (go : ∀ h', IsZipHeld h' z TI TO T true → TwoAt l1 l2 TI i1 i2 xs ys (i + 1) h' → IsPair h' s.heap.objs.size x y → Rest z i1 i2 s.heap h' → Q (some (.ref s.heap.objs.size)) { s with heap := h' }) : wpAny (model prog w) A (pyNext (.ref z)) Q E s := by
  have ty : s.TypeIs (.ref z) "zip" := ⟨_, hz, rfl⟩
  have inner : ∀ {E' : Value → Shared → Prop}, wpAny (model prog w) A.in1 (Builtin.«zip.__next__» ⟨[.ref z], []⟩) (fun fin s' => ∃ v, fin = .done (.ret v) ∧ Q (some v) s') E' s := by
    intro E'
    apply zip_to_draws hz old t.its
    intro h1 hz1 same1
    have keep1 : ∀ {b : Addr} {o : Obj}, b ≠ z → s.heap.get? b = some o → h1.get? b = some o := fun ne at_b => (same1.2 _ ne).trans at_b
    apply RZ.nextOf_tuple_item (t.fst.at fun _ => keep1 D.i1z) (t.one.at fun _ => keep1 D.l1z) ex
    intro h2 fst2 same2
    have keep2 : ∀ {b : Addr} {o : Obj}, b ≠ i1 → h1.get? b = some o → h2.get? b = some o := fun ne at_b => (same2.2 _ ne).trans at_b
    apply RZ.nextOf_tuple_item (t.snd.at fun _ e => keep2 (Ne.symm D.i12) (keep1 D.i2z e)) (t.two.at fun _ e => keep2 D.l2i1 (keep1 D.l2z e)) ey
    intro h3 snd3 same3
    have keep3 : ∀ {b : Addr} {o : Obj}, b ≠ i2 → h2.get? b = some o → h3.get? b = some o := fun ne at_b => (same3.2 _ ne).trans at_b
    have size3 : h3.objs.size = s.heap.objs.size := same3.1.trans (same2.1.trans same1.1)
    have rest : Rest z i1 i2 s.heap h3 := fun c o a b d at_c => keep3 d (keep2 b (keep1 a at_c))
    have up : ∀ {b : Addr} {o : Obj}, h3.get? b = some o → (h3.push { cls := .type "tuple", data := .seq #[x, y] }).get? b = some o := fun at_b => Heap.get?_push_of_some _ at_b
    have out := go (h3.push { cls := .type "tuple", data := .seq #[x, y] }) (up (keep3 (Ne.symm D.i2z) (keep2 (Ne.symm D.i1z) hz1)))
      ⟨up (rest TI _ D.TIz D.TIi1 D.TIi2 t.its), fst2.at fun _ e => up (keep3 D.i12 e), snd3.at fun _ e => up e, t.one.at fun _ e => up (rest l1 _ D.l1z D.l1i1 D.l1i2 e), t.two.at fun _ e => up (rest l2 _ D.l2z D.l2i1 D.l2i2 e)⟩
      (by rw [← size3]; exact Heap.get?_push_size _ rfl) (fun c o a b d at_c => up (rest c o a b d at_c))
    rw [← size3] at out
    exact ⟨_, rfl, out⟩
  unfold pyNext
  apply wpAny_bind; apply wpAny_attempt
  apply wpAny_callSpecial?_slot (name := Str.ofString "__next__") ty F.slot_zip_next
  refine wpAny_call_entry F.slot_zip_next ty F.entry_zip_next (wpAny_mono inner ?_ fun _ _ e => e) (F.args_zip_next_1 _)
  rintro fin s' ⟨v, rfl, q⟩
  exact ⟨v, rfl, wpAny_pure q⟩
theorem held_end {Q : Option Value → Shared → Prop} (calm : A.handled = none) (D : ZipApart z TI TO i1 i2 l1 l2) (hz : IsZipHeld s.heap z TI TO T f) (old : s.heap.get? T = some oT) (t : TwoAt l1 l2 TI i1 i2 xs ys i s.heap) (over : xs[i]? = none ∨ ys[i]? = none)
    (go : ∀ h', Rest z i1 i2 s.heap h' → Q none { s with heap := h' }) : wpAny (model prog w) A (pyNext (.ref z)) Q E s := by
  have ty : s.TypeIs (.ref z) "zip" := ⟨_, hz, rfl⟩
  have inner : wpAny (model prog w) A.in1 (Builtin.«zip.__next__» ⟨[.ref z], []⟩) (fun _ _ => False) (fun e s' => ∃ h' y, e = .ref y ∧ s' = { s with heap := h' } ∧ Rest z i1 i2 s.heap h' ∧ ∃ o, h'.get? y = some o ∧ o.cls = .type "StopIteration") s := by
    apply zip_to_draws hz old t.its
    intro h1 hz1 same1
    have keep1 : ∀ {b : Addr} {o : Obj}, b ≠ z → s.heap.get? b = some o → h1.get? b = some o := fun ne at_b => (same1.2 _ ne).trans at_b
    cases ex : xs[i]? with
    | none =>
      apply RZ.nextOf_tuple_end (A := A.in1) calm (t.fst.at fun _ => keep1 D.i1z) (t.one.at fun _ => keep1 D.l1z) ex
      intro h2 y kept stop
      exact ⟨h2, y, rfl, rfl, fun c o a b _ at_c => kept c o b (keep1 a at_c), stop⟩
    | some x =>
      have ey : ys[i]? = none := over.resolve_left fun q => nomatch ex.symm.trans q
      apply RZ.nextOf_tuple_item (t.fst.at fun _ => keep1 D.i1z) (t.one.at fun _ => keep1 D.l1z) ex
      intro h2 fst2 same2
      have keep2 : ∀ {b : Addr} {o : Obj}, b ≠ i1 → h1.get? b = some o → h2.get? b = some o := fun ne at_b => (same2.2 _ ne).trans at_b
      apply RZ.nextOf_tuple_end (A := A.in1) calm (t.snd.at fun _ e => keep2 (Ne.symm D.i12) (keep1 D.i2z e)) (t.two.at fun _ e => keep2 D.l2i1 (keep1 D.l2z e)) ey
      intro h3 y kept stop
      exact ⟨h3, y, rfl, rfl, fun c o a b d at_c => kept c o d (keep2 b (keep1 a at_c)), stop⟩
  unfold pyNext
  apply wpAny_bind; apply wpAny_attempt
  apply wpAny_callSpecial?_slot (name := Str.ofString "__next__") ty F.slot_zip_next
  refine wpAny_call_entry F.slot_zip_next ty F.entry_zip_next (wpAny_mono inner (fun _ _ z => z.elim) ?_) (F.args_zip_next_1 _)
  rintro e s' ⟨h', y, rfl, rfl, rest, o, at_y, cl⟩
  refine wpAny_bind (wpAny_isInstance (b := true) (T := "StopIteration") ⟨o, at_y, cl⟩ isSubtype_stop (wpAny_pure ?_))
  exact go h' rest
end
/-- zip's object and the pair that it gave out, if it did -/
def ZipSt (z TI TO i1 i2 d : Addr) (h : Heap) : Prop := (IsZip h z TI TO .none ∧ ∃ a b, IsPair h TO a b) ∨ ∃ T f oT, IsZipHeld h z TI TO T f ∧ h.get? T = some oT ∧ T ≠ z ∧ T ≠ i1 ∧ T ≠ i2 ∧ T ≠ d
/-- zip of two tuples, as what dict() takes -/
theorem pairs_zipT {prog : Program} {w : World} (z TI TO i1 i2 l1 l2 : Addr) (D : ZipApart z TI TO i1 i2 l1 l2) (xs ys : Array Value) :
    PairArg prog w "zip" z [z, TI, TO, i1, i2, l1, l2] [z, TO, i1, i2] (min xs.size ys.size) (fun i k v => xs[i]? = some k ∧ ys[i]? = some v) (fun h => IsZip h z TI TO .none ∧ (∃ a b, IsPair h TO a b) ∧ TwoAt l1 l2 TI i1 i2 xs ys 0 h) := by
  have sub : ∀ b ∈ [TI, i1, i2, l1, l2], b ∈ [z, TI, TO, i1, i2, l1, l2] := by
    intro b
    simp only [List.mem_cons, List.not_mem_nil, or_false]
    rintro (e | e | e | e | e) <;> simp [e]
  constructor
  case type => exact fun s at_z => ⟨_, at_z.1, rfl⟩
  case notDict => decide
  case keep =>
    rintro h h' ⟨hz, ⟨a, b, to⟩, t⟩ k
    exact ⟨k _ _ hz, ⟨a, b, k _ _ to⟩, t.later fun c _ o => k c o⟩
  case there =>
    rintro h ⟨hz, ⟨a, b, to⟩, t⟩ c mem
    simp only [List.mem_cons, List.not_mem_nil, or_false] at mem
    rcases mem with e | e | e | e | e | e | e <;> subst e
    · exact ⟨_, hz⟩
    · exact ⟨_, t.its⟩
    · exact ⟨_, to⟩
    · exact ⟨_, t.fst.choose_spec.1⟩
    · exact ⟨_, t.snd.choose_spec.1⟩
    · exact ⟨_, t.one.choose_spec.1⟩
    · exact ⟨_, t.two.choose_spec.1⟩
  case sub =>
    intro b
    simp only [List.mem_cons, List.not_mem_nil, or_false]
    rintro (e | e | e | e) <;> simp [e]
  case noKeys => exact fun A s Q E calm at_z q => getAttrOr_miss_zip at_z.1 rfl rfl rfl zip_no_keys (by decide +kernel) calm q
  case iter =>
    rintro A s d Q E calm ⟨hz, ⟨a, b, to⟩, t⟩ low out q
    have ne : ∀ {c : Addr}, c ∈ [z, TI, TO, i1, i2, l1, l2] → c ≠ d := fun mem e => out (e ▸ mem)
    refine wpAny_pyIter_zip hz (q z [z, TO, i1, i2] (fun i h => TwoAt l1 l2 TI i1 i2 xs ys i h ∧ ZipSt z TI TO i1 i2 d h) s.heap s.toks ?_ ⟨t, .inl ⟨hz, a, b, to⟩⟩ (fun _ _ e => e) fun b mem => .inl mem)
    constructor
    case off =>
      intro mem
      refine out ?_
      simp only [List.mem_cons, List.not_mem_nil, or_false] at mem ⊢
      rcases mem with e | e | e | e <;> simp [e]
    case frame =>
      rintro i h h' ⟨t, st⟩ k
      refine ⟨t.later fun c mem o => k c o (ne (sub c mem)), ?_⟩
      rcases st with ⟨hz, a, b, to⟩ | ⟨T, f, oT, hz, old, n1, n2, n3, n4⟩
      · exact .inl ⟨k _ _ (ne (by simp)) hz, a, b, k _ _ (ne (by simp)) to⟩
      · exact .inr ⟨T, f, oT, k _ _ (ne (by simp)) hz, k _ _ n4 old, n1, n2, n3, n4⟩
    case item =>
      rintro i s1 Q1 E1 lt ⟨t, st⟩ small next
      obtain ⟨x, ex⟩ : ∃ x, xs[i]? = some x := ⟨_, Array.getElem?_eq_getElem (Nat.lt_of_lt_of_le lt (Nat.min_le_left ..))⟩
      obtain ⟨y, ey⟩ : ∃ y, ys[i]? = some y := ⟨_, Array.getElem?_eq_getElem (Nat.lt_of_lt_of_le lt (Nat.min_le_right ..))⟩
      have new : ∀ {c : Addr} {o : Obj}, s1.heap.get? c = some o → s1.heap.objs.size ≠ c := fun at_c => Nat.ne_of_gt (Heap.lt_size at_c)
      rcases st with ⟨hz, a, b, to⟩ | ⟨T, f, oT, hz, old, n1, n2, n3, n4⟩
      · apply RZ.pyNext_zipT_item D hz t.its to t.fst t.snd t.one t.two ex ey
        intro h' held _ fst' snd' pair _ kept
        have rest : ∀ c o, c ≠ z → c ≠ TO → c ≠ i1 → c ≠ i2 → s1.heap.get? c = some o → h'.get? c = some o := kept
        apply next s1.heap.objs.size _ _ h' s1.toks ⟨ex, ey⟩ (.inl ⟨_, pair, rfl, _, rfl⟩)
        · refine ⟨⟨rest _ _ D.TIz D.TITO D.TIi1 D.TIi2 t.its, fst', snd', t.one.at fun o => rest l1 o D.l1z D.l1TO D.l1i1 D.l1i2, t.two.at fun o => rest l2 o D.l2z D.l2TO D.l2i1 D.l2i2⟩, .inr ⟨_, false, _, held, pair, new hz, new t.fst.choose_spec.1, new t.snd.choose_spec.1, Nat.ne_of_gt small⟩⟩
        · intro c o far at_c
          simp only [List.mem_cons, List.not_mem_nil, or_false, not_or] at far
          exact rest c o far.1 far.2.1 far.2.2.1 far.2.2.2 at_c
      · apply held_item D hz old t ex ey
        intro h' held t' pair rest
        apply next s1.heap.objs.size _ _ h' s1.toks ⟨ex, ey⟩ (.inl ⟨_, pair, rfl, _, rfl⟩) ⟨t', .inr ⟨T, true, oT, held, rest T oT n1 n2 n3 old, n1, n2, n3, n4⟩⟩
        intro c o far at_c
        simp only [List.mem_cons, List.not_mem_nil, or_false, not_or] at far
        exact rest c o far.1 far.2.2.1 far.2.2.2 at_c
    case done =>
      rintro s1 Q1 E1 ⟨t, st⟩ next
      have over : xs[min xs.size ys.size]? = none ∨ ys[min xs.size ys.size]? = none := by
        by_cases le : xs.size ≤ ys.size
        · rw [Nat.min_eq_left le]
          exact .inl (Array.getElem?_eq_none (Nat.le_refl _))
        · rw [Nat.min_eq_right (Nat.le_of_not_le le)]
          exact .inr (Array.getElem?_eq_none (Nat.le_refl _))
      rcases st with ⟨hz, a, b, to⟩ | ⟨T, f, oT, hz, old, n1, n2, n3, n4⟩
      · apply RZ.pyNext_zipT_end calm D hz t.its to t.fst t.snd t.one t.two over
        intro h' kept
        apply next h' s1.toks
        intro c o far at_c
        simp only [List.mem_cons, List.not_mem_nil, or_false, not_or] at far
        exact kept c o far.1 far.2.1 far.2.2.1 far.2.2.2 at_c
      · apply held_end calm D hz old t over
        intro h' rest
        apply next h' s1.toks
        intro c o far at_c
        simp only [List.mem_cons, List.not_mem_nil, or_false, not_or] at far
        exact rest c o far.1 far.2.2.1 far.2.2.2 at_c
end PySem
set_option Elab.async false
set_option linter.all false
set_option maxRecDepth 100000
set_option maxHeartbeats 1900000
/-! DZ2: dict(zip(a, b)). -/
namespace L2
open PyProof.Rows PySem PySem.Spec
def tDictZip (K : PySem.W.Frag) (t : TA) : TE := fun σ H Q => t σ H fun vs H1 => ∃ (a b : Addr) (ks : List Key) (us : List V), vs = [.ref a, .ref b] ∧ SqT K H1 a (ks.map kV) ∧ SqT K H1 b us ∧ ks.length = us.length ∧ ∀ p, H1 p = none → Q (.ref p) (upd H1 p (.dK (mergeK [] (ks.zip us))))
theorem kv_zip {ks : List Key} : ∀ {us : List V} {its : List Value}, Vals us its → KV (ks.zip us) (ks.zip its) := by
  induction ks with
  | nil => intro us its r; simp only [List.zip_nil_left]; exact .nil
  | cons k ks ih =>
    intro us its r
    cases r with
    | nil => simp only [List.zip_nil_right]; exact .nil
    | cons h t =>
      simp only [List.zip_cons_cons]
      exact .cons ⟨rfl, h⟩ (ih t)
theorem pe_dictZip {X : Cx} {e1 e2 : Expr} {t : TA} {p1 p2 pos1 pos2 : Pos} (hcalm : X.calm = true) (hg1 : Gl X "dict") (hm1 : X.mg "dict" = none) (hg2 : Gl X "zip") (hm2 : X.mg "zip" = none) (ha : PA X [e1, e2] t)
    (hs : starEach [e1, e2] X.env = (false, eval e1 X.env) :: starEach [e2] X.env := by rfl) (hpl : (backTo pos2 (starEach [e2] X.env)).any (·.1) = false := by rfl)
    (hs1 : starEach [.Call (.Name "zip" p2) [e1, e2] [] pos2] X.env = (false, eval (.Call (.Name "zip" p2) [e1, e2] [] pos2) X.env) :: starEach [] X.env := by rfl) (hpl1 : (backTo pos1 (starEach [] X.env)).any (·.1) = false := by rfl) :
    PE X (.Call (.Name "dict" p1) [.Call (.Name "zip" p2) [e1, e2] [] pos2] [] pos1) (tDictZip X.K t) := by
  constructor
  intro pins s σ H Q I h
  refine wpAny_Call_Name_kw (ld_blt I hg1 hm1 PyProof.Rows.boot_dict ?_)
  refine PyProof.Rows.callWith_type1 ?_ hs1 hpl1
  rw [hs1]
  show wpAny _ _ (spliced ((false, eval (.Call (.Name "zip" p2) [e1, e2] [] pos2) X.env) :: backTo pos1 (starEach [] X.env))) _ _ s
  refine Calls.spliced_cons ?_
  refine wpAny_Call_Name_kw (ld_blt I hg2 hm2 PyProof.Rows.boot_zip (PyProof.Rows.callWith_type1 (thn (ha.run pos2 pins s σ H _ I h) fun us s1 ⟨vs, H1, I1, r1, q1⟩ => ?_) hs hpl))
  obtain ⟨a, b, ks, ws, ev, ha1, hb1, hlen, q⟩ := q1
  subst ev
  obtain ⟨u1, u2, rfl, ru1, ru2⟩ := vals2 r1
  cases ru1
  cases ru2
  obtain ⟨its1, rv1, p1', hz1⟩ := I1.tuple ha1
  obtain ⟨its2, rv2, p2', hz2⟩ := I1.tuple hb1
  have ht1 : s1.heap.IsTuple a its1.toArray := p1'
  have ht2 : s1.heap.IsTuple b its2.toArray := p2'
  have la : a < s1.heap.objs.size := by obtain ⟨o, ho, _⟩ := id ht1; exact Heap.lt_size ho
  have lb : b < s1.heap.objs.size := by obtain ⟨o, ho, _⟩ := id ht2; exact Heap.lt_size ho
  refine RZ.call_zipT ht1 ht2 fun h' hz hTI hTO hi1 hi2 hsz hk => ?_
  refine Calls.spliced_nil ?_
  have l1 : its1.length = ks.length := by have := rv1.length; simpa using this.symm
  have l2 : its2.length = ws.length := rv2.length.symm
  have P := pairs_zipT (prog := X.prog) (w := X.w) _ _ _ _ _ _ _ (zipApart_new la lb) its1.toArray its2.toArray
  have hn : min its1.toArray.size its2.toArray.size = ks.length := by simp; omega
  refine _root_.PySem.call_dict_pairs (knd := mixKind X.prog X.w) (kvs := ks.zip its2) P (I1.ok.hd hcalm) ⟨hz, ⟨_, _, hTO⟩, hTI, hi1, hi2, ht1.at fun o e => hk _ o e, ht2.at fun o e => hk _ o e⟩ ⟨by rw [hn]; simp; omega, fun i key v hr => ?_⟩ (by rw [hn]; simpa using hz1) fun h'' tk hd' hk' => ?_
  · obtain ⟨e1, e2⟩ := hr
    have e1' : its1[i]? = some key := by simpa using e1
    have e2' : its2[i]? = some v := by simpa using e2
    have hi : i < ks.length := by rw [← l1]; exact (List.getElem?_eq_some_iff.mp e1').1
    have ek : ks[i]? = some ks[i] := List.getElem?_eq_getElem hi
    refine ⟨ks[i], by rw [List.getElem?_zip_eq_some]; exact ⟨ek, e2'⟩, ?_⟩
    obtain ⟨u, hu, ru⟩ := rv1.get (i := i) (x := kV ks[i]) (by rw [List.getElem?_map, ek]; rfl)
    rw [hu] at e1'
    cases e1'
    exact kV_is ru
  · have hdz : h'.objs.size = s1.heap.objs.size + 5 := hsz
    have kk : ∀ c o, s1.heap.get? c = some o → h''.get? c = some o := fun c o e => hk' c o (fun hm => by
      have hc := Heap.lt_size e
      simp only [or_false, List.mem_cons, List.not_mem_nil] at hm
      rcases hm with z | z | z | z <;> rw [z] at hc
      · exact absurd hc (Nat.not_lt_of_le (Nat.le_add_right _ 4))
      · exact absurd hc (Nat.not_lt_of_le (Nat.le_add_right _ 3))
      · exact absurd hc (Nat.lt_irrefl _)
      · exact absurd hc (Nat.not_lt_of_le (Nat.le_add_right _ 1))) (hk c o e)
    have big : s1.heap.objs.size ≤ h'.objs.size := by rw [hdz]; exact Nat.le_add_right _ _
    have hm : (h'.objs.size == sysModules) = false := beq_eq_false_iff_ne.mpr (Nat.ne_of_gt (Nat.lt_of_lt_of_le I1.big big))
    have hl : (mergeK [] (ks.zip ws)).length ≤ sizeLine := by
      refine Nat.le_trans (length_mergeK _ []) ?_
      rw [List.length_nil, Nat.zero_add, List.length_zip]
      have : ks.length ≤ sizeLine := by simpa using hz1
      omega
    exact ⟨.ref h'.objs.size, _, I1.laid (t' := tk) kk big (show ObjOk X.prog X.w _ _ _ (.dK (mergeK [] (ks.zip ws))) from ⟨hl, hm, merged [] (ks.zip its2), KV.merge (kv_zip rv2) .nil, hd'⟩), rfl, q _ (I1.hok.fresh big)⟩
end L2
set_option Elab.async false
set_option linter.all false
set_option maxRecDepth 100000
set_option maxHeartbeats 1900000
/-! DL7: chains, enumerate, dict comprehensions. -/
namespace DL
open L2 PyProof.Rows PySem PySem.Spec
theorem takes0 {X : Cx} : Takes X W0 := fun _ _ ⟨_, _, _, _, _, _, _, _, _, _, _, _, _, _, _, _, h⟩ => h.elim
section
variable {X : Cx} {Wx : WX} {a b c : Expr} {ma mb mc : ME} {r r' : R2} {g g' : D → D → Option D} {pos : Pos}
theorem pv_chain {op op' : CmpOp} (ho : OpR X (compareOp op) r) (ho' : OpR X (compareOp op') r') (hd : OpD X r g) (hd' : OpD X r' g') (ha : PEv X Wx a ma) (hb : PEv X Wx b mb) (hc : PEv X Wx c mc)
    (hm : lastMarks [op, op'] [b, c] = false := by with_unfolding_all rfl) : PEv X Wx (.Compare a [op, op'] [b, c] pos) (mChain g g' ma mb mc) := (pe_chain ho ho' ha hb hc hm).imp fun _ _ _ h => chain_read (c := c) hd hd' h
theorem tv_chain {op op' : CmpOp} (ho : OpR X (compareOp op) r) (ho' : OpR X (compareOp op') r') (hd : OpD X r g) (hd' : OpD X r' g') (ha : PEv X Wx a ma) (hb : PEv X Wx b mb) (hc : PEv X Wx c mc)
    (hm : lastMarks [op, op'] [b, c] = false := by with_unfolding_all rfl) : PTv X Wx (.Compare a [op, op'] [b, c] pos) (mT (mChain g g' ma mb mc)) := (pt_chain ho ho' ha hb hc hm).imp fun _ _ _ h => chain_read (c := c) hd hd' (EvB.of h)
theorem pv_ty {x : Str} {n : String} (hg : Gl X x) (hm : X.mg x = none) (hv : bootBuiltins x = some (.type n)) (hn : x ≠ "__name__" := by decide) (hd : (x == ("__debug__" : Str)) = false := by decide) : PEv X Wx (.Name x pos) (mC (.ty n)) :=
  pv_c (pe_bltn (v := .ty n) hg hm hv rfl hn hd) fun _ _ => rfl
end

/-! ### enumerate -/
def enumD : Nat → List D → List D
  | _, [] => []
  | i, x :: xs => .tup [.int i, x] :: enumD (i + 1) xs
theorem enumD_len : ∀ (i : Nat) (xs : List D), (enumD i xs).length = xs.length
  | _, [] => rfl
  | i, x :: xs => by simp [enumD, enumD_len (i + 1) xs]
theorem enumD_at : ∀ (k : Nat) (xs : List D) (i : Nat), (enumD k xs)[i]? = xs[i]?.map fun x => D.tup [.int ((k + i : Nat) : Int), x]
  | _, [], i => by simp [enumD]
  | k, x :: xs, 0 => by simp [enumD]
  | k, x :: xs, i + 1 => by
    simp only [enumD, List.getElem?_cons_succ]
    rw [enumD_at (k + 1) xs i, show k + 1 + i = k + (i + 1) by omega]
def mEnum (m : ME) : Env → M (List D) := fun env cc => (m env cc).bind fun w c => match w with
  | .d (.lst ds) => .ok (enumD 0 ds) c
  | .d (.tup ds) => .ok (enumD 0 ds) c
  | _ => .stuck
section
variable {K : PySem.W.Frag} {mg : Str → Option Value} {ca : Ca} {H : Hp}
theorem itd_pair {ds : List D} {vs : List V} {J : It} {G : Hp → Prop} (w : Walk J vs.length G (YPair (fun i => some (.int (i : Nat))) (fun i => vs[i]?))) (hG : ∀ ca' H', Mn ca H ca' H' → G H') (d : DenL K mg (Live ca) H ds vs) : ItD K mg ca H (enumD 0 ds) J := by
  refine ⟨G, _, by rw [enumD_len, ← d.length]; exact w, hG, fun i H1 v H' ca' cc hi p hc y => ?_⟩
  rw [enumD_len] at hi
  obtain ⟨T, x, z, rfl, hT, rfl, h1, h2⟩ := y
  cases h1
  obtain ⟨x, hx⟩ : ∃ x, ds[i]? = some x := ⟨_, List.getElem?_eq_getElem hi⟩
  obtain ⟨v', e1, d1⟩ := d.get hx
  rw [show vs[i]? = some z from h2] at e1
  cases e1
  have st : Stp ca' H1 ca' (upd H1 T (.tup [.int (i : Nat), z])) := Stp.new hc hT
  have dl : DenL K mg (Live ca') H1 [.int ((i : Nat) : Int), x] [.int (i : Nat), z] := ⟨_, _, rfl, rfl, _, _, rfl, DenD.mono p.kp _ _ d1, rfl⟩
  refine ⟨st, hc.new hT, _, by rw [enumD_at, hx]; rfl, ?_⟩
  show DenD K mg (Live ca') _ (.tup [.int ((0 + i : Nat) : Int), x]) _
  rw [Nat.zero_add]
  exact den_tup_new hc dl hT
end
section
variable {X : Cx} {Wx : WX} {e : Expr} {m : ME} {p pos tpos : Pos} {elts : List Expr} {kk : Nat}
theorem iv_enum (hg : Gl X "enumerate") (hm : X.mg "enumerate" = none) (he : PEv X Wx e m) (hs : OneAt X e := by rfl) : PIv X Wx (.Tuple elts kk tpos) (.Call (.Name "enumerate" p) [e] [] pos) (mEnum m) :=
  (pi_enumA hg hm (pa_cons he pa_nil hs) hs).imp fun σ H R h =>
    Ev.bind h fun env ca w cc v H' he hc d hk => by
      split at hk
      · rename_i ds
        have d' : DenD X.K X.mg (Live ca) H' (.lst ds) v := d
        simp only [DenD] at d'
        obtain ⟨a, vs, rfl, n, h1, h2⟩ := d'
        exact ⟨a, vs, rfl, .inl ⟨SqL.of h1, hk.now (Stp.refl _ _) hc (itd_pair walk_enum (fun ca' H' p => SqL.of (p.kp a _ h1 n).1) h2)⟩⟩
      · rename_i ds
        have d' : DenD X.K X.mg (Live ca) H' (.tup ds) v := d
        simp only [DenD] at d'
        obtain ⟨a, vs, rfl, h1, h2⟩ := d'
        exact ⟨a, vs, rfl, .inr ⟨TupAt.sq (h1.imp (fun z => z.2) fun z => z), hk.now (Stp.refl _ _) hc (itd_pair walk_enumT (fun ca' H' p => h1.elim (fun z => Or.inl (.inl (p.kp a _ z.2 z.1).1)) Or.inr) h2)⟩⟩
      · exact hk.elim
end

end DL
set_option Elab.async false
set_option linter.all false
set_option maxRecDepth 100000
set_option maxHeartbeats 1900000
/-! DL9: more built-ins, methods; keys of dicts. -/
namespace DL
open L2 PyProof.Rows PySem PySem.Spec

/-! ### sorted texts -/
theorem ltCps_total : ∀ a b : List Nat, ltCps a b = false → ltCps b a = false → a = b
  | [], [], _, _ => rfl
  | [], _ :: _, no, _ => nomatch no
  | _ :: _, [], _, no => nomatch no
  | a :: r, b :: t, h1, h2 => by
    simp only [ltCps, Bool.or_eq_false_iff, decide_eq_false_iff_not, Bool.and_eq_false_imp, beq_iff_eq] at h1 h2
    have e : a = b := by omega
    subst e
    rw [ltCps_total r t (h1.2 rfl) (h2.2 rfl)]
theorem ltCps_irrefl : ∀ a : List Nat, ltCps a a = false
  | [] => rfl
  | a :: r => by simp [ltCps, ltCps_irrefl r]
theorem ltCps_trans : ∀ a b c : List Nat, ltCps b a = false → ltCps c b = false → ltCps c a = false
  | [], b, c, _, h2 => by
    cases c with
    | nil => rfl
    | cons c t => rfl
  | a :: r, [], c, h1, _ => by cases h1
  | a :: r, b :: t, [], h1, h2 => by cases h2
  | a :: r, b :: t, c :: u, h1, h2 => by
    simp only [ltCps, Bool.or_eq_false_iff, decide_eq_false_iff_not, Bool.and_eq_false_imp, beq_iff_eq] at h1 h2 ⊢
    refine ⟨by omega, fun e => ?_⟩
    have e1 : b = a := by omega
    have e2 : c = b := by omega
    exact ltCps_trans r t u (h1.2 e1) (h2.2 e2)
theorem ltCps_asymm (a b : List Nat) (h : ltCps a b = true) : ltCps b a = false := by
  cases q : ltCps b a with
  | false => rfl
  | true =>
    induction a generalizing b with
    | nil => cases b <;> simp [ltCps] at h q
    | cons x r ih =>
      cases b with
      | nil => simp [ltCps] at h
      | cons y t =>
        simp only [ltCps, Bool.or_eq_true, decide_eq_true_eq, Bool.and_eq_true, beq_iff_eq] at h q
        rcases h with h | ⟨e, h⟩
        · rcases q with q | ⟨e, q⟩ <;> omega
        · rcases q with q | ⟨_, q⟩
          · omega
          · exact ih t h q
def leS (a b : Str) : Prop := ltCps b.cps.toList a.cps.toList = false
theorem leS_anti {a b : Str} (h1 : leS a b) (h2 : leS b a) : a = b := by
  have e := ltCps_total _ _ h2 h1
  obtain ⟨x⟩ := a
  obtain ⟨y⟩ := b
  have e' : x.toList = y.toList := e
  rw [Array.toList_inj.mp e']
def insS (x : Str) : List Str → List Str
  | [] => [x]
  | y :: r => if ltCps y.cps.toList x.cps.toList = true then y :: insS x r else x :: y :: r
def sortS : List Str → List Str
  | [] => []
  | x :: r => insS x (sortS r)
theorem insS_perm (x : Str) : ∀ l : List Str, (insS x l).Perm (x :: l)
  | [] => .refl _
  | y :: r => by
    unfold insS
    split
    · exact ((insS_perm x r).cons y).trans (List.Perm.swap x y r)
    · exact .refl _
theorem sortS_perm : ∀ l : List Str, (sortS l).Perm l
  | [] => .refl _
  | x :: r => (insS_perm x (sortS r)).trans ((sortS_perm r).cons x)
theorem insS_pw (x : Str) : ∀ l : List Str, l.Pairwise leS → (insS x l).Pairwise leS
  | [], _ => List.pairwise_singleton _ _
  | y :: r, h => by
    unfold insS
    have hy := List.pairwise_cons.mp h
    split
    · rename_i hl
      refine List.pairwise_cons.mpr ⟨fun z hz => ?_, insS_pw x r hy.2⟩
      rcases List.mem_cons.mp ((insS_perm x r).mem_iff.mp hz) with rfl | hz
      · exact ltCps_asymm _ _ hl
      · exact hy.1 z hz
    · rename_i hl
      have hxy : leS x y := by unfold leS; simpa using hl
      refine List.pairwise_cons.mpr ⟨fun z hz => ?_, h⟩
      rcases (List.mem_cons.mp hz) with rfl | hz
      · exact hxy
      · exact ltCps_trans _ _ _ hxy (hy.1 z hz)
theorem sortS_pw : ∀ l : List Str, (sortS l).Pairwise leS
  | [] => .nil
  | x :: r => insS_pw x _ (sortS_pw r)
theorem rising_pw : ∀ (p : Str) (l : List Str), risingS p l = true → (p :: l).Pairwise leS
  | p, [], _ => List.pairwise_singleton _ _
  | p, x :: r, h => by
    simp only [risingS, Bool.and_eq_true, Bool.not_eq_true'] at h
    have ih := rising_pw x r h.2
    refine List.pairwise_cons.mpr ⟨fun z hz => ?_, ih⟩
    rcases (List.mem_cons.mp hz) with rfl | hz
    · exact h.1
    · exact ltCps_trans _ _ _ h.1 ((List.pairwise_cons.mp ih).1 z hz)
theorem sorted_pw : ∀ l : List Str, sortedS l = true → l.Pairwise leS
  | [], _ => .nil
  | x :: r, h => rising_pw x r h
theorem sorted_eq {xs ys : List Str} (p : ys.Perm xs) (s : sortedS ys = true) : ys = sortS xs :=
  List.Perm.eq_of_pairwise (le := leS) (fun a b _ _ h1 h2 => leS_anti h1 h2) (sorted_pw ys s) (sortS_pw xs) (p.trans (sortS_perm xs).symm)
def strsOf : List D → Option (List Str)
  | [] => some []
  | .str x :: ds => (strsOf ds).map (x :: ·)
  | _ :: _ => none
theorem strsOf_eq : ∀ {ds : List D} {xs : List Str}, strsOf ds = some xs → ds = xs.map .str
  | [], xs, e => by
    simp only [strsOf, Option.some.injEq] at e
    subst e
    rfl
  | .str x :: ds, xs, e => by
    simp only [strsOf] at e
    cases q : strsOf ds with
    | none => rw [q] at e; exact nomatch e
    | some r =>
      rw [q] at e
      cases e
      rw [strsOf_eq q]
      rfl
  | .non :: _, _, e => by cases e
  | .bl _ :: _, _, e => by cases e
  | .int _ :: _, _, e => by cases e
  | .tup _ :: _, _, e => by cases e
  | .lst _ :: _, _, e => by cases e
  | .scr _ :: _, _, e => by cases e
  | .dct _ _ :: _, _, e => by cases e
  | .obj _ _ _ :: _, _, e => by cases e
  | .glo _ :: _, _, e => by cases e
  | .ty _ :: _, _, e => by cases e
  | .dkn _ :: _, _, e => by cases e
theorem strs_vals {K : PySem.W.Frag} {mg : Str → Option Value} {L : Addr → Prop} {H : Hp} : ∀ {xs : List Str} {vs : List V}, DenL K mg L H (xs.map .str) vs → vs = xs.map V.str
  | [], vs, d => d
  | x :: xs, vs, d => by
    obtain ⟨v, vr, rfl, h1, h2⟩ := d
    rw [strs_vals h2, show v = .str x from h1]
    rfl
theorem strs_den {K : PySem.W.Frag} {mg : Str → Option Value} {L : Addr → Prop} {H : Hp} : ∀ (xs : List Str), DenL K mg L H (xs.map .str) (xs.map V.str)
  | [] => rfl
  | x :: xs => ⟨_, _, rfl, rfl, strs_den xs⟩
/-- sorted(xs), texts, fewer than 64 -/
def dSorted : List D → Option D
  | [.lst ds] => match strsOf ds with
    | some xs => if xs.length < 64 then some (.lst ((sortS xs).map .str)) else none
    | none => none
  | _ => none
section
variable {X : Cx}
theorem bd_sorted : CallD X (rSortedS X.K) dSorted := fun {ca cc H xs z vs Q} hc d e k => by
  unfold dSorted at e
  split at e
  · split at e
    · rename_i ss hs
      split at e
      · rename_i h64
        cases e
        have e1 := strsOf_eq hs
        subst e1
        obtain ⟨v, rfl, a, vs, rfl, h1, h2⟩ := d1 d
        have e2 := strs_vals h2
        subst e2
        refine ⟨a, ss, rfl, SqL.of h1, h64, fun ys p hp hsr hn => ?_⟩
        rw [sorted_eq hp hsr]
        exact k _ _ (Stp.new hc hn) (hc.new hn) (den_lst_new hc (strs_den _) hn)
      · cases e
    · cases e
  · cases e
/-- str(x) of a text -/
def dStr : List D → Option D
  | [.str x] => some (.str x)
  | _ => none
theorem bd_str : CallD X (fun xs H Q => ∃ a, xs = [.str a] ∧ Q (.str a) H) dStr := fun {ca cc H xs z vs Q} hc d e k => by
  unfold dStr at e
  split at e
  · cases e
    obtain ⟨v, rfl, dx⟩ := d1 d
    exact ⟨_, by rw [show v = .str _ from dx], k _ _ (Stp.refl _ _) hc rfl⟩
  · cases e
end

/-! ### methods of texts -/
/-- x.m(y), x a text -/
def mSm (g : Str → D → Option D) (mo me : ME) : ME := fun env cc => (mo env cc).bind fun o c1 => match o with
  | .d (.str x) => (me env c1).bind fun w c2 => match see c2 w with
    | some y => match g x y with
      | some z => .ok (.d z) c2
      | none => .stuck
    | none => .stuck
  | _ => .stuck
def SmD (X : Cx) (r : V → List V → Hp → VK → Prop) (g : Str → D → Option D) : Prop :=
  ∀ {ca : Ca} {H : Hp} {x : Str} {y z : D} {u : V} {Q : VK}, DenT X.K X.mg ca H y u → g x y = some z → (∀ v', (∀ ca : Ca, DenD X.K X.mg (Live ca) H z v') → Q v' H) → r (.str x) [u] H Q
section
variable {X : Cx} {Wx : WX} {o e : Expr} {mo me : ME} {apos pos : Pos} {name : Str} {id : String} {r : V → List V → Hp → VK → Prop} {g : Str → D → Option D}
theorem pv_sm (slot : Slot "str" name id) (ty : typeOf (.builtin id) = pure (.type "method_descriptor")) (rule : MtR X id r) (hg : SmD X r g) (ho : PEv X Wx o mo) (he : PEv X Wx e me)
    (hs : OneAt X e := by rfl) (hbase : BaseAt X o name := by rfl) (hline : RowAt apos pos := by rfl) :
    PEv X Wx (.Call (.Attribute o name apos) [e] [] pos) (mSm g mo me) := (pe_m1 slot ty rule ho he hs hbase hline).imp fun σ H Q h =>
  Ev.bind h fun env ca w cc v H' he hc d hk => by
    split at hk
    · rename_i x
      refine ⟨⟨x, d⟩, env, ca, cc, he, hc, KS.bind hk fun u c2 v2 H2 ca2 p hc2 d2 hk2 => ?_⟩
      split at hk2
      · rename_i y e1
        split at hk2
        · rename_i z e2
          rw [show v = .str x from d]
          exact hg (see_ok hc2 d2 e1) e2 fun v' dv => hk2.now (Stp.refl _ _) hc2 (dv _)
        · exact hk2.elim
      · exact hk2.elim
    · exact hk.elim
def gStarts : Str → D → Option D := fun x y => match y with
  | .str b => some (.bl (Txt.startswith x b))
  | _ => none
theorem sm_starts : SmD X (fun x xs H Q => ∃ a b, x = .str a ∧ xs = [.str b] ∧ Q (.bl (Txt.startswith a b)) H) gStarts := fun {ca H x y z u Q} d e k => by
  unfold gStarts at e
  split at e
  · cases e
    exact ⟨x, _, rfl, by rw [show u = .str _ from d], k _ fun _ => rfl⟩
  · cases e
theorem pv_starts (ho : PEv X Wx o mo) (he : PEv X Wx e me) (hs : OneAt X e := by rfl) (hbase : attributeBase o "startswith" X.env (eval o X.env) = eval o X.env := by rfl) (hline : RowAt apos pos := by rfl) :
    PEv X Wx (.Call (.Attribute o "startswith" apos) [e] [] pos) (mSm gStarts mo me) := pv_sm F.slot_str_startswith F.type_str_startswith mt_startswith sm_starts ho he hs hbase hline
def gJoin : Str → D → Option D := fun x y => match y with
  | .lst ds => match strsOf ds with
    | some ys => if (ys.map (·.length)).sum + ys.length * x.length ≤ 16777216 then some (.str (Txt.join x ys)) else none
    | none => none
  | .tup ds => match strsOf ds with
    | some ys => if (ys.map (·.length)).sum + ys.length * x.length ≤ 16777216 then some (.str (Txt.join x ys)) else none
    | none => none
  | _ => none
theorem sm_join : SmD X (fun x xs H Q => ∃ a p, ∃ ys : List Str, x = .str a ∧ xs = [.ref p] ∧ (SqL X.K H p (ys.map V.str) ∨ SqT X.K H p (ys.map V.str)) ∧
    (ys.map (·.length)).sum + ys.length * a.length ≤ 16777216 ∧ Q (.str (Txt.join a ys)) H) gJoin := fun {ca H x y z u Q} d e k => by
  unfold gJoin at e
  split at e
  · split at e
    · rename_i ys hs
      split at e
      · rename_i hl
        cases e
        have e1 := strsOf_eq hs
        subst e1
        obtain ⟨a, vs, rfl, h1, h2⟩ := d
        have e2 := strs_vals h2
        subst e2
        exact ⟨x, a, ys, rfl, rfl, .inl (SqL.of h1), hl, k _ fun _ => rfl⟩
      · cases e
    · cases e
  · split at e
    · rename_i ys hs
      split at e
      · rename_i hl
        cases e
        have e1 := strsOf_eq hs
        subst e1
        obtain ⟨a, vs, rfl, h1, h2⟩ := d
        have e2 := strs_vals h2
        subst e2
        exact ⟨x, a, ys, rfl, rfl, .inr h1.sq, hl, k _ fun _ => rfl⟩
      · cases e
    · cases e
  · cases e
theorem pv_join (ho : PEv X Wx o mo) (he : PEv X Wx e me) (hs : OneAt X e := by rfl) (hbase : attributeBase o "join" X.env (eval o X.env) = eval o X.env := by rfl) (hline : RowAt apos pos := by rfl) :
    PEv X Wx (.Call (.Attribute o "join" apos) [e] [] pos) (mSm gJoin mo me) := pv_sm F.slot_str_join F.type_str_join mt_join sm_join ho he hs hbase hline
end

/-! ### count -/
def isLstD (cc : Cs) (w : W) : Bool := match see cc w with
  | some (.lst _) => true
  | _ => false
def gCount : D → D → Option D := fun x y => match x with
  | .lst ds => if cmpD (.lst ds) = true ∧ cmpD y = true then some (.int ((ds.countP fun z => eqD z y : Nat) : Int)) else none
  | _ => none
/-- xs.m(y), xs a list that is only looked at -/
def mLk (g : D → D → Option D) (mo me : ME) : ME := fun env cc => (mo env cc).bind fun o c1 => if isLstD c1 o = true then (me env c1).bind fun w c2 => match see c2 o, see c2 w with
  | some x, some y => match g x y with
    | some z => .ok (.d z) c2
    | none => .stuck
  | _, _ => .stuck else .stuck
def rCntD (K : PySem.W.Frag) : V → List V → Hp → VK → Prop := fun x xs H Q => ∃ p ds y d, x = .ref p ∧ xs = [y] ∧ Dp K H x (.list ds) ∧ Dp K H y d ∧ SeqAt.shaped (.list ds) = true ∧ SeqAt.shaped d = true ∧ Q (.int ((ds.countP fun z => PyData.eqv z d : Nat) : Int)) H
theorem mt_countD {X : Cx} (hu : X.A.units + 65 < cLine) : MtR X "list.count" (rCntD X.K) := by
  rintro pins s σ H x xs v us Q I rx rxs ⟨p, ds, y, d, rfl, rfl, hx, hy, sl, sd, q⟩
  obtain ⟨u, e1, ru⟩ := rxs.one
  subst e1
  cases hx with
  | lst hq hall =>
    cases rx
    obtain ⟨its, rv, pl, _⟩ := I.list hq
    obtain ⟨as, rs⟩ := Dp.readsAll I _ _ its hall rv
    obtain ⟨bs, r2⟩ := Dp.reads I d y u hy ru
    have c1 := SeqAt.canLay_of_shaped sl
    have hpl : PyData.plainAll ds = true := PyData.plainAll_of_canLay0 ds (by simpa [PyData.canLay0] using c1)
    have hpd : d.plain = true := PyData.plain_of_canLay0 d (SeqAt.canLay_of_shaped sd)
    exact SeqAt.count_list_data pl.isList (by simpa using rs) r2 hpl hpd (room_in_shaped sd hu) ⟨.int _, H, I.tok _, ⟨_, rfl⟩, q⟩
section
variable {X : Cx} {Wx : WX} {o e : Expr} {es : List Expr} {mo me : ME} {apos cpos : Pos}
theorem pv_count (hu : X.A.units + 65 < cLine) (ho : PEv X Wx o mo) (he : PEv X Wx e me) (hbase : BaseAt X o "count" := by rfl)
    (hfew : FewAt X cpos [e] := by rfl)
    (hline : RowAt apos cpos := by rfl) (hs : ArgAt X e [] := by rfl) (hplain : FlatAt X cpos [] := by rfl) :
    PEv X Wx (.Call (.Attribute o "count" apos) [e] [] cpos) (mLk gCount mo me) :=
  (pe_bm PySem.F.plainAttrs_list PySem.F.slot_list_count PySem.F.type_list_count (mt_countD hu) ho (pa_cons he pa_nil hs) hbase hfew hline hs hplain).imp fun σ H Q h =>
    Ev.bind h fun env ca w cc v H' he hc d hk => by
      split at hk
      · rename_i hl
        refine ⟨?_, env, ca, cc, he, hc, KS.bind hk fun u c2 v2 H2 ca2 p hc2 d2 hk2 => ?_⟩
        · unfold isLstD at hl
          split at hl
          · rename_i ds e1
            obtain ⟨a, vs, rfl, h1, h2⟩ := see_ok hc d e1
            exact .inl ⟨rfl, vs, SqL.of h1⟩
          · cases hl
        · split at hk2
          · rename_i x y e1 e2
            split at hk2
            · rename_i z e3
              unfold gCount at e3
              split at e3
              · rename_i ds
                split at e3
                · rename_i hh
                  cases e3
                  have h1 := cmpD_ok hh.1
                  have h2 := cmpD_ok hh.2
                  rw [← count_eqD (by simpa [isPy] using h1.1) h2.1] at hk2
                  have dx := see_ok hc2 (d.mono p) e1
                  have dy := see_ok hc2 d2 e2
                  obtain ⟨a, vs, rfl, _⟩ := id dx
                  exact ⟨a, pys ds, v2, _, rfl, rfl, dp_t dx h1.1, dp_t dy h2.1, h1.2, h2.2, hk2.now (Stp.refl _ _) hc2 rfl⟩
                · cases e3
              · cases e3
            · exact hk2.elim
          · exact hk2.elim
      · exact hk.elim
end

/-! ### dict(zip(..)) -/
def keysOf : List D → Option (List Key)
  | [] => some []
  | x :: xs => match asKey x, keysOf xs with
    | some k, some ks => some (k :: ks)
    | _, _ => none
theorem keysOf_ok {K : PySem.W.Frag} {mg : Str → Option Value} {ca : Ca} {H : Hp} : ∀ {ds : List D} {vs : List V} {ks : List Key}, DenL K mg (Live ca) H ds vs → keysOf ds = some ks → vs = ks.map kV
  | [], vs, ks, d, e => by
    simp only [keysOf, Option.some.injEq] at e
    subst e
    exact d
  | x :: xs, vs, ks, d, e => by
    obtain ⟨v, vr, rfl, h1, h2⟩ := d
    simp only [keysOf] at e
    split at e
    · rename_i k r e1 e2
      cases e
      obtain ⟨rfl, _⟩ := asKey_ok e1 (DenD.t h1)
      rw [keysOf_ok h2 e2]
      rfl
    · cases e
/-- dict(zip(a, b)) of two tuples of data, the keys all unlike -/
def dDictZip : List D → Option D
  | [.tup a, .tup b] => match keysOf a with
    | some ks => if ks.length = b.length ∧ ks.Nodup then some (.dct (ks.map keyD) b) else none
    | none => none
  | _ => none
theorem mergeK_nodup : ∀ (l : List (Key × V)) (acc : List (Key × V)), (acc.map (·.1) ++ l.map (·.1)).Nodup → mergeK acc l = acc ++ l
  | [], acc, _ => by simp [mergeK]
  | p :: l, acc, h => by
    have hn : p.1 ∉ acc.map (·.1) := fun hm => by
      have h1 := List.nodup_append.mp h
      exact h1.2.2 p.1 hm p.1 (by simp) rfl
    have e : putK acc p.1 p.2 = acc ++ [p] := by
      unfold putK
      rw [if_neg]
      simp only [List.any_eq_true, decide_eq_true_eq]
      rintro ⟨q, hq, e⟩
      exact hn (e ▸ List.mem_map_of_mem hq)
    show mergeK (putK acc p.1 p.2) l = _
    rw [e, mergeK_nodup l (acc ++ [p]) (by simpa using h)]
    simp
section
variable {X : Cx} {Wx : WX} {e1 e2 : Expr} {r : Env → M (List W)} {p1 p2 pos1 pos2 : Pos}
theorem pv_dictZip (hcalm : X.calm = true) (hg1 : Gl X "dict") (hm1 : X.mg "dict" = none) (hg2 : Gl X "zip") (hm2 : X.mg "zip" = none) (ha : PAv X Wx [e1, e2] r)
    (hs : starEach [e1, e2] X.env = (false, eval e1 X.env) :: starEach [e2] X.env := by rfl) (hpl : (backTo pos2 (starEach [e2] X.env)).any (·.1) = false := by rfl)
    (hs1 : starEach [.Call (.Name "zip" p2) [e1, e2] [] pos2] X.env = (false, eval (.Call (.Name "zip" p2) [e1, e2] [] pos2) X.env) :: starEach [] X.env := by rfl) (hpl1 : (backTo pos1 (starEach [] X.env)).any (·.1) = false := by rfl) :
    PEv X Wx (.Call (.Name "dict" p1) [.Call (.Name "zip" p2) [e1, e2] [] pos2] [] pos1) (mB dDictZip r) := (pe_dictZip hcalm hg1 hm1 hg2 hm2 ha hs hpl hs1 hpl1).imp fun σ H Q h =>
  Ev.bind h fun env ca ws cc vs H' he hc d hk => by
    split at hk
    · rename_i xs e1
      have d' := seeAll_ok hc d e1
      split at hk
      · rename_i z e2
        unfold dDictZip at e2
        split at e2
        · rename_i a b
          split at e2
          · rename_i ks hks
            split at e2
            · rename_i hh
              cases e2
              obtain ⟨v, u, rfl, ⟨pa, vs1, rfl, ha1, ha2⟩, ⟨pb, vs2, rfl, hb1, hb2⟩⟩ := d2 d'
              have e3 := keysOf_ok ha2 hks
              subst e3
              have hl : ks.length = vs2.length := by rw [hb2.length]; exact hh.1
              refine ⟨pa, pb, ks, vs2, rfl, ha1.sq, hb1.sq, hl, fun p hp => ?_⟩
              have e4 : mergeK [] (ks.zip vs2) = ks.zip vs2 := by
                rw [mergeK_nodup _ _ (by simp [List.map_fst_zip (Nat.le_of_eq hl)]; exact hh.2)]
                rfl
              rw [e4]
              refine hk.now (Stp.new hc hp) (hc.new hp) ⟨p, vs2, rfl, fun l => ?_, ⟨ks.zip vs2, upd_same, ?_, ?_⟩, DenL.mono (Kp.new hp) _ _ hb2⟩
              · obtain ⟨o, e⟩ := hc.tracked l
                rw [hp] at e
                cases e
              · rw [show (fun p : Key × V => keyD p.1) = keyD ∘ (·.1) from rfl, ← List.map_map, List.map_fst_zip (Nat.le_of_eq hl)]
              · rw [show (fun p : Key × V => p.2) = Prod.snd from rfl, List.map_snd_zip (Nat.le_of_eq hl.symm)]
            · cases e2
          · cases e2
        · cases e2
      · exact hk.elim
    · exact hk.elim
end
end DL
set_option Elab.async false
set_option linter.all false
set_option maxRecDepth 100000
set_option maxHeartbeats 1900000
/-! DL10: keys of a dict walked, keyword makes, pairs of stores, stores by index, kept results. -/
namespace DL
open L2 PyProof.Rows PySem PySem.Spec

/-! ### [.. for k in d] -/
def scalar : D → Bool
  | .non => true
  | .bl _ => true
  | .int _ => true
  | .str _ => true
  | _ => false
theorem scalar_den {K : PySem.W.Frag} {mg : Str → Option Value} {L L' : Addr → Prop} {H H' : Hp} {x : D} {v : V} (h : scalar x = true) (d : DenD K mg L H x v) : DenD K mg L' H' x v := by
  cases x <;> first | exact d | cases h
theorem scalars_den {K : PySem.W.Frag} {mg : Str → Option Value} {L L' : Addr → Prop} {H H' : Hp} : ∀ {xs : List D} {vs : List V}, xs.all scalar = true → DenL K mg L H xs vs → DenL K mg L' H' xs vs
  | [], _, _, d => d
  | x :: xs, _, h, ⟨v, vr, e, d1, d2⟩ => by
    simp only [Bool.and_eq_true, List.all_cons] at h
    exact ⟨v, vr, e, scalar_den h.1 d1, scalars_den h.2 d2⟩
def mLcK (i : Nat) (vs : List Nat) (G : Tg) (t : Env → M Bool) (m : ME) : ME := fun env cc => match env[i]? with
  | some (some (.d (.dct ks _))) => match lcL G t m (wipeE (env.map fun _ => none) vs) ks [] with
    | .ok ys _ => if ks.length ≤ CAP ∧ ys.all scalar = true then .ok (.d (.lst ys)) cc else .stuck
    | _ => .stuck
  | _ => .stuck
section
variable {K : PySem.W.Frag} {mg : Str → Option Value} {ca : Ca} {H H' : Hp} {cc : Cs}
theorem itd_keys {a : Addr} {o : Obj} {kvs : List (Key × V)} (n : ¬ Live ca a) (h : H a = some (.frz o (.dK kvs))) : ItD K mg ca H (kvs.map fun p => keyD p.1) (Itk a o kvs) := by
  refine ⟨_, _, by rw [List.length_map]; exact walk_keys, fun ca' H' p => (p.kp a _ h n).1, fun i H1 v H' ca' cc hi p hc y => ?_⟩
  obtain ⟨rfl, k, x, h1, rfl⟩ := y
  refine ⟨Stp.refl _ _, hc, keyD k, by simp [h1], ?_⟩
  cases k <;> rfl
theorem keep_stp (hc : CsOk K mg ca H cc) (hk : ∀ b o, H b = some o → H' b = some o) : Stp ca H ca H' := ⟨⟨Nat.le_refl _, fun _ _ _ e => e, fun b o e n => ⟨hk b o e, n⟩⟩, rfl, fun a g => by
  obtain ⟨o, e, _⟩ := hc.gh a g
  rw [hk a o e, e]⟩
theorem keep_cs (hc : CsOk K mg ca H cc) (hk : ∀ b o, H b = some o → H' b = some o) : CsOk K mg ca H' cc := by
  refine ⟨hc.len, fun n a e => ?_, hc.live, hc.inj, fun a g => ?_, hc.gd⟩
  · obtain ⟨c, e1, d⟩ := hc.at_ n a e
    obtain ⟨o, ho⟩ := hc.tracked (Live.of e)
    exact ⟨c, e1, d.mono (keep_stp hc hk) (by rw [hk a o ho, ho])⟩
  · obtain ⟨o, e, m⟩ := hc.gh a g
    exact ⟨o, hk a o e, m⟩
end
section
variable {X : Cx} {Wx : WX} {elt tg : Expr} {ifs : List Expr} {scope : Scope} {own : List (Str × Nat)} {pos p1 : Pos} {i : Nat} {x : Str} {js : List Nat} {G : Tg} {t : Env → M Bool} {m : ME}
theorem pv_lcK (hx : X.N[i]? = some x) (hv : Vis X.env.scope x) (hc : X.calm = true) (hN : X.N.Nodup) (ok : BlkOk X.N X.env.scope scope own)
    (hg : ∀ (s : Shared) (H : Hp) (C : Addr) (cl : List (Str × Addr)) (fp : List Addr), PGv (X.blk s H scope (compEnvC scope cl C X.env) fp) tg js G) (hjs : ∀ j ∈ js, j ∈ own.map (·.2))
    (ht : ∀ (s : Shared) (H : Hp) (C : Addr) (cl : List (Str × Addr)) (fp : List Addr), PTsv (X.blk s H scope (compEnvC scope cl C X.env) fp) W0 ifs t)
    (he : ∀ (s : Shared) (H : Hp) (C : Addr) (cl : List (Str × Addr)) (fp : List Addr), PEv (X.blk s H scope (compEnvC scope cl C X.env) fp) W0 elt m)
    (hd : (x == ("__debug__" : Str)) = false := by decide) (hcd : (x == ("__classdict__" : Str)) = false := by decide) (hs : ∀ y, foldedSetIterable (.Name x p1) X.env y = pure y := by intro _; rfl) :
    PEv X Wx (.ListComp elt [⟨tg, .Name x p1, ifs, 0⟩] scope pos) (mLcK i (own.map (·.2)) G t m) := (pe_lock (pe_lc hc hN (pi_keys (pe_var hx hv hd hcd)) ok hg ht he hs)).imp fun σ H Q h => by
  obtain ⟨env, ca, cc, he, hc, hk⟩ := h
  unfold mLcK at hk
  split at hk
  · rename_i ks ds hi
    split at hk
    · rename_i ys c0 e0
      split at hk
      · rename_i hh
        obtain ⟨v, hσ, d⟩ := he.at_ i _ hi
        have d' : DenD X.K X.mg (Live ca) H (.dct ks ds) v := d
        simp only [DenD] at d'
        obtain ⟨a, us, rfl, hna, ⟨kvs, h1, h2, h3⟩, h4⟩ := d'
        refine ⟨a, .dK kvs, h1, True.intro, fun od => ?_⟩
        have hkeep : ∀ b o, b ≠ a → H b = some o → upd H a (.frz od (.dK kvs)) b = some o := fun b o ne e => by rw [upd_ne ne]; exact e
        -- the reading with the cells hidden
        have hc0 : CsOk X.K X.mg ⟨[], Live ca⟩ (upd H a (.frz od (.dK kvs))) [] := ⟨rfl, fun n b e => by simp at e, fun n c e => by simp at e, fun n j b e => by simp at e, fun b g => by
          obtain ⟨o, e, mu⟩ := hc.mut g
          exact ⟨o, hkeep b o (fun z => hna (z ▸ g)) e, mu⟩, fun n b e => by simp at e⟩
        have he0 : EnvOk X.K X.mg ⟨[], Live ca⟩ (upd H a (.frz od (.dK kvs))) (env.map fun _ => none) σ := ⟨by rw [List.length_map]; exact he.len, fun j w e => by
          rw [List.getElem?_map] at e
          cases q : env[j]? with
          | none => rw [q] at e; exact nomatch e
          | some w' => rw [q] at e; cases e⟩
        have live0 : ∀ b, Live (⟨[], Live ca⟩ : Ca) b ↔ Live ca b := fun b => ⟨fun l => l.elim (fun z => by cases z) fun z => z, fun l => .inr l⟩
        have q : EvE X W0 (mLc (fun _ c => .ok ks c) (own.map (·.2)) G t m) σ (upd H a (.frz od (.dK kvs))) (fun v H' => H' a = some (.frz od (.dK kvs)) ∧ Q v (upd H' a (.dK kvs))) := by
          refine ⟨_, ⟨[], Live ca⟩, [], he0, hc0, ?_⟩
          have em : mLc (fun _ c => .ok ks c) (own.map (·.2)) G t m (env.map fun _ => none) [] = .ok (.d (.lst ys)) c0 := by
            unfold mLc
            simp only [R.bind]
            rw [e0]
            simp only [if_pos hh.1]
          rw [em]
          intro v' H' ca' p' hc' d'
          have d'' : DenD X.K X.mg (Live ca') H' (.lst ys) v' := d'
          simp only [DenD] at d''
          obtain ⟨b, vs, rfl, hnb, hb1, hb2⟩ := d''
          have hall : ∀ c o, upd H a (.frz od (.dK kvs)) c = some o → H' c = some o := fun c o e => by
            by_cases l : Live ca c
            · rw [p'.gKp c l]
              exact e
            · exact (p'.kp c o e (fun z => l ((live0 c).mp z))).1
          have ha' : H' a = some (.frz od (.dK kvs)) := hall a _ upd_same
          refine ⟨ha', ?_⟩
          have hfin : ∀ c o, H c = some o → upd H' a (.dK kvs) c = some o := fun c o e => by
            by_cases ne : c = a
            · subst ne
              rw [h1] at e
              cases e
              exact upd_same
            · rw [upd_ne ne]
              exact hall c o (hkeep c o ne e)
          have nba : b ≠ a := fun z => by
            rw [z, ha'] at hb1
            cases hb1
          refine hk.now (keep_stp hc hfin) (keep_cs hc hfin) ⟨b, vs, rfl, fun l => hnb ?_, by rw [upd_ne nba]; exact hb1, scalars_den hh.2 hb2⟩
          refine .inr ?_
          rw [p'.gEq]
          exact l
        have q2 := lc_read (js := js) hjs q
        obtain ⟨env1, ca1, cc1, he1, hc1, hk1⟩ := q2
        refine ⟨_, hσ, a, od, rfl, .inl ⟨kvs, upd_same, ?_⟩⟩
        have hn1 : ¬ Live ca1 a := fun l => by
          obtain ⟨o, e, mu⟩ := hc1.mut l
          rw [upd_same] at e
          cases e
          exact mu
        refine hk1 (Itk a od kvs) _ ca1 (Stp.refl _ _) hc1 ?_
        rw [← h2]
        exact itd_keys hn1 upd_same
      · exact hk.elim
    · exact hk.elim
  · exact hk.elim
end

/-! ### a, b = x, y -/
def sPar (i j : Nat) (r : Env → M (List W)) : MS := fun env cc => (r env cc).thenS env fun ws c => match ws with
  | [a, b] => .nx ((env.set i (some a)).set j (some b)) c
  | _ => .stuck
def sPar3 (i j l : Nat) (r : Env → M (List W)) : MS := fun env cc => (r env cc).thenS env fun ws c => match ws with
  | [a, b, d] => .nx (((env.set i (some a)).set j (some b)).set l (some d)) c
  | _ => .stuck
/-- (x, y, ..) = (a, b, ..): the tuple itself is seen by nobody -/
def sAsgT (n : Nat) (G : Tgs) (r : Env → M (List W)) : MS := fun env cc => (r env cc).thenS env fun ws c => if ws.length = n ∧ n ≤ CAP then (match G ws env c with
  | some env' => .nx env' c
  | none => .stuck) else .stuck
section
variable {X : Cx} {Wx : WX} {i j l : Nat} {x y z : Str} {a b c : Expr} {r : Env → M (List W)} {px py pz pt pos : Pos} {kt k2 pt2}
theorem sv_par (hc : X.calm = true) (hN : X.N.Nodup) (hi : X.N[i]? = some x) (hj : X.N[j]? = some y) (hij : i ≠ j)
    (hx : X.env.scope.names.lookup x = some .local) (hy : X.env.scope.names.lookup y = some .local) (ha : PAv X Wx [a, b] r)
    (hw : swappedStores [.Tuple [.Name x px, .Name y py] kt pt] (.Tuple [a, b] k2 pt2) X.env
      = pure (some [x, y]))
    (hs : swapsWithSole [.Tuple [.Name x px, .Name y py] kt pt] (.Tuple [a, b] k2 pt2) pos.line X.env
      = pure false := by rfl) :
    PSv X Wx (.Assign [.Tuple [.Name x px, .Name y py] kt pt] (.Tuple [a, b] k2 pt2) pos) (sPar i j r) := (ps_par hc hN hi hj hij hx hy ha hw hs).imp fun Dn σ H h =>
  EvSt.bind h fun env ca ws cc vs H' he hc d hk => by
    split at hk
    · rename_i a b
      obtain ⟨v, vr, rfl, d1, v2, vr2, rfl, d2, d3⟩ := d
      cases (show vr2 = [] from d3)
      exact ⟨v, v2, rfl, hk _ H' ca (Stp.refl _ _) ((he.set d1).set d2) hc⟩
    · exact hk.elim
theorem sv_par3 (hc : X.calm = true) (hN : X.N.Nodup) (hi : X.N[i]? = some x) (hj : X.N[j]? = some y) (hl : X.N[l]? = some z) (hij : i ≠ j) (hil : i ≠ l) (hjl : j ≠ l)
    (hx : X.env.scope.names.lookup x = some .local) (hy : X.env.scope.names.lookup y = some .local) (hz : X.env.scope.names.lookup z = some .local) (ha : PAv X Wx [a, b, c] r)
    (hw : swappedStores [.Tuple [.Name x px, .Name y py, .Name z pz] kt pt] (.Tuple [a, b, c] k2 pt2) X.env
      = pure (some [x, y, z]))
    (hs : swapsWithSole [.Tuple [.Name x px, .Name y py, .Name z pz] kt pt] (.Tuple [a, b, c] k2 pt2) pos.line X.env
      = pure false := by rfl) :
    PSv X Wx (.Assign [.Tuple [.Name x px, .Name y py, .Name z pz] kt pt] (.Tuple [a, b, c] k2 pt2) pos) (sPar3 i j l r) := (ps_par3 hc hN hi hj hl hij hil hjl hx hy hz ha hw hs).imp fun Dn σ H h =>
  EvSt.bind h fun env ca ws cc vs H' he hc d hk => by
    split at hk
    · rename_i a b c
      obtain ⟨v, vr, rfl, d1, v2, vr2, rfl, d2, v3, vr3, rfl, d3, d4⟩ := d
      cases (show vr3 = [] from d4)
      exact ⟨v, v2, v3, rfl, hk _ H' ca (Stp.refl _ _) (((he.set d1).set d2).set d3) hc⟩
    · exact hk.elim
theorem sv_asgT {es tgs : List Expr} {js : List Nat} {G : Tgs} {n k : Nat} {x1} {p1 p2 : Pos} (hc : X.calm = true) (ha : PAv X Wx es r) (hg : PGsv X tgs js G) (hn : (assignEach tgs X.env).length = n := by rfl) (hst : (assignEach tgs X.env).findIdx? (·.1) = none := by rfl)
    (hs : swapsWithSole [.Tuple tgs k p1] (.Tuple es x1 p2) pos.line X.env = pure false := by rfl) (hw : swappedStores [.Tuple tgs k p1] (.Tuple es x1 p2) X.env = pure none := by rfl)
    (h1 : (assignEach [.Tuple tgs k p1] X.env).map (·.2) = [assign (.Tuple tgs k p1) X.env] := by rfl) : PSv X Wx (.Assign [.Tuple tgs k p1] (.Tuple es x1 p2) pos) (sAsgT n G r) :=
  (ps_asg (pe_tup ha) (pg_tup hc hg hn hst) hs hw h1).imp fun Dn σ H h =>
    EvSt.bind h fun env ca ws cc vs H' he hc d hk => by
      split at hk
      · rename_i hl
        refine ⟨cap_ok (by rw [d.length, hl.1]; exact hl.2), fun p hp => ⟨p, vs, rfl, .inl (.inl upd_same), by rw [d.length]; exact hl.1, ?_⟩⟩
        have st : Stp ca H' ca (upd H' p (.tup vs)) := Stp.new hc hp
        split at hk
        · rename_i env' e
          exact ⟨env, ca, cc, ws, env', he.mono st, hc.new hp, d.mono st, e, fun σ' he' _ => hk σ' _ ca st he' (hc.new hp)⟩
        · exact hk.elim
      · exact hk.elim
end

/-! ### o[i] = value -/
theorem _root_.L2.PSet.or {X : Cx} {t t' : TSet} (h : PSet X t) (h' : PSet X t') : PSet X (fun o i v H Q => t o i v H Q ∨ t' o i v H Q) := fun pins s σ H o i v ov iv u Q I ro ri rv q => q.elim (h pins s σ H o i v ov iv u Q I ro ri rv) (h' pins s σ H o i v ov iv u Q I ro ri rv)
def putW {α : Type} (ks : List D) (vs : List α) (k : Key) (w : α) : List D × List α :=
  if ks.any (fun x => isKey x k) = true then (ks, List.zipWith (fun x v => if isKey x k = true then w else v) ks vs) else (ks ++ [keyD k], vs ++ [w])
theorem putW_kv (k : Key) (v : V) (kvs : List (Key × V)) : putW (kvs.map fun p => keyD p.1) (kvs.map (·.2)) k v = ((putK kvs k v).map (fun p => keyD p.1), (putK kvs k v).map (·.2)) := by
  have e : (kvs.map fun p => keyD p.1).any (fun x => isKey x k) = kvs.any fun kv => decide (kv.1 = k) := by
    rw [List.any_map]
    congr 1
    funext p
    exact isKey_iff p.1 k
  unfold putW putK
  rw [e]
  by_cases h : (kvs.any fun kv => decide (kv.1 = k)) = true
  · rw [if_pos h, if_pos h]
    clear h e
    refine Prod.ext ?_ ?_
    · rw [List.map_map]
      apply List.map_congr_left; intro p _
      simp only [Function.comp]
      split <;> rfl
    · show List.zipWith _ _ _ = _
      induction kvs with
      | nil => rfl
      | cons p r ih =>
        simp only [List.map_cons, List.zipWith_cons_cons, isKey_iff, decide_eq_true_eq]
        have ih' : List.zipWith (fun x v_1 => if isKey x k = true then v else v_1) (r.map fun p => keyD p.1) (r.map (·.2)) = (r.map (fun kv => if kv.1 = k then (kv.1, v) else kv)).map (·.2) := ih
        rw [ih']
        split <;> rfl
  · rw [if_neg h, if_neg h]
    simp
theorem putW_ks {α β : Type} {ks : List D} {vs : List α} {us : List β} {k : Key} {v : α} {u : β} : (putW ks vs k v).1 = (putW ks us k u).1 := by
  unfold putW
  split <;> rfl
theorem putW_den {K : PySem.W.Frag} {mg : Str → Option Value} {ca : Ca} {H : Hp} {k : Key} {w : W} {v : V} (dw : DenW K mg ca H w v) {ks : List D} {ws : List W} {vs : List V} (d : DenWs K mg ca H ws vs) : DenWs K mg ca H (putW ks ws k w).2 (putW ks vs k v).2 := by
  unfold putW
  split
  · show DenWs K mg ca H (List.zipWith _ ks ws) (List.zipWith _ ks vs)
    rename_i hany
    clear hany
    induction ks generalizing ws vs with
    | nil => exact rfl
    | cons x ks ih =>
      cases ws with
      | nil => cases (show vs = [] from d); exact rfl
      | cons w' ws =>
        obtain ⟨v', vr, rfl, d1, d2⟩ := d
        refine ⟨_, _, rfl, ?_, ih d2⟩
        show DenW K mg ca H (if isKey x k = true then w else w') (if isKey x k = true then v else v')
        by_cases q : isKey x k = true
        · rw [if_pos q, if_pos q]; exact dw
        · rw [if_neg q, if_neg q]; exact d1
  · exact d.append ⟨v, [], rfl, dw, rfl⟩
/-- what a store by index makes of the cells -/
def putI (cc : Cs) (o i w : W) : Option Cs := match o, see cc i with
  | .cell n, some y => match cc[n]? with
    | some (some (.dct ks ws)) => match asKey y with
      | some k => if ks.length < CAP then some (cc.set n (some (.dct (putW ks ws k w).1 (putW ks ws k w).2))) else none
      | none => none
    | some (some (.lst ds)) => match y, w with
      | .int j, .d x => match ixN ds.length j with
        | some m => some (cc.set n (some (.lst (ds.set m x))))
        | none => none
      | _, _ => none
    | _ => none
  | _, _ => none
def sPutI (mv mo mi : ME) : MS := fun env cc => (mv env cc).thenS env fun w c1 => (mo env c1).thenS env fun o c2 => (mi env c2).thenS env fun i c3 => match putI c3 o i w with
  | some c4 => .nx env c4
  | none => .stuck
def rSetA : TSet := fun o i v H Q => rSetL o i v H Q ∨ rSetD o i v H Q
theorem set_all {X : Cx} (hu : X.A.units + 1 < cLine) : PSet X rSetA := set_list.or (set_dict hu)
theorem putI_ok {K : PySem.W.Frag} {mg : Str → Option Value} {ca : Ca} {H : Hp} {cc c4 : Cs} {o i w : W} {ov iv v : V} (hc : CsOk K mg ca H cc) (d1 : DenW K mg ca H o ov) (d2 : DenW K mg ca H i iv) (d3 : DenW K mg ca H w v) (e : putI cc o i w = some c4) {Q : Hp → Prop}
    (k : ∀ H', Stp ca H ca H' → CsOk K mg ca H' c4 → Q H') : rSetA ov iv v H Q := by
  unfold putI at e
  split at e
  · rename_i n y hy
    have dy := see_ok hc d2 hy
    split at e
    · rename_i ks ws hn
      split at e
      · rename_i kk hk
        split at e
        · rename_i hl
          cases e
          obtain ⟨rfl, rfl⟩ := asKey_ok hk dy
          obtain ⟨a, ha, rfl, kvs, h1, h2, h3⟩ := cell_at hc d1 hn
          have hlen : kvs.length < sizeLine := by
            have := congrArg List.length h2
            rw [List.length_map] at this
            rw [sizeLine_eq, this]
            exact hl
          have st : Stp ca H ca (upd H a (.dK (putK kvs kk v))) := Stp.write hc ha
          refine .inr ⟨a, _, rfl, DPut.k h1 hlen, k _ st (hc.write ha ?_)⟩
          have q := putW_kv kk v kvs
          rw [h2] at q
          refine ⟨putK kvs kk v, upd_same, ?_, ?_⟩
          · rw [putW_ks (us := kvs.map (·.2)) (u := v), q]
          · have := (putW_den (ks := ks) (k := kk) d3 h3).mono st
            rw [q] at this
            exact this
        · cases e
      · cases e
    · rename_i ds hn
      split at e
      · rename_i j x
        split at e
        · rename_i m hm
          cases e
          obtain ⟨a, ha, rfl, vs, h1, h2⟩ := cell_at hc d1 hn
          have st : Stp ca H ca (upd H a (.lst (vs.set m v))) := Stp.write hc ha
          refine .inl ⟨a, vs, j, m, rfl, dy, h1, by rw [h2.length]; exact hm, k _ st (hc.write ha ⟨_, upd_same, ?_⟩)⟩
          exact DenL.mono st.kp _ _ (h2.set m d3)
        · cases e
      · cases e
    · cases e
  · cases e
section
variable {X : Cx} {Wx : WX} {o i e : Expr} {mo mi mv : ME} {pos pos' : Pos}
theorem sv_putI (hu : X.A.units + 1 < cLine) (hv : PEv X Wx e mv) (ho : PEv X Wx o mo) (hi : PEv X Wx i mi)
    (ha : ∀ v, assign (.Subscript o i pos') X.env v = (do
      let thing ← holding [v] (eval o X.env)
      let place ← holding [v, thing] (eval i X.env)
      standAt pos'
      holding [v, thing, place] (setItem thing place v)
      release [v, thing, place] []) := by intro _; rfl)
    (hs : swapsWithSole [.Subscript o i pos'] e pos.line X.env = pure false := by rfl) (hw : swappedStores [.Subscript o i pos'] e X.env = pure none := by rfl)
    (h1 : (assignEach [.Subscript o i pos'] X.env).map (·.2) = [assign (.Subscript o i pos') X.env] := by rfl) : PSv X Wx (.Assign [.Subscript o i pos'] e pos) (sPutI mv mo mi) :=
  (ps_asg hv (pg_sub ho hi (set_all hu) ha) hs hw h1).imp fun Dn σ H h => EvSt.bind h fun env ca w cc v H' he hc d hk => ⟨env, ca, cc, he, hc, KSt.bind he hk fun o2 c2 v2 H2 ca2 p2 hc2 d2 hk2 =>
    ⟨env, ca2, c2, he.mono p2, hc2, KSt.bind (he.mono p2) hk2 fun i3 c3 v3 H3 ca3 p3 hc3 d3 hk3 => by
      split at hk3
      · rename_i c4 e4
        exact putI_ok hc3 (d2.mono p3) d3 ((d.mono p2).mono p3) e4 fun H' st hc' => hk3 σ H' ca3 st (((he.mono p2).mono p3).mono st) hc'
      · exact hk3.elim⟩⟩
end

/-! ### a def that gives its own new list -/
def endFnC (n : Nat) : SR → R W
  | .rt (.cell m) cc => if m = n ∧ okBelow (n + 1) (cc.take (n + 1)) = true then .ok (.cell n) (cc.take (n + 1)) else .stuck
  | .raise x _ cc => if okBelow n (cc.take n) = true then .raise x (cc.take n) else .stuck
  | _ => .stuck
def fnOfC (n : Nat) (m : MS) : Fn := fun ws cc => endFnC cc.length (m (env0 n ws) cc)
section
variable {K : PySem.W.Frag} {mg : Str → Option Value} {ca : Ca} {H : Hp} {cc : Cs}
theorem Stp.takeK {ca0 : Ca} {H0 : Hp} {k : Nat} (p : Stp ca0 H0 ca H) (hk : ca0.l.length ≤ k) (hl : k ≤ ca.l.length) : Stp ca0 H0 (ca.cut k) H :=
  ⟨⟨by rw [cut_len]; omega, fun n a hn e => p.old n a hn (cut_some e).2, p.kp.trans Kp.take⟩, p.gEq, p.gKp⟩
theorem end_okC {Q : VK} {E : XK} {r : SR} (hl : ca.l.length = cc.length) (h : KS K mg (denV K mg) E ca H Q (endFnC cc.length r)) :
    KSt K mg (fun c d _ H => E c d H) ca H { nx := fun _ H' => Q .non H', rt := Q } r := by
  cases r with
  | nx env c => exact h.elim
  | rt w c =>
    cases w with
    | d x => exact h.elim
    | cell m =>
      simp only [endFnC] at h
      split at h
      · rename_i hb
        intro v H' ca' p hc d
        obtain ⟨rfl, hb⟩ := hb
        have hm : cc.length < ca'.l.length := d.1
        exact h.now (p.takeK (k := cc.length + 1) (by omega) hm) (hc.take hm hb) (d.take (n := cc.length + 1) hm (by simp [okBelow1]))
      · exact h.elim
  | bk env c => exact h.elim
  | ct env c => exact h.elim
  | raise x env c =>
    simp only [endFnC] at h
    split at h
    · rename_i hb
      intro cls dd σ H' ca' p he hc hx
      have hl' : cc.length ≤ ca'.l.length := by rw [← hl]; exact p.len
      have p' := p.take
      rw [hl] at p'
      exact h cls dd H' _ p' (hc.take hl' hb) hx.take
    · exact h.elim
  | stuck => exact h.elim
end
section
variable {P : Program} {w : World} {K : PySem.W.Frag} {mg : (Str → Option Value)} {base : Heap}
theorem fn_okC {x qual : Str} {params : Arguments} {body : List Stmt} {scope : Scope} {dvs : List V} {kws : List (Str × V)} {f : Addr} {fd : FuncData} {N ps : List Str} {k : Nat} {m : MS} (F : FunD K x qual params body scope dvs kws f fd) (S : FnScope N ps scope) (hl : ps.length ≤ N.length)
    (hb : ∀ (cdv : Value) (A : Around) (outer : List PySem.Env) (s : Shared) (H : Hp) (E : XK), Room k (A.deeper (envOfC qual scope s.heap.objs.size f cdv)) →
      Takes (cxOf (L2.CX P w) P w K mg base N qual scope f cdv A outer s H E) (fun c d _ H => E c d H) →
      PSsv (cxOf (L2.CX P w) P w K mg base N qual scope f cdv A outer s H E) (fun c d _ H => E c d H) body m) :
    FnOk P w K mg base (L2.CX P w) (k + 1) f fd ps (spOf K mg ps.length (fnOfC N.length m)) := by
  refine F.ok S (fun vs H Q E h => ?_) (fun cdv A outer s H vs Q E hr h => ⟨_, hb cdv A outer s H E hr (takes_of rfl rfl rfl rfl), ?_⟩)
  · obtain ⟨ws, ca, cc, h1, h2, _⟩ := h
    rw [h2.length, h1]
  · obtain ⟨ws, ca, cc, h1, h2, hc, hk⟩ := h
    exact ⟨env0 N.length ws, ca, cc, envOk_start h2 (by omega), hc, end_okC hc.len hk⟩
end
end DL
set_option Elab.async false
set_option linter.all false
set_option maxRecDepth 100000
set_option maxHeartbeats 1900000
/-! DL11: keywords. -/
namespace DL
open L2 PyProof.Rows PySem PySem.Spec
abbrev PKv (X : Cx) (Wx : WX) (kws : List Keyword) (m : Env → M (List W)) : Prop := PK X kws (EvA X Wx m)
theorem _root_.L2.PK.imp {X : Cx} {e : List Keyword} {t t' : TA} (h : PK X e t) (i : ∀ σ H Q, t' σ H Q → t σ H Q) : PK X e t' := ⟨fun pos pins s σ H Q I q => h.run pos pins s σ H Q I (i σ H Q q)⟩
section
variable {X : Cx} {Wx : WX} {e : Expr} {kws : List Keyword} {nm : Option Str} {kpos : Pos} {a : ME} {r : Env → M (List W)}
theorem kv_nil : PKv X Wx [] mNil := pk_nil.imp fun σ H Q h => by
  obtain ⟨env, ca, cc, he, hc, hk⟩ := h
  exact hk.now (Stp.refl _ _) hc rfl
theorem kv_cons (ha : PEv X Wx e a) (hr : PKv X Wx kws r) : PKv X Wx (⟨nm, e, kpos⟩ :: kws) (mCons a r) := (pk_cons ha hr).imp fun σ H Q h =>
  Ev.bind h fun env ca w cc v H' he hc d hk => ⟨env, ca, cc, he, hc, KS.bind hk fun ws c2 vs H2 ca2 p hc2 d2 hk2 => hk2.now (Stp.refl _ _) hc2 ⟨v, vs, rfl, d.mono p, d2⟩⟩
end
theorem passes0 {X : Cx} : Passes (L2.CX X.prog X.w) X (fun _ _ _ => False) := fun _ _ _ _ _ _ _ h => by
  obtain ⟨_, _, _, _, _, _, _, _, _, _, _, _, h⟩ := h
  exact h.elim
def mMakeK (c : Str) (keep : Bool) (F : Fn) (n np nk : Nat) (g : List W → List W → List W) (r rk : Env → M (List W)) : ME := fun env cc => (r env cc).bind fun ws c1 => (rk env c1).bind fun zs c2 =>
  if ws.length = np ∧ zs.length = nk ∧ (W.cell c2.length :: g ws zs).length = n then (match F (.cell c2.length :: g ws zs) (c2 ++ [some (.obj c [] [])]) with
    | .ok w c3 => mkEnd c2.length keep w c3
    | _ => .stuck) else .stuck
/-- the reordering keeps what is meant -/
def GOk (K : PySem.W.Frag) (mg : Str → Option Value) (g : List W → List W → List W) (gV : List V → List V → List V) : Prop :=
  ∀ ca H ws zs v vs us, DenWs K mg ca H ws vs → DenWs K mg ca H zs us → ∃ rs, gV (v :: vs) us = v :: rs ∧ DenWs K mg ca H (g ws zs) rs
section
variable {X : Cx} {Wx : WX} {k n np : Nat} {f Cl : Addr} {fd : FuncData} {ps ks : List Str} {F : Fn} {c : Str} {p pos : Pos} {e : Expr} {es : List Expr} {kws : List Keyword} {r rk : Env → M (List W)} {g : List W → List W → List W} {gv : List Value → List Value → List Value} {gV : List V → List V → List V}
theorem makeK_read {σ : L2.St} {H : Hp} {Q : VK} {keep : Bool} (hC : ClsF X.K X.mg c Cl) (hg : GOk X.K X.mg g gV) (h : EvE X Wx (mMakeK c keep F n np ks.length g r rk) σ H Q) :
    tMakeK Cl np ks.length (spOf X.K X.mg n F) gV (fun _ _ _ => False) (EvA X Wx r) (EvA X Wx rk) σ H Q :=
  Ev.bind h fun env ca ws cc vs H' he hc d hk => ⟨env, ca, cc, he, hc, KS.bind hk fun zs c2 us H2 ca2 p2 hc2 d2 hk2 => by
    split at hk2
    · rename_i hl
      refine ⟨by rw [d.length]; exact hl.1, by rw [d2.length]; exact hl.2.1, fun x dx hx hdx ne => ?_⟩
      obtain ⟨rs, e1, d3⟩ := hg ca2 H2 ws zs (.ref x) vs us (d.mono p2) d2
      rw [e1]
      refine make_sp (Wx := W0) (σ := σ) (keep := keep) hC hc2 d3 hl.2.2 ?_ x dx hx hdx ne
      cases q : F (.cell c2.length :: g ws zs) (c2 ++ [some (.obj c [] [])]) with
      | ok w c3 =>
        rw [q] at hk2
        have hk3 : KS X.K X.mg (denV X.K X.mg) (fun c d H => Wx c d σ H) ca2 H2 Q (mkEnd c2.length keep w c3) := hk2
        show KS X.K X.mg (denV X.K X.mg) (fun c d H => W0 c d σ H) ca2 H2 Q (mkEnd c2.length keep w c3)
        cases q2 : mkEnd c2.length keep w c3 with
        | ok w4 c4 => rw [q2] at hk3; exact hk3
        | raise y c4 =>
          exfalso
          unfold mkEnd at q2
          split at q2
          · split at q2
            · split at q2 <;> cases q2
            · split at q2
              · unfold cut at q2
                split at q2 <;> cases q2
              · cases q2
          · cases q2
        | stuck => rw [q2] at hk3; exact hk3
      | raise y c3 => rw [q] at hk2; exact hk2.elim
      | stuck => rw [q] at hk2; exact hk2.elim
    · exact hk2.elim⟩
theorem pv_makeK {keep : Bool} (hC : ClsF X.K X.mg c Cl) (M : Mk X.K Cl f) (G : FnOk X.prog X.w X.K X.mg X.base (L2.CX X.prog X.w) k f fd ps (spOf X.K X.mg n F)) (hr : Room (k + 1) X.A) (hgl : Gl X c) (hb : KBn X.K fd ps (np + 1) ks gv gV) (hg : GOk X.K X.mg g gV)
    (ha : PAv X Wx (e :: es) r) (hkw : PKv X Wx kws rk)
    (hall : (backToKw pos (keywordEach kws X.env)).all (·.1.isSome) = true := by rfl) (hks : (backToKw pos (keywordEach kws X.env)).filterMap (·.1) = ks := by rfl) (hdb : (c == ("__debug__" : Str)) = false := by decide)
    (he : ArgAt X e es := by rfl) (hpl : FlatKw X pos (e :: es) kws := by rfl) :
    PEv X Wx (.Call (.Name c p) (e :: es) kws pos) (mMakeK c keep F n np ks.length g r rk) := (pe_makeK M G hr hgl hC.mg hb passes0 ha hkw hall hks hdb he hpl).imp fun _ _ _ h => makeK_read hC hg h
theorem pv_makeK0 {keep : Bool} (hC : ClsF X.K X.mg c Cl) (M : Mk X.K Cl f) (G : FnOk X.prog X.w X.K X.mg X.base (L2.CX X.prog X.w) k f fd ps (spOf X.K X.mg n F)) (hr : Room (k + 1) X.A) (hgl : Gl X c) (hb : KBn X.K fd ps 1 ks gv gV) (hg : GOk X.K X.mg g gV)
    (hkw : PKv X Wx kws rk)
    (hall : (backToKw pos (keywordEach kws X.env)).all (·.1.isSome) = true := by rfl) (hks : (backToKw pos (keywordEach kws X.env)).filterMap (·.1) = ks := by rfl) (hdb : (c == ("__debug__" : Str)) = false := by decide)
    (hpl : FlatKw X pos [] kws := by rfl) :
    PEv X Wx (.Call (.Name c p) [] kws pos) (mMakeK c keep F n 0 ks.length g mNil rk) := (pe_makeK0 M G hr hgl hC.mg hb passes0 hkw hall hks hdb hpl).imp fun σ H Q h => by
  have q := makeK_read (n := n) (np := 0) (keep := keep) hC hg h
  obtain ⟨env, ca, cc, he, hc, hk⟩ := q
  exact hk.now (Stp.refl _ _) hc rfl
end
end DL
set_option Elab.async false
set_option linter.all false
set_option maxRecDepth 100000
set_option maxHeartbeats 1900000
/-! HX: the head's facts in parts, each part by a run of its own. -/
namespace HX
open PySem PySem.Spec PySem.Calls PyProof.Rows L2 HandSHeadRun
/-- the object at 0 is no def -/
def z0 (K : PySem.W.Frag) : Bool := match K.lookup 0 with
  | some ⟨_, _, .func _, _⟩ => false
  | _ => true
structure Part where
  fa : List He.Fa
  fn : List He.DefD
  ex : PySem.W.Frag → Bool
/-- the places that are looked at -/
def asX (n : Nat) : List Addr := mainGlobals :: List.range n
abbrev Al1 : Type := Bool × He.AlD
def obs1 (p : Part) (K : PySem.W.Frag) : Al1 := (p.ex K && z0 K, He.obsD p.fa p.fn K)
def val1 (p : Part) : Al1 := (true, He.valD p.fn)
def obsP (n : Nat) (ps : List Part) (g : Addr → Option Obj) : List Al1 := ps.map fun p => obs1 p (He.frG g (asX n))
structure Says (ps : List Part) (K : PySem.W.Frag) : Prop where
  all : ∀ p ∈ ps, obs1 p K = val1 p
def hookP (n : Nat) (ps : List Part) : PySem.W.Hook where
  α := List Al1
  obs := fun s => obsP n ps s.heap.get?
  val := fun _ => ps.map val1
  says := fun _ h => ∃ K : PySem.W.Frag, K.In h ∧ Says ps K
  of := fun _ s e => ⟨He.frG s.heap.get? (asX n), He.frG_in, ⟨fun p hp => by
    obtain ⟨i, hi, e2⟩ := List.mem_iff_getElem.mp hp
    have e3 : (ps.map fun p => obs1 p (He.frG s.heap.get? (asX n)))[i]? = (ps.map val1)[i]? := congrArg (fun l : List Al1 => l[i]?) e
    rw [List.getElem?_map, List.getElem?_map, List.getElem?_eq_getElem hi, e2] at e3
    exact Option.some.inj e3⟩⟩
  keeps := by
    rintro _ _ _ ⟨K, inside, c⟩ k
    exact ⟨K, PySem.W.Frag.In.keeps inside k, c⟩
def ob (n : Nat) (ps : List Part) (s : PySem.W.SharedT) : List Al1 := obsP n ps (getT s)
theorem ob_eq (n : Nat) (ps : List Part) (s : PySem.W.SharedT) : ob n ps s = (hookP n ps).obs s.abs := by
  have e : getT s = s.abs.heap.get? := funext (getT_eq s)
  show obsP n ps (getT s) = obsP n ps s.abs.heap.get?
  rw [e]
def ob1 (n : Nat) (p : Part) (s : PySem.W.SharedT) : Al1 := obs1 p (He.frG (getT s) (asX n))
open PySem.W in
/-- the first part's run -/
def RunB (r : PySem.W.OpenRow) (q : Program) (n : Nat) (p : Part) (M : Nat) (loose : List PySem.Str) (w : World) : Prop :=
  ∀ os : OsState, (endF (stepQ (denQ tabQ) r.prog w) M r.prog w os).map (fun s => (looksF r.prog (boot_heap w.params) s.abs, seenQ q loose (importedModules r.prog.main.body) (fun s => PySem.W.xlAt q [] s && PySem.W.recOk r.toRowW.records s) s.abs, ob1 n p s)) = some (true, PySem.W.openGood q loose, val1 p)
/-- another part's run -/
def RunP (r : PySem.W.OpenRow) (n : Nat) (p : Part) (M : Nat) (w : World) : Prop :=
  ∀ os : OsState, (endF (stepQ (denQ tabQ) r.prog w) M r.prog w os).map (ob1 n p) = some (val1 p)
def RunAll (r : PySem.W.OpenRow) (n : Nat) (M : Nat) (w : World) : List Part → Prop
  | [] => True
  | p :: ps => RunP r n p M w ∧ RunAll r n M w ps
theorem runAll_at {r : PySem.W.OpenRow} {n : Nat} {M : Nat} {w : World} {os : OsState} {s : PySem.W.SharedT} (e : endF (stepQ (denQ tabQ) r.prog w) M r.prog w os = some s) : ∀ {ps : List Part}, RunAll r n M w ps → ps.map (fun p => ob1 n p s) = ps.map val1
  | [], _ => rfl
  | p :: ps, h => by
    have h1 := h.1 os
    rw [e] at h1
    have h2 : ob1 n p s = val1 p := Option.some.inj h1
    simp only [List.map_cons]
    rw [h2, runAll_at e h.2]
theorem join {r : PySem.W.OpenRow} {q : Program} {n : Nat} {p : Part} {ps : List Part} {M : Nat} {loose : List PySem.Str} {w : World} (h0 : RunB r q n p M loose w) (h : RunAll r n M w ps) : RunEq r q (hookP n (p :: ps)) (ob n (p :: ps)) M loose w := by
  intro os
  have z := h0 os
  cases e : endF (stepQ (denQ tabQ) r.prog w) M r.prog w os with
  | none =>
    rw [e] at z
    cases z
  | some s =>
    rw [e] at z
    have z2 := Option.some.inj z
    simp only [Prod.mk.injEq] at z2
    obtain ⟨l1, l2, l3⟩ := z2
    have l4 := runAll_at e h
    have l5 : ob n (p :: ps) s = (p :: ps).map val1 := by
      show ob1 n p s :: ps.map (fun p => ob1 n p s) = val1 p :: ps.map val1
      rw [l3, l4]
    exact congrArg some (Prod.ext l1 (Prod.ext l2 l5))
section
variable {ps : List Part} {K : PySem.W.Frag}
theorem Says.part (c : Says ps K) (i : Nat) {p : Part} (h : ps[i]? = some p := by rfl) : He.SaysD p.fa p.fn K ∧ p.ex K = true ∧ z0 K = true := by
  have e := c.all p (List.mem_of_getElem? h)
  have e1 : (p.ex K && z0 K) = true := congrArg (fun z : Al1 => z.1) e
  have e2 : He.obsD p.fa p.fn K = He.valD p.fn := congrArg (fun z : Al1 => z.2) e
  obtain ⟨h1, h2⟩ := Bool.and_eq_true_iff.mp e1
  exact ⟨e2, h1, h2⟩
/-- a def of the module stands at its name -/
theorem glo_of {h : Heap} {mg : Str → Option Value} {x nm : Str} {q : Str} {ps : Arguments} {b : List Stmt} {sc : Scope} {dv : List V} {kd : List (Str × V)} {fd : FuncData} (X : K.In h) (G : h.Ns mainGlobals mg) (z : z0 K = true)
    (F : FunD K nm q ps b sc dv kd (He.fAd K (x, none)) fd) : mg x = some (.ref (He.ga K x)) := by
  obtain ⟨oc, od, dV, kV, doc, pm, an, cdv, ct, osl, e, lk, _⟩ := F.ex
  have lk2 : K.lookup (He.ga K x) = some _ := lk
  cases q2 : PySem.W.nsIn K mainGlobals x with
  | none =>
    have e0 : He.ga K x = 0 := by unfold He.ga; rw [q2]
    rw [e0] at lk2
    unfold z0 at z
    rw [lk2] at z
    cases z
  | some o =>
    cases o with
    | none =>
      have e0 : He.ga K x = 0 := by unfold He.ga; rw [q2]
      rw [e0] at lk2
      unfold z0 at z
      rw [lk2] at z
      cases z
    | some v =>
      cases v with
      | ref a =>
        have e0 : He.ga K x = a := by unfold He.ga; rw [q2]
        rw [e0]
        exact PySem.W.mg_of X G q2
      | _ =>
        have e0 : He.ga K x = 0 := by unfold He.ga; rw [q2]
        rw [e0] at lk2
        unfold z0 at z
        rw [lk2] at z
        cases z
end
end HX
set_option Elab.async false
set_option linter.all false
set_option maxRecDepth 100000
set_option maxHeartbeats 1900000
/-! DL12: small things the printed derivations lean on. -/
namespace DL
open L2 PyProof.Rows PySem PySem.Spec
theorem room65 {k : Nat} {A : Around} (r : Room k A) : A.units + 65 < cLine := by have := r.un; omega
theorem room1 {k : Nat} {A : Around} (r : Room k A) : A.units + 1 < cLine := by have := r.un; omega
def dNeg : D → Option D
  | .int i => some (.int (-i))
  | _ => none
def mUn (g : D → Option D) (m : ME) : ME := fun env cc => (m env cc).bind fun w c => match w with
  | .d x => match g x with
    | some z => .ok (.d z) c
    | none => .stuck
  | _ => .stuck
section
variable {X : Cx} {Wx : WX} {e a : Expr} {m : ME} {pos : Pos}
theorem pv_neg (h : PEv X Wx e m) : PEv X Wx (.UnaryOp .USub e pos) (mUn dNeg m) := (pe_un un_neg h).imp fun σ H Q h =>
  Ev.bind h fun env ca w cc v H' he hc d hk => by
    split at hk
    · rename_i x
      split at hk
      · rename_i z e1
        unfold dNeg at e1
        split at e1
        · rename_i i
          cases e1
          exact ⟨i, d, hk.now (Stp.refl _ _) hc rfl⟩
        · cases e1
      · exact hk.elim
    · exact hk.elim
theorem tv_w {m : Env → M Bool} (h : PWv X Wx e m) : PTv X Wx e m := h.pt
/-- the return of nothing -/
def sRetN : MS := fun env cc => .rt (.d .non) cc
end
theorem DenWs.tk {K : PySem.W.Frag} {mg : Str → Option Value} {ca : Ca} {H : Hp} : ∀ {ws : List W} {vs : List V} (n : Nat), DenWs K mg ca H ws vs → DenWs K mg ca H (ws.take n) (vs.take n)
  | _, _, 0, _ => by simp only [List.take_zero]; exact rfl
  | [], _, n + 1, h => by
    cases (show _ = [] from h)
    exact rfl
  | _ :: _, _, n + 1, ⟨v, vr, e, h1, h2⟩ => by
    subst e
    exact ⟨v, vr.take n, rfl, h1, DenWs.tk n h2⟩
theorem DenWs.dp {K : PySem.W.Frag} {mg : Str → Option Value} {ca : Ca} {H : Hp} : ∀ {ws : List W} {vs : List V} (n : Nat), DenWs K mg ca H ws vs → DenWs K mg ca H (ws.drop n) (vs.drop n)
  | _, _, 0, h => h
  | [], _, n + 1, h => by
    cases (show _ = [] from h)
    exact rfl
  | _ :: _, _, n + 1, ⟨v, vr, e, h1, h2⟩ => by
    subst e
    exact DenWs.dp n h2
theorem DenWs.cs {K : PySem.W.Frag} {mg : Str → Option Value} {ca : Ca} {H : Hp} {w : W} {v : V} {ws : List W} {vs : List V} (h : DenW K mg ca H w v) (h2 : DenWs K mg ca H ws vs) : DenWs K mg ca H (w :: ws) (v :: vs) := ⟨v, vs, rfl, h, h2⟩
theorem DenWs.nl {K : PySem.W.Frag} {mg : Str → Option Value} {ca : Ca} {H : Hp} : DenWs K mg ca H [] [] := rfl
theorem den_e {K : PySem.W.Frag} {mg : Str → Option Value} {ca : Ca} {H : Hp} {a : Addr} (h : KTup K a []) : DenW K mg ca H (.d (.tup [])) (.ref a) := ⟨a, [], rfl, .inr h, rfl⟩
/-- the keyword-only default x of the def at f, if it is an object -/
def _root_.He.kwAt (f : Str × Option Str) (x : Str) (K : PySem.W.Frag) : Addr := match K.lookup (He.fAd K f) with
  | some ⟨_, _, .func fd, _⟩ => (match fd.kwdefaults with
    | .ref D => (match PySem.W.nsIn K D x with
      | some (some (.ref a)) => a
      | _ => 0)
    | _ => 0)
  | _ => 0
/-- no name holds a cell from n on -/
def envBelow (n : Nat) (env : Env) : Bool := env.all fun o => match o with
  | some w => okBelow1 n w
  | none => true
/-- behind the statements the names js are forgotten, and the cells made within are cut -/
def sScope (js : List Nat) (b : MS) : MS := fun env cc => match b env cc with
  | .nx e c => if envBelow cc.length (wipeE e js) = true ∧ okBelow cc.length (c.take cc.length) = true then .nx (wipeE e js) (c.take cc.length) else .stuck
  | r => r
theorem EnvOk.take {K : PySem.W.Frag} {mg : Str → Option Value} {ca : Ca} {H : Hp} {env : Env} {σ : L2.St} {n : Nat} (h : EnvOk K mg ca H env σ) (hl : n ≤ ca.l.length) (ok : envBelow n env = true) : EnvOk K mg (ca.cut n) H env σ := ⟨h.len, fun i w e => by
  obtain ⟨v, e1, d⟩ := h.at_ i w e
  refine ⟨v, e1, d.take hl ?_⟩
  have := List.all_eq_true.mp ok (some w) (List.mem_of_getElem? e)
  exact this⟩
theorem wipeE_len (env : Env) : ∀ vs : List Nat, (wipeE env vs).length = env.length
  | [] => rfl
  | v :: vs => by simp [wipeE, wipeE_len env vs]
theorem wipeE_get {env : Env} {j : Nat} {w : W} : ∀ {vs : List Nat}, (wipeE env vs)[j]? = some (some w) → env[j]? = some (some w)
  | [], h => h
  | v :: vs, h => by
    simp only [wipeE] at h
    by_cases e : v = j
    · subst e
      by_cases hl : v < (wipeE env vs).length
      · rw [List.getElem?_set_self hl] at h; cases h
      · rw [List.getElem?_eq_none (by simpa using hl)] at h; cases h
    · rw [List.getElem?_set_ne e] at h
      exact wipeE_get h
theorem EnvOk.forget {K : PySem.W.Frag} {mg : Str → Option Value} {ca : Ca} {H : Hp} {env : Env} {σ : L2.St} (h : EnvOk K mg ca H env σ) (js : List Nat) : EnvOk K mg ca H (wipeE env js) σ := ⟨by rw [wipeE_len]; exact h.len, fun i w e => h.at_ i w (wipeE_get e)⟩
theorem ssv_scope {X : Cx} {Wx : WX} {sts : List Stmt} {b : MS} (js : List Nat) (h : PSsv X Wx sts b) : PSsv X Wx sts (sScope js b) := h.imp fun Dn σ H q => by
  obtain ⟨env, ca, cc, he, hc, hk⟩ := q
  refine ⟨env, ca, cc, he, hc, ?_⟩
  unfold sScope at hk
  cases q : b env cc with
  | nx e c =>
    rw [q] at hk
    have hk' : KSt X.K X.mg Wx ca H Dn (if envBelow cc.length (wipeE e js) = true ∧ okBelow cc.length (c.take cc.length) = true then SR.nx (wipeE e js) (c.take cc.length) else .stuck) := hk
    split at hk'
    · rename_i hh
      intro σ' H' ca' p he' hc'
      have hl : cc.length ≤ ca'.l.length := by rw [← hc.len]; exact p.len
      have p' := p.take
      rw [hc.len] at p'
      exact hk' σ' H' _ p' ((he'.forget js).take hl hh.1) (hc'.take hl hh.2)
    · exact hk'.elim
  | rt w c => rw [q] at hk; exact hk
  | bk e c => rw [q] at hk; exact hk
  | ct e c => rw [q] at hk; exact hk
  | raise x e c => rw [q] at hk; exact hk
  | stuck => rw [q] at hk; exact hk
/-- what a def of the module is known to be -/
structure DefF (K : PySem.W.Frag) (mg : Str → Option Value) (x : Str) (st : Stmt) (dvs : List V) (kws : List (Str × V)) : Prop where
  fd : ∃ fd, FunD K x x (defArgs st) (defBody st) (defScope st) dvs kws (He.ga K x) fd
  mg : mg x = some (.ref (He.ga K x))
/-- a method of a class -/
structure MetF (K : PySem.W.Frag) (c m q : Str) (st : Stmt) (dvs : List V) (kws : List (Str × V)) : Prop where
  fd : ∃ fd, FunD K m q (defArgs st) (defBody st) (defScope st) dvs kws (He.ma K (He.ga K c) m) fd
  me : Meth K (He.ga K c) m (He.ma K (He.ga K c) m)
/-- a def, by what it computes -/
def DefOk (P : Program) (w : World) (K : PySem.W.Frag) (mg : Str → Option Value) (base : Heap) (k : Nat) (x : Str) (ps : List Str) (F : Fn) : Prop :=
  ∃ fd, FnOk P w K mg base (L2.CX P w) k (He.ga K x) fd ps (spOf K mg ps.length F) ∧ Binds K fd ps [] ∧ mg x = some (.ref (He.ga K x)) ∧ PySem.W.keepIn K (.ref (He.ga K x)) = true
/-- the law's def -/
def LawOk (P : Program) (w : World) (K : PySem.W.Frag) (mg : (Str → Option Value)) (base : Heap) (k : Nat) (ps : List Str) (F : Fn) (st : Stmt) : Prop :=
  ∃ fd, FunD K "law" "law" (defArgs st) (defBody st) (defScope st) [] [] (He.ga K "law") fd ∧ FnOk P w K mg base (L2.CX P w) k (He.ga K "law") fd ps (spOf K mg ps.length F) ∧ mg "law" = some (.ref (He.ga K "law"))
/-- a method, by what it computes (all parameters given) -/
def MetOk (P : Program) (w : World) (K : PySem.W.Frag) (mg : Str → Option Value) (base : Heap) (k : Nat) (c m : Str) (ps : List Str) (F : Fn) : Prop :=
  ∃ fd, FnOk P w K mg base (L2.CX P w) k (He.ma K (He.ga K c) m) fd ps (spOf K mg ps.length F) ∧ Binds K fd ps [] ∧ Meth K (He.ga K c) m (He.ma K (He.ga K c) m)
def clsStmt (s : Stmt) (j : Nat) : Stmt := match s with
  | .ClassDef _ _ _ b _ _ _ _ _ _ _ => b.getD j (.Pass ⟨0, 0, 0, 0⟩)
  | _ => .Pass ⟨0, 0, 0, 0⟩
end DL
set_option Elab.async false
set_option linter.all false
set_option maxRecDepth 100000
set_option maxHeartbeats 1900000
/-! DL13: dicts written out, with keys that are written. -/
namespace DL
open L2 PyProof.Rows PySem PySem.Spec
def mVals : List ME → Env → M (List D)
  | [], _, cc => .ok [] cc
  | m :: ms, env, cc => match m env cc with
    | .ok (.d x) c1 => match mVals ms env c1 with
      | .ok xs c2 => .ok (x :: xs) c2
      | _ => .stuck
    | _ => .stuck
def onceK : List Key → Bool
  | [] => true
  | k :: ks => !(ks.any fun j => decide (j = k)) && onceK ks
/-- {k: v, ..} -/
def mDct (ks : List Key) (ms : List ME) : ME := fun env cc => match mVals ms env cc with
  | .ok xs c => if xs.length = ks.length ∧ ks.length ≤ 15 ∧ onceK ks = true then .ok (.d (.dct (ks.map keyD) xs)) c else .stuck
  | _ => .stuck
section
variable {X : Cx} {Wx : WX}
def trsOf (X : Cx) (Wx : WX) : List Key → List ME → List (TE × TE)
  | k :: ks, m :: ms => (tC (kV k), EvE X Wx m) :: trsOf X Wx ks ms
  | _, _ => []
theorem merge_once : ∀ (kvs acc : List (Key × V)), onceK (kvs.map (·.1)) = true → (∀ p ∈ kvs, ∀ q ∈ acc, q.1 ≠ p.1) → mergeK acc kvs = acc ++ kvs
  | [], acc, _, _ => (List.append_nil acc).symm
  | p :: kvs, acc, h, apart => by
    simp only [List.map_cons, onceK, Bool.and_eq_true, Bool.not_eq_true'] at h
    have step : putK acc p.1 p.2 = acc ++ [p] := by
      unfold putK
      rw [if_neg ?_]
      intro z
      obtain ⟨q, mem, e⟩ := List.any_eq_true.mp z
      exact apart p List.mem_cons_self q mem (of_decide_eq_true e)
    have more := merge_once kvs (acc ++ [p]) h.2 (by
      intro r memr q memq
      rcases List.mem_append.mp memq with same | same
      · exact apart r (List.mem_cons_of_mem _ memr) q same
      · rw [List.mem_singleton.mp same]
        intro e
        have none := h.1
        rw [List.any_eq_false] at none
        exact none r.1 (List.mem_map_of_mem memr) (decide_eq_true e.symm))
    show mergeK (putK acc p.1 p.2) kvs = _
    rw [step, more, List.append_assoc]
    rfl
theorem vals_read {σ : L2.St} {env : Env} : ∀ {ks : List Key} {ms : List ME} {xs : List D} {ca : Ca} {H : Hp} {cc c2 : Cs} {Q : List (V × V) → Hp → Prop}, ms.length = ks.length → mVals ms env cc = .ok xs c2 → EnvOk X.K X.mg ca H env σ → CsOk X.K X.mg ca H cc →
    (∀ vs H2 ca2, Stp ca H ca2 H2 → CsOk X.K X.mg ca2 H2 c2 → DenL X.K X.mg (Live ca2) H2 xs vs → Q ((ks.zip vs).map fun kv => (kV kv.1, kv.2)) H2) → tPairs (trsOf X Wx ks ms) σ H Q
  | [], [], xs, ca, H, cc, c2, Q, _, e, he, hc, go => by
    simp only [mVals, R.ok.injEq] at e
    obtain ⟨rfl, rfl⟩ := e
    exact go [] H ca (Stp.refl _ _) hc rfl
  | k :: ks, [], _, _, _, _, _, _, l, _, _, _, _ => nomatch l
  | [], m :: ms, _, _, _, _, _, _, l, _, _, _, _ => nomatch l
  | k :: ks, m :: ms, xs, ca, H, cc, c2, Q, l, e, he, hc, go => by
    simp only [mVals] at e
    split at e
    · rename_i x c1 eM
      split at e
      · rename_i ys c3 eR
        simp only [R.ok.injEq] at e
        obtain ⟨rfl, rfl⟩ := e
        show EvE X Wx m σ H _
        refine ⟨env, ca, cc, he, hc, ?_⟩
        rw [eM]
        intro v H1 ca1 p1 hc1 d1
        refine vals_read (ks := ks) (ms := ms) (Nat.succ.inj l) eR (he.mono p1) hc1 ?_
        intro vs H2 ca2 p2 hc2 d2
        exact go (v :: vs) H2 ca2 (p1.trans p2) hc2 ⟨v, vs, rfl, DenD.mono p2.kp _ _ d1, d2⟩
      · exact nomatch e
    · exact nomatch e
theorem dct_read {ks : List Key} {ms : List ME} {σ : L2.St} {H : Hp} {Q : VK} (l : ms.length = ks.length) (h : EvE X Wx (mDct ks ms) σ H Q) : tDisp (trsOf X Wx ks ms) σ H Q := by
  obtain ⟨env, ca, cc, he, hc, left⟩ := h
  unfold mDct at left
  split at left
  · rename_i xs c2 eV
    split at left
    · rename_i cond
      obtain ⟨len, few, once⟩ := cond
      intro p none_p
      have hide := Mn.hide (ca := ca) (o := HO.dK []) none_p
      refine vals_read l eV (he.mn hide) (hc.hide none_p True.intro) ?_
      intro vs H2 ca2 p2 hc2 d2
      have g2 : ca2.g p := by rw [p2.gEq]; exact .inr rfl
      have at_p : H2 p = some (.dK []) := (p2.gKp p (.inr rfl)).trans upd_same
      have lv : vs.length = ks.length := d2.length.trans len
      have keys1 : (ks.zip vs).map (·.1) = ks := List.map_fst_zip (Nat.le_of_eq lv.symm)
      have vals1 : (ks.zip vs).map (·.2) = vs := List.map_snd_zip (Nat.le_of_eq lv)
      refine ⟨at_p, ks.zip vs, rfl, by rw [List.length_zip, lv, Nat.min_self]; exact few, ?_⟩
      have merged : mergeK [] (ks.zip vs) = ks.zip vs := merge_once _ [] (by rw [keys1]; exact once) (fun _ _ _ z => nomatch z)
      rw [merged]
      have gw : Mn ca2 H2 ca2 (upd H2 p (.dK (ks.zip vs))) := Mn.gwrite g2
      have more : ∀ a, ca.g a → ca2.g a := fun a ga => by rw [p2.gEq]; exact .inl ga
      have back : Stp ca H (ca2.back ca.g) (upd H2 p (.dK (ks.zip vs))) := by
        refine ⟨((hide.trans p2.toMn).trans gw).trans (Mn.back more), rfl, ?_⟩
        intro a ga
        have ne : a ≠ p := fun z => hc.gNew none_p (z ▸ ga)
        rw [upd_ne ne, p2.gKp a (.inl ga), upd_ne ne]
      have out : ¬ Live (ca2.back ca.g) p := by
        rintro (z | z)
        · obtain ⟨n, at_n⟩ := List.getElem?_of_mem z
          exact hc2.gd n p at_n g2
        · exact hc.gNew none_p z
      refine KS.now left back ((hc2.gwrite (o := .dK (ks.zip vs)) g2 True.intro).back more) (show DenD X.K X.mg (Live (ca2.back ca.g)) _ (.dct (ks.map keyD) xs) (.ref p) from ⟨p, vs, rfl, out, ⟨_, upd_same, ?_, vals1⟩, DenL.mono (gw.trans (Mn.back more)).kp _ _ d2⟩)
      have := congrArg (List.map keyD) keys1
      simpa [List.map_map, Function.comp_def] using this
    · exact left.elim
  · exact left.elim
theorem pps_n {pos : Pos} : PPs X pos [] [] (trsOf X Wx [] []) := pps_nil
theorem pps_s {pos p2 : Pos} {x : Str} {j : Nat} {e : Expr} {m : ME} {ks : List Key} {ms : List ME} {keys : List (Option Expr)} {values : List Expr} (h : PEv X Wx e m) (r : PPs X pos keys values (trsOf X Wx ks ms)) :
    PPs X pos (some (.Constant (.str x) j p2) :: keys) (e :: values) (trsOf X Wx (.inr x :: ks) (m :: ms)) := pps_cons (pe_str (x := x)) h r
theorem pv_dct {pos : Pos} {ks : List Key} {ms : List ME} {keys : List (Option Expr)} {values : List Expr} (h : PPs X pos keys values (trsOf X Wx ks ms)) (hl : ms.length = ks.length := by rfl) (h1 : keys.all (·.isSome) = true := by rfl) (h2 : keys.length = values.length := by rfl) (h3 : keys ≠ [] := by simp) (h4 : keys.length ≤ 15 := by decide) :
    PEv X Wx (.Dict keys values pos) (mDct ks ms) := (pe_disp h h1 h2 h3 h4).imp fun _ _ _ q => dct_read hl q
end
end DL
set_option Elab.async false
set_option linter.all false
set_option maxRecDepth 100000
set_option maxHeartbeats 1900000
/-! CF: list comprehensions of two clauses. -/
namespace L2
open PyProof.Rows PySem PySem.Spec
/-- the innermost code of a list comprehension -/
def leafL (elt : Expr) (env : Env) (L : Addr) (more : Sem Fin) : Sem Fin := do
  (do
    let got ← eval elt env
    let _ ← call (.builtin "list.append") [.ref L, got])
  more
theorem pn_leafL {B : Cx} {elt : Expr} {te : TE} {L : Addr} (pe : PE B elt te) : PN B (leafL elt B.env L) (fun σ H R => te σ H fun y H1 => ∃ xs, H1 L = some (.lst xs) ∧ xs.length < sizeLine ∧ R σ (upd H1 L (.lst (xs ++ [y])))) := by
  constructor
  intro pins s σ H R more Q inv left goOn
  unfold leafL
  apply wpAny_bind; apply wpAny_bind
  apply wpAny_mono (pe.run _ _ _ _ _ inv left) _ (fun _ _ f => f)
  rintro u s1 ⟨y, H1, inv1, rel1, xs, here, short, go⟩
  apply wpAny_bind
  apply wpAny_mono (mt_append pins s1 σ H1 (.ref L) [y] (.ref L) [u] (fun _ H2 => H2 = upd H1 L (.lst (xs ++ [y]))) inv1 rfl (.cons rel1 .nil) ⟨L, xs, y, rfl, rfl, here, short, rfl⟩) _ (fun _ _ f => f)
  rintro _ s2 ⟨_, H2, inv2, _, rfl⟩
  exact wpAny_pure (goOn s2 σ _ inv2 go)
end L2
namespace DL
open L2 PyProof.Rows PySem PySem.Spec
/-- a list is filled -/
def accL (K : PySem.W.Frag) (mg : Str → Option Value) : Acc K mg D where
  holds ca H L ys := ∃ vs, H L = some (.lst vs) ∧ DenL K mg (Live ca) H ys vs
  fits ys := ys.length ≤ CAP
  keep := by
    rintro ca H ca' H' L ys gL p ⟨vs, h, d⟩
    exact ⟨vs, (p.gKp L gL).trans h, DenL.mono p.kp _ _ d⟩
  less := by
    intro xs ys l
    exact Nat.le_trans (by simp) l
def dlOf (ys : List D) : Option D := if ys.length ≤ CAP then some (.lst ys) else none
def mLc2 (mi : Env → M (List D)) (vs : List Nat) (G : Tg) (t : Env → M Bool) (mi1 : Env → M (List D)) (vs1 : List Nat) (G1 : Tg) (t1 : Env → M Bool) (m : ME) : ME := mComp mi vs G t (mCl mi1 vs1 G1 t1 (mKey m)) dlOf
theorem nv_leafL {B : Cx} {elt : Expr} {m : ME} (pe : PEv B W0 elt m) : PNv B (leafL elt B.env) (accL B.K B.mg) [] (mKey m) := by
  intro L
  refine (pn_leafL pe).imp ?_
  rintro σ H R ⟨env, ca, cc, ys, zs, c1, he, hc, gL, ⟨vs, here, d⟩, run, cap, go⟩
  refine ⟨env, ca, cc, he, hc, ?_⟩
  unfold mKey at run
  split at run
  · rename_i y c2 eM
    rw [eM]
    simp only [DL.R.ok.injEq] at run
    obtain ⟨rfl, rfl⟩ := run
    intro v1 H1 ca1 p1 hc1 d1
    have g1 : ca1.g L := by rw [p1.gEq]; exact gL
    have gw : Mn ca1 H1 ca1 (upd H1 L (.lst (vs ++ [v1]))) := Mn.gwrite g1
    have cap2 : (ys ++ [y]).length ≤ CAP := cap
    refine ⟨vs, (p1.gKp L gL).trans here, ?_, ?_⟩
    · have l := d.length
      rw [List.length_append, List.length_singleton] at cap2
      rw [sizeLine_eq]
      show _ < CAP
      omega
    · refine go σ _ ca1 ⟨p1.toMn.trans gw, p1.gEq, ?_⟩ (hc1.gwrite g1 True.intro) ⟨_, upd_same, ?_⟩ (But.refl _ _)
      · intro a ne ga
        rw [upd_ne ne]
        exact p1.gKp a ga
      · exact DenL.mono gw.kp _ _ (DenL.snoc (DenL.mono p1.kp _ _ d) d1)
  · exact nomatch run
theorem readL {K : PySem.W.Frag} {mg : Str → Option Value} {Wx : WX} {js ks vs : List Nat} {mi : Env → M (List D)} {G : Tg} {t : Env → M Bool} {m : Env → M (List D)} {σ : L2.St} {H : Hp} {Q : VK} (hj : ∀ j ∈ js, j ∈ vs) (hk : ∀ j ∈ ks, j ∈ vs) (h : Ev K mg (denV K mg) Wx (mComp mi vs G t m dlOf) σ H Q) :
    tComp (fun _ => .lst []) (Ev K mg (denI K mg) Wx mi) (EvG K mg js G) (Ev K mg denB W0 t) (EvN (accL K mg) ks m) vs σ H Q := by
  apply comp_read (Ac := accL K mg) (u := fun _ => .lst []) hj hk (fun _ => True.intro) _ _ _ _ h
  · intro ca H L here
    exact ⟨[], here, rfl⟩
  · intro ys x e
    unfold dlOf at e
    split at e
    · rename_i cap
      exact cap
    · exact nomatch e
  · rintro ca H L ys x e ⟨vs, here, d⟩ out
    unfold dlOf at e
    split at e
    · cases e
      exact ⟨L, vs, rfl, out, here, d⟩
    · exact nomatch e
  · rintro ca ca' H L ys mn ⟨vs, h, d⟩
    exact ⟨vs, h, DenL.mono mn.kp _ _ d⟩
section
variable {X : Cx} {Wx : WX} {elt tg iter tg1 iter1 : Expr} {ifs ifs1 : List Expr} {scope : Scope} {own : List (Str × Nat)} {pos spos py : Pos} {mi mi1 : Env → M (List D)} {js js1 : List Nat} {G G1 : Tg} {t t1 : Env → M Bool} {m : ME} {vs1 : List Nat} {i : Nat} {y : Str}
theorem nv_secondL {B : Cx} {α : Type} {Ac : Acc B.K B.mg α} {ks : List Nat} {mx : Env → M (List α)} (quiet : B.xe = fun _ _ => False) (hcalm : B.calm = true) (fold1 : ∀ env x, foldedSetIterable iter1 env x = pure x) (hj1 : ∀ j ∈ js1, j ∈ vs1) (hk : ∀ j ∈ ks, j ∈ vs1) (pi1 : PIv B W0 tg1 iter1 mi1) (pg1 : PGv B tg1 js1 G1) (pt1 : PTsv B W0 ifs1 t1) (pn : PNv B (leafL elt B.env) Ac ks mx) :
    PNv B (nextD (.ListComp elt [⟨tg, iter, ifs, 0⟩, ⟨tg1, iter1, ifs1, 0⟩] scope pos) iter1 1 B.env) Ac vs1 (mCl mi1 vs1 G1 t1 mx) :=
  nv_clause (inner := leafL elt) (idx := 1) (c := ⟨tg1, iter1, ifs1, 0⟩) True.intro quiet hcalm fold1 hj1 hk pi1 pg1 pt1 pn (fun _ _ _ => rfl) rfl rfl
theorem pv_lc2 (hcalm : X.calm = true) (hN : X.N.Nodup) (pi : PIv X Wx tg iter mi) (ok : BlkOk X.N X.env.scope scope own) (hv : ∀ i ∈ vs1, i ∈ own.map (·.2)) (pg : Blks X scope fun B => PGv B tg js G) (hj : ∀ j ∈ js, j ∈ own.map (·.2)) (pt : Blks X scope fun B => PTsv B W0 ifs t)
    (pi1 : Blks X scope fun B => PIv B W0 tg1 iter1 mi1) (pg1 : Blks X scope fun B => PGv B tg1 js1 G1) (hj1 : ∀ j ∈ js1, j ∈ vs1) (pt1 : Blks X scope fun B => PTsv B W0 ifs1 t1) (pe : Blks X scope fun B => PEv B W0 elt m)
    (fold : ∀ x, foldedSetIterable iter X.env x = pure x := by intro _; rfl) (fold1 : ∀ env x, foldedSetIterable iter1 env x = pure x := by intro _ _; rfl) :
    PEv X Wx (.ListComp elt [⟨tg, iter, ifs, 0⟩, ⟨tg1, iter1, ifs1, 0⟩] scope pos) (mLc2 mi (own.map (·.2)) G t mi1 vs1 G1 t1 m) :=
  (pe_comp (e := (.ListComp elt [⟨tg, iter, ifs, 0⟩, ⟨tg1, iter1, ifs1, 0⟩] scope pos)) (inner := nextD (.ListComp elt [⟨tg, iter, ifs, 0⟩, ⟨tg1, iter1, ifs1, 0⟩] scope pos) iter1 1) (arm_eval_ListComp ..) True.intro rfl hcalm hN ok fold pi lays_list (fun _ _ _ => rfl) pg pt
    (fun s H C cl fp L => nv_secondL (B := X.blk s H scope (compEnvC scope cl C X.env) fp) rfl hcalm fold1 hj1 (ks := []) (fun _ z => (nomatch z)) (pi1 s H C cl fp) (pg1 s H C cl fp) (pt1 s H C cl fp) (nv_leafL (B := X.blk s H scope (compEnvC scope cl C X.env) fp) (pe s H C cl fp)) L)).imp fun _ _ _ h => readL hj hv h
theorem sv_lc2 (hcalm : X.calm = true) (hN : X.N.Nodup) (hy : X.N[i]? = some y) (hyl : X.env.scope.names.lookup y = some .local) (hsw : swapsWith (.ListComp elt [⟨tg, iter, ifs, 0⟩, ⟨tg1, iter1, ifs1, 0⟩] scope pos) (some (.Name y py)) spos.line X.env = pure true)
    (pi : PIv X Wx tg iter mi) (ok : BlkOk X.N X.env.scope scope own) (hv : ∀ i ∈ vs1, i ∈ own.map (·.2)) (pg : Blks X scope fun B => PGv B tg js G) (hj : ∀ j ∈ js, j ∈ own.map (·.2)) (pt : Blks X scope fun B => PTsv B W0 ifs t)
    (pi1 : Blks X scope fun B => PIv B W0 tg1 iter1 mi1) (pg1 : Blks X scope fun B => PGv B tg1 js1 G1) (hj1 : ∀ j ∈ js1, j ∈ vs1) (pt1 : Blks X scope fun B => PTsv B W0 ifs1 t1) (pe : Blks X scope fun B => PEv B W0 elt m)
    (fold : ∀ x, foldedSetIterable iter X.env x = pure x := by intro _; rfl) (fold1 : ∀ env x, foldedSetIterable iter1 env x = pure x := by intro _ _; rfl) :
    PSv X Wx (.Assign [.Name y py] (.ListComp elt [⟨tg, iter, ifs, 0⟩, ⟨tg1, iter1, ifs1, 0⟩] scope pos) spos) (sSet i (mLc2 mi (own.map (·.2)) G t mi1 vs1 G1 t1 m)) :=
  (ps_comp (e := (.ListComp elt [⟨tg, iter, ifs, 0⟩, ⟨tg1, iter1, ifs1, 0⟩] scope pos)) (inner := nextD (.ListComp elt [⟨tg, iter, ifs, 0⟩, ⟨tg1, iter1, ifs1, 0⟩] scope pos) iter1 1) (fun _ => rfl) True.intro rfl hcalm hN hy hyl hsw ok fold pi lays_list (fun _ _ _ => rfl) pg pt
    (fun s H C cl fp L => nv_secondL (B := X.blk s H scope (compEnvC scope cl C X.env) fp) rfl hcalm fold1 hj1 (ks := []) (fun _ z => (nomatch z)) (pi1 s H C cl fp) (pg1 s H C cl fp) (pt1 s H C cl fp) (nv_leafL (B := X.blk s H scope (compEnvC scope cl C X.env) fp) (pe s H C cl fp)) L)).imp fun Dn σ H h =>
    readL hj hv (EvSt.bind h fun env ca w cc v H' he hc d hk => hk _ H' ca (Stp.refl _ _) (he.set d) hc)
end
end DL
set_option Elab.async false
set_option linter.all false
set_option maxRecDepth 100000
set_option maxHeartbeats 1900000
/-! DL14: lists from behind. -/
namespace DL
open L2 PyProof.Rows PySem PySem.Spec
/-- xs[::-1] -/
def mRev (a : ME) : ME := fun env cc => (a env cc).bind fun w c => match see c w with
  | some (.lst ds) => .ok (.d (.lst ds.reverse)) c
  | _ => .stuck
theorem DenL.rev {K : PySem.W.Frag} {mg : Str → Option Value} {L : Addr → Prop} {H : Hp} : ∀ {xs : List D} {vs : List V}, DenL K mg L H xs vs → DenL K mg L H xs.reverse vs.reverse
  | [], _, h => by
    rw [show _ = [] from h]
    exact rfl
  | _ :: _, _, ⟨u, vr, e, d1, r⟩ => by
    rw [e, List.reverse_cons, List.reverse_cons]
    exact DenL.snoc (DenL.rev r) d1
theorem pv_rev {X : Cx} {Wx : WX} {e : Expr} {m : ME} {k : Nat} {p1 p2 p3 pos : Pos} (he : PEv X Wx e m) : PEv X Wx (.Subscript e (.Slice none none (some (.UnaryOp .USub (.Constant (.int 1) k p1) p2)) p3) pos) (mRev m) := (pe_revL he).imp fun σ H Q h =>
  Ev.bind h fun env ca w cc v H' he hc d hk => by
    split at hk
    · rename_i ds e1
      obtain ⟨a, vs, rfl, h1, h2⟩ := see_ok hc d e1
      exact ⟨a, vs, rfl, SqL.of h1, fun p hp => hk.now (Stp.new hc hp) (hc.new hp) (den_lst_new hc (DenL.rev h2) hp)⟩
    · exact hk.elim
end DL
set_option Elab.async false
set_option linter.all false
set_option maxRecDepth 100000
set_option maxHeartbeats 1900000
/-! DL15: dict displays that will change; stores by index, two at once. -/
namespace DL
open L2 PyProof.Rows PySem PySem.Spec
section
variable {K : PySem.W.Frag} {mg : Str → Option Value} {ca : Ca} {H : Hp} {cc : Cs} {g : Addr → Prop} {p : Addr}
/-- a hidden thing becomes a cell -/
theorem Mn.bare (hg : ∀ a, g a → ca.g a) (gp : ca.g p) : Mn ca H ((ca.back g).snoc p) H := by
  refine ⟨by rw [snoc_len]; exact Nat.le_succ _, ?_, ?_⟩
  · intro n a lt e
    rwa [snoc_lt (ca := ca.back g) lt] at e
  · intro a u e out
    refine ⟨e, fun l => out ?_⟩
    rcases live_snoc.mp l with l | rfl
    · exact live_back hg l
    · exact .inr gp
theorem CsOk.bare {c : C} (h : CsOk K mg ca H cc) (hg : ∀ a, g a → ca.g a) (gp : ca.g p) (np : ¬ g p) (d : DenC K mg ((ca.back g).snoc p) H c p) : CsOk K mg ((ca.back g).snoc p) H (cc ++ [some c]) := by
  have apart : ∀ n, ca.l[n]? ≠ some (some p) := fun n e => h.gd n p e gp
  have len : (ca.back g).l.length = cc.length := h.len
  refine ⟨by rw [snoc_len, len]; simp, ?_, ?_, ?_, fun a ga => h.gh a (hg a ga), ?_⟩
  · intro n a e
    rcases snoc_split e with e | ⟨rfl, rfl⟩
    · obtain ⟨c', at_n, d'⟩ := h.at_ n a e
      refine ⟨c', ?_, d'.mn (Mn.bare hg gp) rfl⟩
      rw [List.getElem?_append_left (List.getElem?_eq_some_iff.mp at_n).1, at_n]
    · refine ⟨c, ?_, d⟩
      rw [len, List.getElem?_append_right (Nat.le_refl _), Nat.sub_self]
      rfl
  · intro n c' e
    rcases Nat.lt_or_ge n cc.length with lt | ge
    · rw [List.getElem?_append_left lt] at e
      obtain ⟨a, q⟩ := h.live n c' e
      exact ⟨a, by rw [snoc_lt (ca := ca.back g) (by rw [len]; exact lt)]; exact q⟩
    · have here : n = cc.length := by
        have := (List.getElem?_eq_some_iff.mp e).1
        rw [List.length_append, List.length_singleton] at this
        omega
      exact ⟨p, by rw [here, ← len]; exact snoc_eq⟩
  · intro n m a e1 e2
    rcases snoc_split e1 with q1 | ⟨q1, r1⟩
    · rcases snoc_split e2 with q2 | ⟨q2, r2⟩
      · exact h.inj n m a q1 q2
      · exact absurd (r2 ▸ q1) (apart n)
    · rcases snoc_split e2 with q2 | ⟨q2, r2⟩
      · exact absurd (r1 ▸ q2) (apart m)
      · exact q1.trans q2.symm
  · intro n a e
    rcases snoc_split e with e | ⟨_, rfl⟩
    · exact fun ga => h.gd n a e (hg a ga)
    · exact np
end
/-- {key: value, ..}, changed later -/
def mDctC (ks : List Key) (ms : List ME) : ME := fun env cc => match mVals ms env cc with
  | .ok xs c2 => if xs.length = ks.length ∧ ks.length ≤ 15 ∧ onceK ks = true then .ok (.cell c2.length) (c2 ++ [some (.dct (ks.map keyD) (xs.map .d))]) else .stuck
  | _ => .stuck
section
variable {X : Cx} {Wx : WX}
theorem DenL.asW {K : PySem.W.Frag} {mg : Str → Option Value} {ca : Ca} {H : Hp} {ds : List D} {vs : List V} (d : DenL K mg (Live ca) H ds vs) : DenWs K mg ca H (ds.map .d) vs := d.ws
theorem dctC_read {ks : List Key} {ms : List ME} {σ : L2.St} {H : Hp} {Q : VK} (l : ms.length = ks.length) (h : EvE X Wx (mDctC ks ms) σ H Q) : tDisp (trsOf X Wx ks ms) σ H Q := by
  obtain ⟨env, ca, cc, he, hc, left⟩ := h
  unfold mDctC at left
  split at left
  · rename_i xs c2 eV
    split at left
    · rename_i cond
      obtain ⟨len, few, once⟩ := cond
      intro p none_p
      have hide := Mn.hide (ca := ca) (o := HO.dK []) none_p
      refine vals_read l eV (he.mn hide) (hc.hide none_p True.intro) ?_
      intro vs H2 ca2 p2 hc2 d2
      have g2 : ca2.g p := by rw [p2.gEq]; exact .inr rfl
      have at_p : H2 p = some (.dK []) := (p2.gKp p (.inr rfl)).trans upd_same
      have lv : vs.length = ks.length := d2.length.trans len
      have keys1 : (ks.zip vs).map (·.1) = ks := List.map_fst_zip (Nat.le_of_eq lv.symm)
      have vals1 : (ks.zip vs).map (·.2) = vs := List.map_snd_zip (Nat.le_of_eq lv)
      refine ⟨at_p, ks.zip vs, rfl, by rw [List.length_zip, lv, Nat.min_self]; exact few, ?_⟩
      have merged : mergeK [] (ks.zip vs) = ks.zip vs := merge_once _ [] (by rw [keys1]; exact once) (fun _ _ _ z => nomatch z)
      rw [merged]
      have gw : Mn ca2 H2 ca2 (upd H2 p (.dK (ks.zip vs))) := Mn.gwrite g2
      have more : ∀ a, ca.g a → ca2.g a := fun a ga => by rw [p2.gEq]; exact .inl ga
      have np : ¬ ca.g p := hc.gNew none_p
      have bare : Mn ca2 (upd H2 p (.dK (ks.zip vs))) ((ca2.back ca.g).snoc p) (upd H2 p (.dK (ks.zip vs))) := Mn.bare more g2
      have back : Stp ca H ((ca2.back ca.g).snoc p) (upd H2 p (.dK (ks.zip vs))) := by
        refine ⟨((hide.trans p2.toMn).trans gw).trans bare, rfl, ?_⟩
        intro a ga
        have ne : a ≠ p := fun z => np (z ▸ ga)
        rw [upd_ne ne, p2.gKp a (.inl ga), upd_ne ne]
      have dW2 : DenL X.K X.mg (Live ((ca2.back ca.g).snoc p)) (upd H2 p (.dK (ks.zip vs))) xs vs := DenL.mono (gw.trans bare).kp _ _ d2
      have here : DenC X.K X.mg ((ca2.back ca.g).snoc p) (upd H2 p (.dK (ks.zip vs))) (.dct (ks.map keyD) (xs.map .d)) p := by
        refine ⟨ks.zip vs, upd_same, ?_, ?_⟩
        · have := congrArg (List.map keyD) keys1
          simpa [List.map_map, Function.comp_def] using this
        · rw [vals1]
          exact dW2.ws
      have all := (hc2.gwrite (o := .dK (ks.zip vs)) g2 True.intro).bare more g2 np here
      have lenC : (ca2.back ca.g).l.length = c2.length := hc2.len
      refine KS.now left back all (show DenW X.K X.mg ((ca2.back ca.g).snoc p) _ (.cell c2.length) (.ref p) from ⟨by rw [snoc_len, lenC]; exact Nat.lt_succ_self _, ?_⟩)
      intro a e
      rw [← lenC, snoc_eq] at e
      cases e
      rfl
    · exact left.elim
  · exact left.elim
theorem pv_dctC {pos : Pos} {ks : List Key} {ms : List ME} {keys : List (Option Expr)} {values : List Expr} (h : PPs X pos keys values (trsOf X Wx ks ms)) (hl : ms.length = ks.length := by rfl) (h1 : keys.all (·.isSome) = true := by rfl) (h2 : keys.length = values.length := by rfl) (h3 : keys ≠ [] := by simp) (h4 : keys.length ≤ 15 := by decide) :
    PEv X Wx (.Dict keys values pos) (mDctC ks ms) := (pe_disp h h1 h2 h3 h4).imp fun _ _ _ q => dctC_read hl q
end
/-- a[i], b[j] = x, y -/
def sPut2 (r : Env → M (List W)) (mo mi mp mj : ME) : MS := fun env cc => (r env cc).thenS env fun ws c => match ws with
  | [a, b] => (mo env c).thenS env fun o c1 => (mi env c1).thenS env fun i c2 => match putI c2 o i a with
    | some c3 => (mp env c3).thenS env fun p c4 => (mj env c4).thenS env fun j c5 => match putI c5 p j b with
      | some c6 => .nx env c6
      | none => .stuck
    | none => .stuck
  | _ => .stuck
section
variable {X : Cx} {Wx : WX} {o i o2 i2 : Expr} {es : List Expr} {mo mi mp mj : ME} {r : Env → M (List W)} {pa pb pos p1 p2 : Pos} {k x1}
abbrev SetAs (X : Cx) (o i : Expr) (pa : Pos) : Prop := ∀ v, assign (.Subscript o i pa) X.env v = (do
      let it ← holding [v] (eval o X.env)
      let at_ ← holding [v, it] (eval i X.env)
      standAt pa
      holding [v, it, at_] (setItem it at_ v)
      release [v, it, at_] [])
theorem sv_put2 (hu : X.A.units + 1 < cLine) (hc : X.calm = true) (hr : PAv X Wx es r) (ho : PEv X Wx o mo) (hi : PEv X Wx i mi) (hp : PEv X Wx o2 mp) (hj : PEv X Wx i2 mj)
    (ha : SetAs X o i pa := by intro _; rfl) (hb : SetAs X o2 i2 pb := by intro _; rfl)
    (hs2 : (assignEach [.Subscript o i pa, .Subscript o2 i2 pb] X.env).map (·.2) = assign (.Subscript o i pa) X.env :: (assignEach [.Subscript o2 i2 pb] X.env).map (·.2) := by rfl)
    (hs3 : (assignEach [.Subscript o2 i2 pb] X.env).map (·.2) = assign (.Subscript o2 i2 pb) X.env :: (assignEach [] X.env).map (·.2) := by rfl)
    (hn : (assignEach [.Subscript o i pa, .Subscript o2 i2 pb] X.env).length = 2 := by rfl) (hst : (assignEach [.Subscript o i pa, .Subscript o2 i2 pb] X.env).findIdx? (·.1) = none := by rfl)
    (hs : swapsWithSole [.Tuple [.Subscript o i pa, .Subscript o2 i2 pb] k p1] (.Tuple es x1 p2) pos.line X.env = pure false := by rfl) (hw : swappedStores [.Tuple [.Subscript o i pa, .Subscript o2 i2 pb] k p1] (.Tuple es x1 p2) X.env = pure none := by rfl)
    (h1 : (assignEach [.Tuple [.Subscript o i pa, .Subscript o2 i2 pb] k p1] X.env).map (·.2) = [assign (.Tuple [.Subscript o i pa, .Subscript o2 i2 pb] k p1) X.env] := by rfl) :
    PSv X Wx (.Assign [.Tuple [.Subscript o i pa, .Subscript o2 i2 pb] k p1] (.Tuple es x1 p2) pos) (sPut2 r mo mi mp mj) :=
  (ps_asg (pe_tup hr) (pg_tup hc (pgs_cons (pg_sub ho hi (set_all hu) ha) (pgs_cons (pg_sub hp hj (set_all hu) hb) pgs_nil hs3) hs2) hn hst) hs hw h1).imp fun Dn σ H h =>
    EvSt.bind h fun env ca ws cc vs H' he hc d hk => by
      split at hk
      · rename_i a b
        obtain ⟨v, vr, rfl, d1, v2, vr2, rfl, d2, d3⟩ := d
        cases (show vr2 = [] from d3)
        refine ⟨cap_ok (show 2 ≤ CAP by decide +kernel), fun q hq => ⟨q, [v, v2], rfl, .inl (.inl upd_same), rfl, ?_⟩⟩
        have st : Stp ca H' ca (upd H' q (.tup [v, v2])) := Stp.new hc hq
        have heN := he.mono st
        refine ⟨v, [v2], rfl, env, ca, cc, heN, hc.new hq, KSt.bind heN (KSt.step st hk) ?_⟩
        intro o' c1 vo Ha caa pA hcA dO kA
        refine ⟨env, caa, c1, heN.mono pA, hcA, KSt.bind (heN.mono pA) kA ?_⟩
        intro i' c2 vi Hb cab pB hcB dI kB
        split at kB
        · rename_i c3 e3
          refine putI_ok hcB (dO.mono pB) dI (((d1.mono st).mono pA).mono pB) e3 ?_
          intro Hc pC hcC
          have heC := ((heN.mono pA).mono pB).mono pC
          refine ⟨v2, [], rfl, env, cab, c3, heC, hcC, KSt.bind heC (KSt.step pC kB) ?_⟩
          intro o3 c4 vp Hd cad pD hcD dP kD
          refine ⟨env, cad, c4, heC.mono pD, hcD, KSt.bind (heC.mono pD) kD ?_⟩
          intro j' c5 vj He cae pE hcE dJ kE
          split at kE
          · rename_i c6 e6
            refine putI_ok hcE (dP.mono pE) dJ ((((((d2.mono st).mono pA).mono pB).mono pC).mono pD).mono pE) e6 ?_
            intro Hf pF hcF
            exact ⟨rfl, kE σ Hf cae pF (((heC.mono pD).mono pE).mono pF) hcF⟩
          · exact kE.elim
        · exact kB.elim
      · exact hk.elim
end
end DL
set_option Elab.async false
set_option linter.all false
set_option maxRecDepth 100000
set_option maxHeartbeats 1900000
/-! DL16: list(range(n)). -/
namespace DL
open L2 PyProof.Rows PySem PySem.Spec
def mLstRg (a : ME) : ME := fun env cc => (a env cc).bind fun w c => match w with
  | .d (.int j) => if 0 ≤ j ∧ j ≤ 1000000 then .ok (.d (.lst (rangeOf 0 j.toNat))) c else .stuck
  | _ => .stuck
theorem den_ints {K : PySem.W.Frag} {mg : Str → Option Value} {L : Addr → Prop} {H : Hp} (a : Int) : ∀ is : List Nat, DenL K mg L H (is.map fun i : Nat => D.int (a + (i : Int))) (is.map fun i : Nat => V.int (a + (i : Int)))
  | [] => rfl
  | i :: is => ⟨_, _, rfl, rfl, den_ints a is⟩
theorem pv_listRg {X : Cx} {Wx : WX} {e : Expr} {m : ME} {p p2 pos pos2 : Pos} (hc : X.calm = true) (hg : Gl X "list") (hm : X.mg "list" = none) (hg2 : Gl X "range") (hm2 : X.mg "range" = none) (he : PEv X Wx e m)
    (na : starEach [.Call (.Name "range" p2) [e] [] pos2] X.env = (false, eval (.Call (.Name "range" p2) [e] [] pos2) X.env) :: starEach [] X.env := by rfl) (nb : starEach [e] X.env = (false, eval e X.env) :: starEach [] X.env := by rfl) :
    PEv X Wx (.Call (.Name "list" p) [.Call (.Name "range" p2) [e] [] pos2] [] pos) (mLstRg m) := (pe_listRg hc hg hm (prg_1 hg2 hm2 he nb) na).imp fun σ H Q h =>
  Ev.bind h fun env ca w cc v H' he hc d hk => by
    split at hk
    · rename_i j
      split at hk
      · rename_i b
        refine ⟨j, d, RgOk.of_le (Int.le_refl _) (by omega) (by omega) b.1, fun q hq => ?_⟩
        have e : (j - 0).toNat = j.toNat := by rw [Int.sub_zero]
        have dl : DenL X.K X.mg (Live ca) H' (rangeOf 0 j.toNat) (rgV 0 j) := by
          unfold rgV rangeOf
          rw [e]
          exact den_ints 0 _
        exact hk.now (Stp.new hc hq) (hc.new hq) (den_lst_new hc dl hq)
      · exact hk.elim
    · exact hk.elim
end DL
set_option Elab.async false
set_option linter.all false
set_option maxRecDepth 100000
set_option maxHeartbeats 1900000
/-! HY: the facts that the printed derivations ask for, from the head's parts. -/
namespace DL
open L2 PyProof.Rows PySem PySem.Spec
mutual
/-- the value of the text is this data -/
def ckD (K : PySem.W.Frag) : D → Value → Bool
  | .non, .none => true
  | .bl b, .bool c => b == c
  | .int i, .int k _ => decide (i = k)
  | .str x, .str y _ => eqS x y
  | .tup ds, .ref a => (match K.lookup a with
    | some ⟨.type c, _, .seq its _, _⟩ => decide (c = "tuple") && (decide (its.size ≤ sizeLine) && ckDs K ds its.toList)
    | _ => false)
  | _, _ => false
def ckDs (K : PySem.W.Frag) : List D → List Value → Bool
  | [], [] => true
  | d :: ds, v :: vs => ckD K d v && ckDs K ds vs
  | _, _ => false
end
section
variable {K : PySem.W.Frag}
mutual
theorem ckD_ok : ∀ (d : D) (v : Value), ckD K d v = true → ∃ u, RelV u v ∧ ∀ mg L H, DenD K mg L H d u
  | .non, v, h => by
    cases v <;> first | exact ⟨.non, rfl, fun _ _ _ => rfl⟩ | cases h
  | .bl b, v, h => by
    cases v <;> first | cases h | skip
    rename_i c
    have e : b = c := by simpa [ckD] using h
    subst e
    exact ⟨.bl b, rfl, fun _ _ _ => rfl⟩
  | .int i, v, h => by
    cases v <;> first | cases h | skip
    rename_i j t
    have e : i = j := by simpa [ckD] using h
    subst e
    exact ⟨.int i, ⟨t, rfl⟩, fun _ _ _ => rfl⟩
  | .str x, v, h => by
    cases v <;> first | cases h | skip
    rename_i y t
    have e : x = y := eqS_iff.mp (by simpa [ckD] using h)
    subst e
    exact ⟨.str x, ⟨t, rfl⟩, fun _ _ _ => rfl⟩
  | .tup ds, v, h => by
    cases v <;> first | cases h | skip
    rename_i a
    simp only [ckD] at h
    split at h
    · rename_i c _ its n _ q
      simp only [decide_eq_true_eq, Bool.and_eq_true] at h
      obtain ⟨h1, h2, h3⟩ := h
      subst h1
      obtain ⟨us, r, d⟩ := ckDs_ok ds its.toList h3
      exact ⟨.ref a, rfl, fun mg L H => ⟨a, us, rfl, .inr ⟨_, its, n, q, rfl, rfl, h2, r⟩, d mg L H⟩⟩
    · cases h
  | .lst _, v, h => by cases v <;> cases h
  | .scr _, v, h => by cases v <;> cases h
  | .dct _ _, v, h => by cases v <;> cases h
  | .obj _ _ _, v, h => by cases v <;> cases h
  | .glo _, v, h => by cases v <;> cases h
  | .ty _, v, h => by cases v <;> cases h
  | .dkn _, v, h => by cases v <;> cases h
theorem ckDs_ok : ∀ (ds : List D) (vs : List Value), ckDs K ds vs = true → ∃ us, Vals us vs ∧ ∀ mg L H, DenL K mg L H ds us
  | [], [], _ => ⟨[], .nil, fun _ _ _ => rfl⟩
  | [], _ :: _, h => by cases h
  | _ :: _, [], h => by cases h
  | d :: ds, v :: vs, h => by
    simp only [ckDs, Bool.and_eq_true] at h
    obtain ⟨u, r, e⟩ := ckD_ok d v h.1
    obtain ⟨us, rs, es⟩ := ckDs_ok ds vs h.2
    exact ⟨u :: us, .cons r rs, fun mg L H => ⟨u, us, rfl, e mg L H, es mg L H⟩⟩
end
/-- a constant of the module -/
def conD (x : Str) (d : D) (K : PySem.W.Frag) : Bool := match PySem.W.nsIn K mainGlobals x with
  | some (some v) => ckD K d v
  | _ => false
structure ConF (K : PySem.W.Frag) (mg : Str → Option Value) (x : Str) (d : D) : Prop where
  ex : ∃ u v, mg x = some v ∧ RelV u v ∧ ∀ L H, DenD K mg L H d u
theorem con_ok {h : Heap} {mg : Str → Option Value} {x : Str} {d : D} (X : K.In h) (G : h.Ns mainGlobals mg) (e : conD x d K = true) : ConF K mg x d := by
  unfold conD at e
  split at e
  · rename_i v q
    obtain ⟨u, r, dd⟩ := ckD_ok d v e
    exact ⟨u, v, PySem.W.mg_of X G q, r, fun L H => dd mg L H⟩
  · cases e
def tup0 (p : PySem.W.Frag → Addr) (K : PySem.W.Frag) : Bool := ckD K (.tup []) (.ref (p K))
theorem tup0_ok {p : PySem.W.Frag → Addr} (h : tup0 p K = true) : KTup K (p K) [] := by
  unfold tup0 at h
  simp only [ckD] at h
  split at h
  · rename_i c _ its n _ q
    simp only [decide_eq_true_eq, Bool.and_eq_true] at h
    obtain ⟨h1, h2, h3⟩ := h
    subst h1
    have e : its.toList = [] := by
      cases z : its.toList with
      | nil => rfl
      | cons v vs => rw [z] at h3; cases h3
    exact ⟨_, its, n, q, rfl, rfl, h2, by rw [e]; exact .nil⟩
  · cases h
theorem pv_con {X : Cx} {Wx : WX} {x : Str} {pos : Pos} {d : D} (h : ConF X.K X.mg x d) (hg : Gl X x) (hd : (x == ("__debug__" : Str)) = false := by decide) : PEv X Wx (.Name x pos) (mC d) := by
  obtain ⟨u, v, h1, h2, h3⟩ := h.ex
  exact pv_glob hg h1 h2 h3 hd
end
end DL
set_option Elab.async false
set_option linter.all false
set_option maxRecDepth 100000
set_option maxHeartbeats 1900000
/-! HZ: the end of a law over the D-layer. -/
namespace DL
open L2 PyProof.Rows PySem PySem.Spec
/-- nothing is raised -/
abbrev XN : CXT := fun _ _ _ _ _ _ => False
theorem fn_noX {P : Program} {w : World} {K : PySem.W.Frag} {mg : (Str → Option Value)} {base : Heap} {k : Nat} {f : Addr} {fd : FuncData} {ps : List Str} {sp : Sp} (F : FnOk P w K mg base (L2.CX P w) k f fd ps sp) :
    FnOk P w K mg base XN k f fd ps (fun vs H Q _ => sp vs H Q fun _ _ _ => False) := by
  refine ⟨fun vs H Q _ q => F.len vs H Q _ q, ?_⟩
  intro A outer s H args us vs Q E room env binds rel q
  refine codeAny_mono (F.run A outer s H args us vs Q _ room env binds rel q) ?_
  rintro (e | fl) s' got
  · obtain ⟨_, _, _, _, _, _, _, _, _, _, _, _, z⟩ := got
    exact z.elim
  · cases fl <;> exact got
/-- one record, one def -/
theorem fd_same {K : PySem.W.Frag} {x q : Str} {a : Arguments} {b : List Stmt} {sc : Scope} {dv : List V} {kw : List (Str × V)} {f : Addr} {fd fd' : FuncData} (F : FunD K x q a b sc dv kw f fd) (F' : FunD K x q a b sc dv kw f fd') : fd = fd' := by
  obtain ⟨_, _, _, _, _, _, _, _, _, _, _, at_f, _⟩ := F.ex
  obtain ⟨_, _, _, _, _, _, _, _, _, _, _, at_f', _⟩ := F'.ex
  have e := at_f.symm.trans at_f'
  simp only [Option.some.injEq, Obj.mk.injEq, Data.func.injEq] at e
  exact e.2.2.1
theorem no_cells {K : PySem.W.Frag} {mg : (Str → Option Value)} {H : Hp} : CsOk K mg ⟨[], fun _ => False⟩ H [] := by
  refine ⟨rfl, ?_, ?_, ?_, ?_, ?_⟩
  · intro n a e
    simp at e
  · intro n c e
    simp at e
  · intro n m a e
    simp at e
  · exact fun _ z => z.elim
  · exact fun _ _ _ z => z
/-- the script of a law is data -/
theorem den_script {K : PySem.W.Frag} {mg : (Str → Option Value)} {H : Hp} {a : Addr} {ns : List Int} (only : Only H) (known : SqL K H a (ns.map V.int)) : DenD K mg (Live ⟨[], fun _ => False⟩) H (.scr (ns.map .int)) (.ref a) := by
  have items : ∀ ns : List Int, DenL K mg (Live ⟨[], fun _ => False⟩) H (ns.map .int) (ns.map V.int) := by
    intro ns
    induction ns with
    | nil => exact rfl
    | cons n ns ih => exact ⟨_, _, rfl, rfl, ih⟩
  refine ⟨a, _, rfl, ?_, items ns⟩
  have free : ¬ Live ⟨[], fun _ => False⟩ a := by
    rintro (z | z)
    · exact nomatch z
    · exact z
  rcases known with (h | h) | h
  · rcases only a with e | ⟨o, xs, e⟩
    · exact nomatch e.symm.trans h
    · exact nomatch e.symm.trans h
  · exact .inl ⟨free, h⟩
  · exact .inr h
/-- the def `law` gives True at every script: what its promise then says -/
theorem law_says {K : PySem.W.Frag} {mg : (Str → Option Value)} {F : Fn} {H : Hp} {a : Addr} {ns : List Int} {cc : Cs} (only : Only H) (known : SqL K H a (ns.map V.int)) (law : F [.d (.scr (ns.map .int))] [] = .ok (.d (.bl true)) cc) :
    spOf K mg 1 F [.ref a] H (fun v _ => v = .bl true) fun _ _ _ => False := by
  refine ⟨[.d (.scr (ns.map .int))], ⟨[], fun _ => False⟩, [], rfl, ⟨_, _, rfl, den_script only known, rfl⟩, no_cells, ?_⟩
  rw [law]
  intro v H' ca' _ _ d
  exact d
end DL
set_option Elab.async false
set_option linter.all false
set_option maxRecDepth 100000
set_option maxHeartbeats 1900000
/-! OV: a def's mirror put aside for a plainer one. -/
namespace DL
open L2 PyProof.Rows PySem PySem.Spec
/-- on states that can be, F does as G, or says nothing -/
def FnLe (F G : Fn) : Prop := ∀ ws cc, okBelow cc.length cc = true → (∀ w ∈ ws, okBelow1 cc.length w = true) → F ws cc = .stuck ∨ F ws cc = G ws cc
section
variable {K : PySem.W.Frag} {mg : (Str → Option Value)} {ca : Ca} {H : Hp} {cc : Cs}
theorem denW_below : ∀ {w : W} {v : V}, DenW K mg ca H w v → okBelow1 ca.l.length w = true
  | .d _, _, _ => rfl
  | .cell _, _, h => decide_eq_true h.1
theorem denWs_below : ∀ {ws : List W} {vs : List V}, DenWs K mg ca H ws vs → ∀ w ∈ ws, okBelow1 ca.l.length w = true
  | [], _, _, _, m => nomatch m
  | _ :: _, _, ⟨_, _, _, d, ds⟩, w, m => by
    rcases List.mem_cons.mp m with rfl | m
    · exact denW_below d
    · exact denWs_below ds w m
theorem okBelow_of {n : Nat} : ∀ {cs : Cs}, (∀ (i : Nat) (c : C), cs[i]? = some (some c) → match c with | .lst _ => True | .dct _ ws => ∀ w ∈ ws, okBelow1 n w = true | .obj _ _ ws => ∀ w ∈ ws, okBelow1 n w = true) → okBelow n cs = true
  | [], _ => rfl
  | none :: cs, h => by
    rw [okBelow]
    exact okBelow_of fun i c e => h (i + 1) c e
  | some c :: cs, h => by
    have rest : okBelow n cs = true := okBelow_of fun i c e => h (i + 1) c e
    have here := h 0 c rfl
    cases c with
    | lst ds => exact rest
    | dct ks ws =>
      rw [okBelow, Bool.and_eq_true]
      exact ⟨List.all_eq_true.mpr here, rest⟩
    | obj cn ns ws =>
      rw [okBelow, Bool.and_eq_true]
      exact ⟨List.all_eq_true.mpr here, rest⟩
theorem CsOk.below (h : CsOk K mg ca H cc) : okBelow cc.length cc = true := by
  apply okBelow_of
  intro i c e
  obtain ⟨a, at_i⟩ := h.live i c e
  obtain ⟨c', e', d⟩ := h.at_ i a at_i
  cases e.symm.trans e'
  rw [← h.len]
  cases c with
  | lst ds => exact True.intro
  | dct ks ws =>
    obtain ⟨_, _, _, d⟩ := d
    exact denWs_below d
  | obj cn ns ws =>
    obtain ⟨_, _, _, _, _, _, d⟩ := d
    exact denWs_below d
theorem spOf_le {F G : Fn} {n : Nat} {vs : List V} {Q : VK} {E : XK} (le : FnLe F G) (h : spOf K mg n F vs H Q E) : spOf K mg n G vs H Q E := by
  obtain ⟨ws, ca, cc, len, d, c, k⟩ := h
  refine ⟨ws, ca, cc, len, d, c, ?_⟩
  rcases le ws cc c.below (by rw [← c.len]; exact denWs_below d) with e | e
  · rw [e] at k
    exact k.elim
  · rw [e] at k
    exact k
end
section
variable {P : Program} {w : World} {K : PySem.W.Frag} {mg : (Str → Option Value)} {base : Heap} {k n : Nat} {f : Addr} {fd : FuncData} {ps : List Str} {F G : Fn} {x : Str}
theorem fnOk_le (le : FnLe F G) (h : FnOk P w K mg base (L2.CX P w) k f fd ps (spOf K mg n G)) : FnOk P w K mg base (L2.CX P w) k f fd ps (spOf K mg n F) := h.imp fun _ _ _ _ q => spOf_le le q
theorem DefOk.le (le : FnLe F G) (h : DefOk P w K mg base k x ps G) : DefOk P w K mg base k x ps F := by
  obtain ⟨fd, ok, more⟩ := h
  exact ⟨fd, fnOk_le le ok, more⟩
end
/-- a def of data alone -/
def pf (g : List D → Option D) : Fn := fun ws cc => match allD ws with
  | some xs => match g xs with
    | some z => .ok (.d z) cc
    | none => .stuck
  | none => .stuck
theorem allD_back : ∀ {ws : List W} {xs : List D}, allD ws = some xs → ws = xs.map .d
  | [], xs, e => by cases e; rfl
  | .d x :: ws, xs, e => by
    simp only [allD] at e
    split at e
    · rename_i ys q
      cases e
      rw [allD_back q, List.map_cons]
    · exact nomatch e
  | .cell _ :: _, _, e => nomatch e
theorem pf_le {g : List D → Option D} {G : Fn} (h : ∀ xs z cc, g xs = some z → okBelow cc.length cc = true → G (xs.map .d) cc = .ok (.d z) cc) : FnLe (pf g) G := by
  intro ws cc ok _
  unfold pf
  cases e : allD ws with
  | none => exact .inl rfl
  | some xs =>
    cases q : g xs with
    | none =>
      left
      simp only [q]
    | some z =>
      right
      simp only [q]
      rw [allD_back e, h xs z cc q ok]
/-- a def of data alone, that may raise -/
def px (g : List D → Option (Except Ex D)) : Fn := fun ws cc => match allD ws with
  | some xs => match g xs with
    | some (.ok z) => .ok (.d z) cc
    | some (.error e) => .raise e cc
    | none => .stuck
  | none => .stuck
theorem px_le {g : List D → Option (Except Ex D)} {G : Fn} (h : ∀ xs z cc, g xs = some (.ok z) → okBelow cc.length cc = true → G (xs.map .d) cc = .ok (.d z) cc) (h' : ∀ xs e cc, g xs = some (.error e) → okBelow cc.length cc = true → G (xs.map .d) cc = .raise e cc) : FnLe (px g) G := by
  intro ws cc ok _
  unfold px
  cases e : allD ws with
  | none => exact .inl rfl
  | some xs =>
    cases q : g xs with
    | none =>
      left
      simp only [q]
    | some z =>
      right
      cases z with
      | ok z =>
        simp only [q]
        rw [allD_back e, h xs z cc q ok]
      | error x =>
        simp only [q]
        rw [allD_back e, h' xs x cc q ok]
/-- how a body ends that made no cells -/
theorem fnOf_rt {n : Nat} {b : MS} {ws : List W} {cc : Cs} {z : D} (ok : okBelow cc.length cc = true) (h : b (env0 n ws) cc = .rt (.d z) cc) : fnOf n b ws cc = .ok (.d z) cc := by
  unfold fnOf
  rw [h]
  simp only [endFn, cut, List.take_length]
  exact if_pos ⟨ok, rfl⟩
theorem fnOf_nx {n : Nat} {b : MS} {ws : List W} {cc : Cs} {env : DL.Env} (ok : okBelow cc.length cc = true) (h : b (env0 n ws) cc = .nx env cc) : fnOf n b ws cc = .ok (.d .non) cc := by
  unfold fnOf
  rw [h]
  simp only [endFn, cut, List.take_length]
  exact if_pos ⟨ok, rfl⟩
theorem fnOf_raise {n : Nat} {b : MS} {ws : List W} {cc : Cs} {e : Ex} {env : DL.Env} (ok : okBelow cc.length cc = true) (h : b (env0 n ws) cc = .raise e env cc) : fnOf n b ws cc = .raise e cc := by
  unfold fnOf
  rw [h]
  simp only [endFn, List.take_length]
  exact if_pos ok
/-- the turns of a comprehension over data: each gives one thing -/
theorem lcL_map {G : Tg} {t : DL.Env → M Bool} {m : ME} {env : DL.Env} {cc : Cs} (f : D → D) : ∀ {xs : List D}, (∀ x ∈ xs, ∃ env', G (.d x) env cc = some env' ∧ t env' cc = .ok true cc ∧ m env' cc = .ok (.d (f x)) cc) → lcL G t m env xs cc = .ok (xs.map f) cc
  | [], _ => rfl
  | x :: xs, h => by
    obtain ⟨env', a, b, c⟩ := h x List.mem_cons_self
    have more := lcL_map f fun y m => h y (List.mem_cons_of_mem _ m)
    simp only [lcL, a, b, c, more, List.map_cons]
/-- .. or is left out -/
theorem lcL_filter {G : Tg} {t : DL.Env → M Bool} {m : ME} {env : DL.Env} {cc : Cs} (p : D → Bool) (f : D → D) : ∀ {xs : List D}, (∀ x ∈ xs, ∃ env', G (.d x) env cc = some env' ∧ t env' cc = .ok (p x) cc ∧ (p x = true → m env' cc = .ok (.d (f x)) cc)) → lcL G t m env xs cc = .ok ((xs.filter p).map f) cc
  | [], _ => rfl
  | x :: xs, h => by
    obtain ⟨env', a, b, c⟩ := h x List.mem_cons_self
    have more := lcL_filter p f fun y m => h y (List.mem_cons_of_mem _ m)
    cases q : p x with
    | true =>
      rw [q] at b
      simp only [lcL, a, b, c q, more, List.filter_cons_of_pos q, List.map_cons]
    | false =>
      rw [q] at b
      simp only [lcL, a, b, more, List.filter_cons, q, if_neg (by decide : ¬ false = true)]
end DL
set_option Elab.async false
set_option linter.all false
set_option maxRecDepth 100000
set_option maxHeartbeats 0
noncomputable section NC
namespace Lw
open PySem PySem.Spec PyProof.Rows L2 DL
abbrev prog : Program := PySem.Challenge.pw_visitslips_k22_whole_puts_exchanged
def top (i : Nat) : Stmt := prog.main.body.getD i (.Pass ⟨0, 0, 0, 0⟩)
def c_MOST_KEPT : D := .int 6
def c_PARTS : D := .tup [(.str "most"), (.str "wide_key"), (.str "renewed"), (.str "guarded"), (.str "drop"), (.str "first"), (.str "names")]
def c_DROPS : D := .tup [(.str "eldest"), (.str "plain")]
def c_FIRSTS : D := .tup [(.str "elder"), (.str "younger")]
def c_MOST_NAMES : D := .int 6
def c_MOST_LETTERS : D := .int 8
def c_LETTERS : D := .str "abcdefghijklmnopqrstuvwxyz"
def c_CONDITIONS : D := .tup [(.str "closed"), (.str "own"), (.str "whole")]
def c_MOST_WORDS : D := .int 4
def c_MOST_HOUSES : D := .int 6
def c_MOST_COMMON : D := .int 4
def c_LAST_DAY : D := .int 9999
def c_MOST_PATH : D := .int 3
def c_MARKS : D := .tup [(.str "closed"), (.str "hidden"), (.str "near")]
def c_EMPTY : D := .tup [(.int 1), (.tup [])]
end Lw

end NC
set_option Elab.async false
set_option linter.all false
set_option maxRecDepth 100000
set_option maxHeartbeats 0
namespace Lw
open PySem PySem.Spec PyProof.Rows L2 DL
def nm0 : List PySem.Str := ["_wall", "SlipError", "NoHost", "NoLand", "NoRules", "NoSlip", "NoDeed", "NoStore", "LETTERS", "MOST_LETTERS", "LAST_DAY", "is_whole", "is_number", "is_word"]
def nm1 : List PySem.Str := ["is_row", "are_words", "are_of", "is_one_of", "MOST_WORDS", "MOST_PATH", "MOST_HOUSES", "MOST_COMMON", "is_host", "is_path", "look_at_host", "begins", "starts_of", "are_hosts"]
def nm2 : List PySem.Str := ["Land", "MARKS", "is_end", "is_slip", "over_on", "EMPTY", "are_kept", "is_store", "is_put", "is_deed", "has_right", "meets_names", "is_allowed", "may_put"]
def nm3 : List PySem.Str := ["found_at", "drop_spot", "with_new", "exchanged", "put_in", "behind", "look_at_store", "look_at_deeds", "after_all", "met", "CONDITIONS", "DROPS", "FIRSTS", "PARTS"]
def nm4 : List PySem.Str := ["MOST_KEPT", "MOST_NAMES", "is_name_rule", "are_names", "look_at_parts", "Rules", "rules_by", "_law_pool", "_law_take", "_law_one", "_law_turned", "_law_words", "_law_land", "_law_rules"]
def nm5 : List PySem.Str := ["_law_path", "_law_marks", "_law_end", "_law_host", "_law_slip", "_law_put", "_law_made_land", "_law_made_rules", "_law_circle", "_law_key", "_law_parts"]
def names : List PySem.Str := nm0 ++ nm1 ++ nm2 ++ nm3 ++ nm4 ++ nm5
def fa0 : List He.Fa := [.free "range", .free "max", .free "min", .free "len", .free "int", .free "tuple", .free "sorted", .free "list", .free "isinstance", .free "bool", .free "str", .free "all", .free "dict", .free "zip"] ++ [.free "enumerate", .glo "Rules", .cls "Rules", .mkr "Rules", .glo "Land", .cls "Land"]
def fa1 : List He.Fa := [.mkr "Land", .noat "Rules" "most", .noat "Rules" "wide_key", .noat "Rules" "renewed", .noat "Rules" "guarded", .noat "Rules" "drop", .noat "Rules" "first", .noat "Rules" "names", .noat "Rules" "record", .noat "Land" "own_houses", .noat "Land" "own_common", .meth "Rules" "__init__", .meth "Land" "__init__", .meth "Rules" "plain_key"] ++ [.meth "Land" "round_of", .meth "Rules" "asked_of"]
def d_fn__law_pool : He.DefD := ⟨("_law_pool", none), "_law_pool", "_law_pool", defArgs (top 70), defBody (top 70), defScope (top 70), [], []⟩
def d_fn__law_take : He.DefD := ⟨("_law_take", none), "_law_take", "_law_take", defArgs (top 71), defBody (top 71), defScope (top 71), [], []⟩
def d_fn__law_turned : He.DefD := ⟨("_law_turned", none), "_law_turned", "_law_turned", defArgs (top 73), defBody (top 73), defScope (top 73), [], []⟩
def d_fn__law_one : He.DefD := ⟨("_law_one", none), "_law_one", "_law_one", defArgs (top 72), defBody (top 72), defScope (top 72), [], []⟩
def d_fn__law_rules : He.DefD := ⟨("_law_rules", none), "_law_rules", "_law_rules", defArgs (top 76), defBody (top 76), defScope (top 76), [], []⟩
def d_fn__law_words : He.DefD := ⟨("_law_words", none), "_law_words", "_law_words", defArgs (top 74), defBody (top 74), defScope (top 74), [], []⟩
def d_fn__law_land : He.DefD := ⟨("_law_land", none), "_law_land", "_law_land", defArgs (top 75), defBody (top 75), defScope (top 75), [], []⟩
def d_fn_is_whole : He.DefD := ⟨("is_whole", none), "is_whole", "is_whole", defArgs (top 13), defBody (top 13), defScope (top 13), [], []⟩
def d_fn_is_number : He.DefD := ⟨("is_number", none), "is_number", "is_number", defArgs (top 14), defBody (top 14), defScope (top 14), [], []⟩
def d_fn_is_one_of : He.DefD := ⟨("is_one_of", none), "is_one_of", "is_one_of", defArgs (top 19), defBody (top 19), defScope (top 19), [], []⟩
def d_fn_is_row : He.DefD := ⟨("is_row", none), "is_row", "is_row", defArgs (top 16), defBody (top 16), defScope (top 16), [], []⟩
def d_fn_is_word : He.DefD := ⟨("is_word", none), "is_word", "is_word", defArgs (top 15), defBody (top 15), defScope (top 15), [], []⟩
def d_fn_are_of : He.DefD := ⟨("are_of", none), "are_of", "are_of", defArgs (top 18), defBody (top 18), defScope (top 18), [], []⟩
def d_fn_is_name_rule : He.DefD := ⟨("is_name_rule", none), "is_name_rule", "is_name_rule", defArgs (top 64), defBody (top 64), defScope (top 64), [], []⟩
def d_fn_are_names : He.DefD := ⟨("are_names", none), "are_names", "are_names", defArgs (top 65), defBody (top 65), defScope (top 65), [], []⟩
def d_fn_look_at_parts : He.DefD := ⟨("look_at_parts", none), "look_at_parts", "look_at_parts", defArgs (top 66), defBody (top 66), defScope (top 66), [], []⟩
def d_fn_Rules_init : He.DefD := ⟨("Rules", some "__init__"), "__init__", "Rules.__init__", defArgs (clsStmt (top 67) 0), defBody (clsStmt (top 67) 0), defScope (clsStmt (top 67) 0), [.int 3], [("wide_key", .bl true), ("renewed", .bl false), ("guarded", .bl false), ("drop", .str "eldest"), ("first", .str "elder"), ("names", .adr (He.kwAt ("Rules", some "__init__") "names"))]⟩
def d_fn__law_made_rules : He.DefD := ⟨("_law_made_rules", none), "_law_made_rules", "_law_made_rules", defArgs (top 84), defBody (top 84), defScope (top 84), [], []⟩
def d_fn_are_words : He.DefD := ⟨("are_words", none), "are_words", "are_words", defArgs (top 17), defBody (top 17), defScope (top 17), [], []⟩
def d_fn_is_host : He.DefD := ⟨("is_host", none), "is_host", "is_host", defArgs (top 25), defBody (top 25), defScope (top 25), [], []⟩
def d_fn_are_hosts : He.DefD := ⟨("are_hosts", none), "are_hosts", "are_hosts", defArgs (top 30), defBody (top 30), defScope (top 30), [], []⟩
def d_fn_Land_init : He.DefD := ⟨("Land", some "__init__"), "__init__", "Land.__init__", defArgs (clsStmt (top 31) 0), defBody (clsStmt (top 31) 0), defScope (clsStmt (top 31) 0), [.adr (He.dflAt ("Land", some "__init__") 0)], []⟩
def d_fn__law_made_land : He.DefD := ⟨("_law_made_land", none), "_law_made_land", "_law_made_land", defArgs (top 83), defBody (top 83), defScope (top 83), [], []⟩
def d_fn_is_path : He.DefD := ⟨("is_path", none), "is_path", "is_path", defArgs (top 26), defBody (top 26), defScope (top 26), [], []⟩
def d_fn_is_end : He.DefD := ⟨("is_end", none), "is_end", "is_end", defArgs (top 34), defBody (top 34), defScope (top 34), [], []⟩
def d_fn_is_slip : He.DefD := ⟨("is_slip", none), "is_slip", "is_slip", defArgs (top 35), defBody (top 35), defScope (top 35), [], []⟩
def d_fn_over_on : He.DefD := ⟨("over_on", none), "over_on", "over_on", defArgs (top 36), defBody (top 36), defScope (top 36), [], []⟩
def d_fn_Rules_plain_key : He.DefD := ⟨("Rules", some "plain_key"), "plain_key", "Rules.plain_key", defArgs (clsStmt (top 67) 4), defBody (clsStmt (top 67) 4), defScope (clsStmt (top 67) 4), [], []⟩
def d_fn_starts_of : He.DefD := ⟨("starts_of", none), "starts_of", "starts_of", defArgs (top 29), defBody (top 29), defScope (top 29), [], []⟩
def d_fn_Land_round_of : He.DefD := ⟨("Land", some "round_of"), "round_of", "Land.round_of", defArgs (clsStmt (top 31) 5), defBody (clsStmt (top 31) 5), defScope (clsStmt (top 31) 5), [], []⟩
def d_fn_are_kept : He.DefD := ⟨("are_kept", none), "are_kept", "are_kept", defArgs (top 39), defBody (top 39), defScope (top 39), [], []⟩
def d_fn_is_store : He.DefD := ⟨("is_store", none), "is_store", "is_store", defArgs (top 40), defBody (top 40), defScope (top 40), [], []⟩
def d_fn_look_at_store : He.DefD := ⟨("look_at_store", none), "look_at_store", "look_at_store", defArgs (top 53), defBody (top 53), defScope (top 53), [], []⟩
def d_fn_is_put : He.DefD := ⟨("is_put", none), "is_put", "is_put", defArgs (top 41), defBody (top 41), defScope (top 41), [], []⟩
def d_fn_is_deed : He.DefD := ⟨("is_deed", none), "is_deed", "is_deed", defArgs (top 42), defBody (top 42), defScope (top 42), [], []⟩
def d_fn_look_at_deeds : He.DefD := ⟨("look_at_deeds", none), "look_at_deeds", "look_at_deeds", defArgs (top 54), defBody (top 54), defScope (top 54), [], []⟩
def d_fn_begins : He.DefD := ⟨("begins", none), "begins", "begins", defArgs (top 28), defBody (top 28), defScope (top 28), [], []⟩
def d_fn_has_right : He.DefD := ⟨("has_right", none), "has_right", "has_right", defArgs (top 43), defBody (top 43), defScope (top 43), [], []⟩
def d_fn_Rules_asked_of : He.DefD := ⟨("Rules", some "asked_of"), "asked_of", "Rules.asked_of", defArgs (clsStmt (top 67) 6), defBody (clsStmt (top 67) 6), defScope (clsStmt (top 67) 6), [], []⟩
def d_fn_meets_names : He.DefD := ⟨("meets_names", none), "meets_names", "meets_names", defArgs (top 44), defBody (top 44), defScope (top 44), [], []⟩
def d_fn_is_allowed : He.DefD := ⟨("is_allowed", none), "is_allowed", "is_allowed", defArgs (top 45), defBody (top 45), defScope (top 45), [], []⟩
def d_fn_found_at : He.DefD := ⟨("found_at", none), "found_at", "found_at", defArgs (top 47), defBody (top 47), defScope (top 47), [], []⟩
def d_fn_exchanged : He.DefD := ⟨("exchanged", none), "exchanged", "exchanged", defArgs (top 50), defBody (top 50), defScope (top 50), [], []⟩
def d_fn_drop_spot : He.DefD := ⟨("drop_spot", none), "drop_spot", "drop_spot", defArgs (top 48), defBody (top 48), defScope (top 48), [], []⟩
def d_fn_with_new : He.DefD := ⟨("with_new", none), "with_new", "with_new", defArgs (top 49), defBody (top 49), defScope (top 49), [], []⟩
def d_fn_put_in : He.DefD := ⟨("put_in", none), "put_in", "put_in", defArgs (top 51), defBody (top 51), defScope (top 51), [], []⟩
def d_fn_behind : He.DefD := ⟨("behind", none), "behind", "behind", defArgs (top 52), defBody (top 52), defScope (top 52), [], []⟩
def d_fn_after_all : He.DefD := ⟨("after_all", none), "after_all", "after_all", defArgs (top 55), defBody (top 55), defScope (top 55), [], []⟩
def d_fn__law_marks : He.DefD := ⟨("_law_marks", none), "_law_marks", "_law_marks", defArgs (top 78), defBody (top 78), defScope (top 78), [], []⟩
def d_fn__law_end : He.DefD := ⟨("_law_end", none), "_law_end", "_law_end", defArgs (top 79), defBody (top 79), defScope (top 79), [], []⟩
def d_fn__law_path : He.DefD := ⟨("_law_path", none), "_law_path", "_law_path", defArgs (top 77), defBody (top 77), defScope (top 77), [], []⟩
def d_fn__law_host : He.DefD := ⟨("_law_host", none), "_law_host", "_law_host", defArgs (top 80), defBody (top 80), defScope (top 80), [], []⟩
def d_fn__law_slip : He.DefD := ⟨("_law_slip", none), "_law_slip", "_law_slip", defArgs (top 81), defBody (top 81), defScope (top 81), [], []⟩
def d_fn__law_put : He.DefD := ⟨("_law_put", none), "_law_put", "_law_put", defArgs (top 82), defBody (top 82), defScope (top 82), [], []⟩
def d_fn__law_circle : He.DefD := ⟨("_law_circle", none), "_law_circle", "_law_circle", defArgs (top 85), defBody (top 85), defScope (top 85), [], []⟩
def d_fn__law_parts : He.DefD := ⟨("_law_parts", none), "_law_parts", "_law_parts", defArgs (top 87), defBody (top 87), defScope (top 87), [], []⟩
def d_fn_may_put : He.DefD := ⟨("may_put", none), "may_put", "may_put", defArgs (top 46), defBody (top 46), defScope (top 46), [], []⟩
def d_fn_met : He.DefD := ⟨("met", none), "met", "met", defArgs (top 56), defBody (top 56), defScope (top 56), [], []⟩
def d_fn__law_key : He.DefD := ⟨("_law_key", none), "_law_key", "_law_key", defArgs (top 86), defBody (top 86), defScope (top 86), [], []⟩
def d_fn_law : He.DefD := ⟨("law", none), "law", "law", defArgs (top 88), defBody (top 88), defScope (top 88), [], []⟩
def ex (K : PySem.W.Frag) : Bool := conD "MOST_KEPT" c_MOST_KEPT K && (conD "PARTS" c_PARTS K && (conD "DROPS" c_DROPS K && (conD "FIRSTS" c_FIRSTS K && (conD "MOST_NAMES" c_MOST_NAMES K && (conD "MOST_LETTERS" c_MOST_LETTERS K && (conD "LETTERS" c_LETTERS K && (conD "CONDITIONS" c_CONDITIONS K && (conD "MOST_WORDS" c_MOST_WORDS K && (conD "MOST_HOUSES" c_MOST_HOUSES K && (conD "MOST_COMMON" c_MOST_COMMON K && (conD "LAST_DAY" c_LAST_DAY K && (conD "MOST_PATH" c_MOST_PATH K && (conD "MARKS" c_MARKS K && (conD "EMPTY" c_EMPTY K && (true)))))))))))))))
def p0 : HX.Part := ⟨fa0, [], fun _ => true⟩
def p1 : HX.Part := ⟨fa1, [], ex⟩
def p2 : HX.Part := ⟨[], [d_fn__law_pool, d_fn__law_take, d_fn__law_turned, d_fn__law_one, d_fn__law_rules, d_fn__law_words, d_fn__law_land, d_fn_is_whole, d_fn_is_number, d_fn_is_one_of, d_fn_is_row, d_fn_is_word, d_fn_are_of, d_fn_is_name_rule] ++ [d_fn_are_names, d_fn_look_at_parts, d_fn_Rules_init, d_fn__law_made_rules, d_fn_are_words, d_fn_is_host, d_fn_are_hosts, d_fn_Land_init, d_fn__law_made_land, d_fn_is_path, d_fn_is_end, d_fn_is_slip, d_fn_over_on, d_fn_Rules_plain_key] ++ [d_fn_starts_of, d_fn_Land_round_of], fun _ => true⟩
def p3 : HX.Part := ⟨[], [d_fn_are_kept, d_fn_is_store, d_fn_look_at_store, d_fn_is_put, d_fn_is_deed, d_fn_look_at_deeds, d_fn_begins, d_fn_has_right, d_fn_Rules_asked_of, d_fn_meets_names, d_fn_is_allowed, d_fn_found_at, d_fn_exchanged, d_fn_drop_spot] ++ [d_fn_with_new, d_fn_put_in, d_fn_behind, d_fn_after_all, d_fn__law_marks, d_fn__law_end, d_fn__law_path, d_fn__law_host, d_fn__law_slip, d_fn__law_put, d_fn__law_circle, d_fn__law_parts, d_fn_may_put, d_fn_met] ++ [d_fn__law_key, d_fn_law], fun _ => true⟩
abbrev R : PySem.W.OpenRow := PySem.W.OpenLaw.row PySem.Challenge.rw_visitslips_k22_whole_puts_exchanged
end Lw
set_option Elab.async false
set_option linter.all false
set_option maxRecDepth 100000
set_option maxHeartbeats 0
namespace Lw
open PySem PySem.Spec PyProof.Rows L2 DL
theorem run0 (w : World) : HX.RunB R (PySem.W.view R.prog [88]) 1446 p0 9000 names w := by
  intro os
  kernel_rfl
end Lw
set_option Elab.async false
set_option linter.all false
set_option maxRecDepth 100000
set_option maxHeartbeats 0
namespace Lw
open PySem PySem.Spec PyProof.Rows L2 DL
theorem run1 (w : World) : HX.RunP R 1446 p1 9000 w := by
  intro os
  kernel_rfl
end Lw
set_option Elab.async false
set_option linter.all false
set_option maxRecDepth 100000
set_option maxHeartbeats 0
namespace Lw
open PySem PySem.Spec PyProof.Rows L2 DL
theorem run2 (w : World) : HX.RunP R 1446 p2 9000 w := by
  intro os
  kernel_rfl
end Lw
set_option Elab.async false
set_option linter.all false
set_option maxRecDepth 100000
set_option maxHeartbeats 0
namespace Lw
open PySem PySem.Spec PyProof.Rows L2 DL
theorem run3 (w : World) : HX.RunP R 1446 p3 9000 w := by
  intro os
  kernel_rfl
end Lw
set_option Elab.async false
set_option linter.all false
set_option maxRecDepth 100000
set_option maxHeartbeats 3900000
/-! TY: the program's things as plain Lean, and how they stand as data. -/
namespace Ty
open PySem DL
abbrev Words := List PySem.Str
/-- a word -/
def okW (x : PySem.Str) : Bool := Nat.ble 1 x.cps.toList.length && (Nat.ble x.cps.toList.length 8 && x.cps.toList.all fun c => Nat.ble 97 c && Nat.ble c 122)
def okWs (lo hi : Nat) (xs : Words) : Bool := Nat.ble lo xs.length && (Nat.ble xs.length hi && xs.all okW)
def okHost (h : Words) : Bool := okWs 1 4 h
def okPath (h : Words) : Bool := okWs 0 3 h
def eqH : Words → Words → Bool
  | [], [] => true
  | x :: xs, y :: ys => eqS x y && eqH xs ys
  | _, _ => false
theorem eqH_iff : ∀ {a b : Words}, eqH a b = true ↔ a = b
  | [], [] => by simp [eqH]
  | [], _ :: _ => by simp [eqH]
  | _ :: _, [] => by simp [eqH]
  | x :: xs, y :: ys => by simp [eqH, eqS_iff, eqH_iff (a := xs) (b := ys)]
theorem eqH_self (a : Words) : eqH a a = true := eqH_iff.mpr rfl
structure Slip where
  name : PySem.Str
  worth : PySem.Str
  host : Words
  wide : Bool
  path : Words
  fin : Option Int
  marks : Words
structure Rl where
  most : Int
  wideKey : Bool
  renewed : Bool
  guarded : Bool
  drop : PySem.Str
  first : PySem.Str
  names : List (PySem.Str × Words)
structure Ld where
  houses : List Words
  common : List Words
structure Store where
  day : Int
  slips : List Slip
inductive Deed where
  | put (house : Words) (closed : Bool) (slip : Slip)
  | wait (days : Int)
/-! as data -/
def dW (xs : Words) : D := .tup (xs.map .str)
def dEnd : Option Int → D
  | none => .non
  | some i => .int i
def dSlip (s : Slip) : D := .tup [.str s.name, .str s.worth, dW s.host, .bl s.wide, dW s.path, dEnd s.fin, dW s.marks]
def dNames (ns : List (PySem.Str × Words)) : D := .tup (ns.map fun p => .tup [.str p.1, dW p.2])
def dRules (r : Rl) : D := .obj "Rules" ["most", "wide_key", "renewed", "guarded", "drop", "first", "names", "record"]
  [.int r.most, .bl r.wideKey, .bl r.renewed, .bl r.guarded, .str r.drop, .str r.first, dNames r.names, .tup [.int r.most, .bl r.wideKey, .bl r.renewed, .bl r.guarded, .str r.drop, .str r.first, dNames r.names]]
def dLand (l : Ld) : D := .obj "Land" ["own_houses", "own_common"] [.lst (l.houses.map dW), .lst (l.common.map dW)]
def dSlips (ss : List Slip) : D := .tup (ss.map dSlip)
def dStore (s : Store) : D := .tup [.int s.day, dSlips s.slips]
def dDeed : Deed → D
  | .put h c s => .tup [.str "put", dW h, .bl c, dSlip s]
  | .wait n => .tup [.str "wait", .int n]
/-! what is right -/
def okEnd : Option Int → Bool
  | none => true
  | some i => decide (1 ≤ i) && decide (i ≤ 9999)
def marksW : Words := ["closed", "hidden", "near"]
def condsW : Words := ["closed", "own", "whole"]
/-- just those of some words, in their order -/
def okOf (words xs : Words) : Bool := eqH xs (words.filter fun w => xs.any fun x => eqS x w)
def okSlip (s : Slip) : Bool := okW s.name && (okW s.worth && (okHost s.host && (okPath s.path && (okEnd s.fin && okOf marksW s.marks))))
/-! ### what can be compared -/
theorem okW_ck {x : PySem.Str} (h : okW x = true) (n : Nat) : ck (.str x) n = true := by
  simp only [okW, Bool.and_eq_true] at h
  simp only [ck, List.all_eq_true] at h ⊢
  intro c mem
  have := h.2.2 c mem
  simp only [Bool.and_eq_true, Nat.ble_eq] at this
  simp only [Nat.blt, Nat.ble_eq]
  omega
theorem cks_W {xs : Words} (h : xs.all okW = true) (n : Nat) : cks (xs.map .str) n = true := by
  induction xs with
  | nil => rfl
  | cons x xs ih =>
    simp only [Bool.and_eq_true, List.all_cons] at h
    simp only [List.map_cons, cks, Bool.and_eq_true]
    exact ⟨okW_ck h.1 n, ih h.2⟩
theorem ck_W {xs : Words} (h : xs.all okW = true) (n : Nat) : ck (dW xs) (n + 1) = true := by
  simp only [dW, ck, Nat.add_sub_cancel, Bool.and_eq_true]
  exact ⟨Nat.ble_eq.mpr (Nat.succ_le_succ (Nat.zero_le _)), cks_W h n⟩
theorem eqD_W (a b : Words) : eqD (dW a) (dW b) = eqH a b := by
  show eqDs (a.map .str) (b.map .str) = eqH a b
  induction a generalizing b with
  | nil => cases b <;> rfl
  | cons x xs ih =>
    cases b with
    | nil => rfl
    | cons y ys =>
      show (eqS x y && eqDs (xs.map .str) (ys.map .str)) = (eqS x y && eqH xs ys)
      rw [ih ys]
theorem host_all {h : Words} (k : okHost h = true) : h.all okW = true := by
  simp only [okHost, okWs, Bool.and_eq_true] at k
  exact k.2.2
theorem path_all {h : Words} (k : okPath h = true) : h.all okW = true := by
  simp only [okPath, okWs, Bool.and_eq_true] at k
  exact k.2.2
theorem of_all {ws xs : Words} (h : ws.all okW = true) (k : okOf ws xs = true) : xs.all okW = true := by
  rw [eqH_iff.mp k, List.all_eq_true]
  intro x mem
  exact List.all_eq_true.mp h x ((List.mem_filter.mp mem).1)
theorem marks_words : marksW.all okW = true := by decide +kernel
theorem conds_words : condsW.all okW = true := by decide +kernel
theorem ck_end (e : Option Int) (n : Nat) : ck (dEnd e) n = true := by cases e <;> rfl
structure SlipOk (s : Slip) : Prop where
  name : okW s.name = true
  worth : okW s.worth = true
  host : okHost s.host = true
  path : okPath s.path = true
  fin : okEnd s.fin = true
  marks : okOf marksW s.marks = true
theorem slipOk {s : Slip} (h : okSlip s = true) : SlipOk s := by
  simp only [okSlip, Bool.and_eq_true] at h
  exact ⟨h.1, h.2.1, h.2.2.1, h.2.2.2.1, h.2.2.2.2.1, h.2.2.2.2.2⟩
theorem ck_slip {s : Slip} (h : okSlip s = true) (n : Nat) : ck (dSlip s) (n + 2) = true := by
  have k := slipOk h
  have a1 := okW_ck k.name (n + 1)
  have a2 := okW_ck k.worth (n + 1)
  have a3 := ck_W (host_all k.host) n
  have a4 := ck_W (path_all k.path) n
  have a5 := ck_W (of_all marks_words k.marks) n
  have a6 := ck_end s.fin (n + 1)
  have z : Nat.blt 0 (n + 2) = true := Nat.ble_eq.mpr (Nat.succ_le_succ (Nat.zero_le _))
  show (Nat.blt 0 (n + 2) && cks [.str s.name, .str s.worth, dW s.host, .bl s.wide, dW s.path, dEnd s.fin, dW s.marks] (n + 1)) = true
  simp only [cks, a1, a2, a3, a4, a5, a6, z, Bool.and_true, Bool.true_and]
  rfl
def eqEnd : Option Int → Option Int → Bool
  | none, none => true
  | some i, some j => decide (i = j)
  | _, _ => false
def eqSlip (a b : Slip) : Bool := eqS a.name b.name && (eqS a.worth b.worth && (eqH a.host b.host && ((a.wide == b.wide) && (eqH a.path b.path && (eqEnd a.fin b.fin && eqH a.marks b.marks)))))
theorem eqEnd_iff {a b : Option Int} : eqEnd a b = true ↔ a = b := by
  cases a <;> cases b <;> simp [eqEnd]
theorem eqSlip_iff {a b : Slip} : eqSlip a b = true ↔ a = b := by
  cases a
  cases b
  simp [eqSlip, eqS_iff, eqH_iff, eqEnd_iff]
theorem eqD_end (a b : Option Int) : eqD (dEnd a) (dEnd b) = eqEnd a b := by
  cases a <;> cases b <;> rfl
theorem eqD_slip (a b : Slip) : eqD (dSlip a) (dSlip b) = eqSlip a b := by
  show eqDs [.str a.name, .str a.worth, dW a.host, .bl a.wide, dW a.path, dEnd a.fin, dW a.marks] [.str b.name, .str b.worth, dW b.host, .bl b.wide, dW b.path, dEnd b.fin, dW b.marks] = _
  simp only [eqDs, eqD_W, eqD_end, Bool.and_true]
  rfl
theorem eqDs_map {α : Type} (f : α → D) (e : α → α → Bool) (h : ∀ a b, eqD (f a) (f b) = e a b) : ∀ (xs ys : List α), eqDs (xs.map f) (ys.map f) = (match xs, ys with
  | [], [] => true
  | x :: xs, y :: ys => e x y && eqDs (xs.map f) (ys.map f)
  | _, _ => false)
  | [], [] => rfl
  | [], _ :: _ => rfl
  | _ :: _, [] => rfl
  | x :: xs, y :: ys => by
    show (eqD (f x) (f y) && eqDs (xs.map f) (ys.map f)) = _
    rw [h]
def eqSlips : List Slip → List Slip → Bool
  | [], [] => true
  | x :: xs, y :: ys => eqSlip x y && eqSlips xs ys
  | _, _ => false
theorem eqSlips_iff : ∀ {a b : List Slip}, eqSlips a b = true ↔ a = b
  | [], [] => by simp [eqSlips]
  | [], _ :: _ => by simp [eqSlips]
  | _ :: _, [] => by simp [eqSlips]
  | x :: xs, y :: ys => by simp [eqSlips, eqSlip_iff, eqSlips_iff (a := xs) (b := ys)]
theorem eqDs_slips : ∀ (a b : List Slip), eqDs (a.map dSlip) (b.map dSlip) = eqSlips a b
  | [], [] => rfl
  | [], _ :: _ => rfl
  | _ :: _, [] => rfl
  | x :: xs, y :: ys => by
    show (eqD (dSlip x) (dSlip y) && eqDs (xs.map dSlip) (ys.map dSlip)) = (eqSlip x y && eqSlips xs ys)
    rw [eqD_slip, eqDs_slips]
theorem cks_slips {ss : List Slip} (h : ss.all okSlip = true) (n : Nat) : cks (ss.map dSlip) (n + 2) = true := by
  induction ss with
  | nil => rfl
  | cons s ss ih =>
    simp only [Bool.and_eq_true, List.all_cons] at h
    simp only [List.map_cons, cks, Bool.and_eq_true]
    exact ⟨ck_slip h.1 n, ih h.2⟩
end Ty
namespace Ty
open PySem DL
/-! ### lands -/
structure LdOk (l : Ld) : Prop where
  houses : l.houses.all okHost = true
  common : l.common.all okHost = true
  few : l.houses.length ≤ 1000
  few2 : l.common.length ≤ 1000
def begins (row longer : Words) : Bool := eqH (longer.take row.length) row
def startsOf (h : Words) : List Words := (List.range h.length).map fun i => h.take (i + 1)
def isCommon (l : Ld) (h : Words) : Bool := l.common.any fun z => eqH z h
def roundOf (l : Ld) (h : Words) : Words := match (startsOf h).filter fun s => !isCommon l s with
  | [] => h
  | s :: _ => s
theorem cks_Ws {hs : List Words} (h : hs.all okHost = true) (n : Nat) : cks (hs.map dW) (n + 1) = true := by
  induction hs with
  | nil => rfl
  | cons x xs ih =>
    simp only [Bool.and_eq_true, List.all_cons] at h
    simp only [List.map_cons, cks, Bool.and_eq_true]
    exact ⟨ck_W (host_all h.1) n, ih h.2⟩
theorem cmp_W {h : Words} (k : h.all okW = true) : cmpD (dW h) = true := ck_W k 63
theorem cmp_Ws {hs : List Words} (h : hs.all okHost = true) : cmpD (.lst (hs.map dW)) = true := by
  show (Nat.blt 0 64 && cks (hs.map dW) 63) = true
  rw [cks_Ws h 62]
  rfl
theorem in_Ws {hs : List Words} {h : Words} (a : hs.all okHost = true) (b : h.all okW = true) : dIn0 (dW h) (.lst (hs.map dW)) = some (hs.any fun z => eqH z h) := by
  show (if cmpD (dW h) = true ∧ cmpD (.lst (hs.map dW)) = true then some ((hs.map dW).any fun z => eqD z (dW h)) else none) = _
  rw [if_pos ⟨cmp_W b, cmp_Ws a⟩, List.any_map]
  congr 2
  funext z
  exact eqD_W z h
theorem eq_W {a b : Words} (ha : a.all okW = true) (hb : b.all okW = true) : dEq (dW a) (dW b) = some (.bl (eqH a b)) := by
  show (if cmpD (dW a) = true ∧ cmpD (dW b) = true then some (eqD (dW a) (dW b)) else none).map D.bl = _
  rw [if_pos ⟨cmp_W ha, cmp_W hb⟩, eqD_W]
  rfl
theorem take_all {h : Words} (k : h.all okW = true) (n : Nat) : (h.take n).all okW = true := by
  rw [List.all_eq_true] at k ⊢
  exact fun x mem => k x (List.mem_of_mem_take mem)
theorem starts_all {h : Words} (k : h.all okW = true) : ∀ s ∈ startsOf h, s.all okW = true := by
  intro s mem
  obtain ⟨i, _, rfl⟩ := List.mem_map.mp mem
  exact take_all k _
theorem round_mem (l : Ld) (h : Words) : roundOf l h = h ∨ roundOf l h ∈ startsOf h := by
  unfold roundOf
  split
  · exact .inl rfl
  · rename_i s r e
    have mem : s ∈ (startsOf h).filter fun s => !isCommon l s := by rw [e]; exact List.mem_cons_self
    exact .inr (List.mem_filter.mp mem).1
theorem round_all {l : Ld} {h : Words} (k : h.all okW = true) : (roundOf l h).all okW = true := by
  rcases round_mem l h with e | e
  · rw [e]
    exact k
  · exact starts_all k _ e
/-! ### keys -/
def dKey (r : Rl) (s : Slip) : D := if r.wideKey = true then .tup [.str s.name, dW s.host, .bl s.wide, dW s.path] else .tup [.str s.name, dW s.host, dW s.path]
def sameKey (r : Rl) (a b : Slip) : Bool := eqS a.name b.name && (eqH a.host b.host && ((!r.wideKey || (a.wide == b.wide)) && eqH a.path b.path))
theorem eqD_key (r : Rl) (a b : Slip) : eqD (dKey r a) (dKey r b) = sameKey r a b := by
  unfold dKey sameKey
  cases r.wideKey with
  | true =>
    show eqDs [.str a.name, dW a.host, .bl a.wide, dW a.path] [.str b.name, dW b.host, .bl b.wide, dW b.path] = _
    simp only [eqDs, eqD_W, Bool.and_true, Bool.not_true, Bool.false_or]
    rfl
  | false =>
    show eqDs [.str a.name, dW a.host, dW a.path] [.str b.name, dW b.host, dW b.path] = _
    simp only [eqDs, eqD_W, Bool.and_true, Bool.not_false, Bool.true_or, Bool.true_and]
    rfl
theorem cmp_key {r : Rl} {s : Slip} (h : SlipOk s) : cmpD (dKey r s) = true := by
  have a1 := okW_ck h.name 63
  have a3 := ck_W (host_all h.host) 62
  have a4 := ck_W (path_all h.path) 62
  unfold dKey
  split
  · show (Nat.blt 0 64 && cks [.str s.name, dW s.host, .bl s.wide, dW s.path] 63) = true
    simp only [cks, a1, a3, a4, Bool.and_true, Bool.true_and]
    rfl
  · show (Nat.blt 0 64 && cks [.str s.name, dW s.host, dW s.path] 63) = true
    simp only [cks, a1, a3, a4, Bool.and_true, Bool.true_and]
    rfl
theorem eq_key {r : Rl} {a b : Slip} (ha : SlipOk a) (hb : SlipOk b) : dEq (dKey r a) (dKey r b) = some (.bl (sameKey r a b)) := by
  show (if cmpD (dKey r a) = true ∧ cmpD (dKey r b) = true then some (eqD (dKey r a) (dKey r b)) else none).map D.bl = _
  rw [if_pos ⟨cmp_key ha, cmp_key hb⟩, eqD_key]
  rfl
theorem sameKey_iff {r : Rl} {a b : Slip} : sameKey r a b = true ↔ a.name = b.name ∧ a.host = b.host ∧ (r.wideKey = true → a.wide = b.wide) ∧ a.path = b.path := by
  unfold sameKey
  cases r.wideKey <;> simp [eqS_iff, eqH_iff]
/-! ### puts -/
def overOn (s : Slip) (day : Int) : Bool := match s.fin with
  | none => false
  | some e => decide (e ≤ day)
def hasMark (s : Slip) (m : PySem.Str) : Bool := s.marks.any fun x => eqS x m
/-- a condition is asked of a name -/
def asks (r : Rl) (name cond : PySem.Str) : Bool := r.names.any fun p => Txt.startswith name p.1 && p.2.any fun c => eqS c cond
def hasRight (l : Ld) (house : Words) (s : Slip) : Bool := if s.wide then begins s.host house && !isCommon l s.host else eqH s.host house
def meetsNames (r : Rl) (s : Slip) : Bool :=
  if (asks r s.name "own" && s.wide) || (asks r s.name "whole" && !s.path.isEmpty) then false else !asks r s.name "closed" || hasMark s "closed"
def allowed (l : Ld) (r : Rl) (house : Words) (closed : Bool) (s : Slip) : Bool :=
  if !hasRight l house s || (hasMark s "closed" && !closed) then false else meetsNames r s
def isPlain (s : Slip) : Bool := !hasMark s "closed"
/-- the places of the slips of a kind -/
def spots (p : Slip → Bool) (ss : List Slip) : List Nat := (ss.zipIdx.filter fun q => p q.1).map (·.2)
def foundAt (r : Rl) (ss : List Slip) (s : Slip) : Option Nat := (spots (fun x => sameKey r x s) ss).head?
/-- the first place of a slip of a circle (that is plain, if any is and it matters) -/
def dropSpot (l : Ld) (r : Rl) (ss : List Slip) (one : Words) : Nat :=
  let inOne := fun s : Slip => eqH (roundOf l s.host) one
  if eqS r.drop "plain" then (spots (fun s => inOne s && isPlain s) ss ++ spots inOne ss).headD 0 else (spots inOne ss).headD 0
def withNew (l : Ld) (r : Rl) (ss : List Slip) (s : Slip) : List Slip :=
  let later := ss ++ [s]
  let one := roundOf l s.host
  if ((later.countP fun x => eqH (roundOf l x.host) one : Nat) : Int) ≤ r.most then later else later.eraseIdx (dropSpot l r later one)
def exchanged (r : Rl) (ss : List Slip) (n : Nat) (s : Slip) : List Slip := if r.renewed then ss.eraseIdx n ++ [s] else ss.set n s
def putIn (l : Ld) (r : Rl) (st : Store) (house : Words) (closed : Bool) (s : Slip) : Store :=
  if !allowed l r house closed s then st else match foundAt r st.slips s with
    | some n => if r.guarded && ((st.slips[n]?.map fun x => hasMark x "closed").getD false && !closed) then st
      else if overOn s st.day then ⟨st.day, st.slips.eraseIdx n⟩ else ⟨st.day, exchanged r st.slips n s⟩
    | none => if overOn s st.day then st else ⟨st.day, withNew l r st.slips s⟩
def behind (l : Ld) (r : Rl) (st : Store) : Deed → Store
  | .put h c s => putIn l r st h c s
  | .wait n => let day := if st.day + n < 9999 then st.day + n else 9999
    ⟨day, st.slips.filter fun s => !overOn s day⟩
structure RlOk (r : Rl) : Prop where
  low : 1 ≤ r.most
  high : r.most ≤ 6
  drop : r.drop = "eldest" ∨ r.drop = "plain"
  first : r.first = "elder" ∨ r.first = "younger"
  names : ∀ p ∈ r.names, okW p.1 = true ∧ okOf condsW p.2 = true
  few : r.names.length ≤ 6
def afterAll (l : Ld) (r : Rl) (st : Store) (ds : List Deed) : Store := ds.foldl (behind l r) st
end Ty
namespace Ty
theorem okSlip_of {s : Slip} (k : SlipOk s) : okSlip s = true := by
  unfold okSlip
  rw [k.name, k.worth, k.host, k.path, k.fin, k.marks]
  rfl
end Ty
namespace Ty
open PySem DL
/-! ### visits -/
structure Visit where
  host : Words
  path : Words
  page : Option Words
  helper : Bool
  closed : Bool
def dPage : Option Words → D
  | none => .non
  | some h => dW h
def dVisit (v : Visit) : D := .tup [dW v.host, dW v.path, dPage v.page, .bl v.helper, .bl v.closed]
structure VisitOk (v : Visit) : Prop where
  host : okHost v.host = true
  path : okPath v.path = true
  page : ∀ h, v.page = some h → okHost h = true
def onePage (l : Ld) (v : Visit) : Bool := match v.page with
  | none => true
  | some h => eqH (roundOf l h) (roundOf l v.host)
def marksFit (l : Ld) (s : Slip) (v : Visit) : Bool :=
  if (hasMark s "closed" && !v.closed) || (hasMark s "hidden" && v.helper) then false else !hasMark s "near" || onePage l v
def goesWith (l : Ld) (s : Slip) (v : Visit) : Bool := (if s.wide then begins s.host v.host else eqH s.host v.host) && (begins s.path v.path && marksFit l s v)
def fitting (l : Ld) (r : Rl) (ss : List Slip) (v : Visit) : List Slip :=
  if eqS r.first "younger" then (ss.filter fun s => goesWith l s v).reverse else ss.filter fun s => goesWith l s v
def takenOf (l : Ld) (r : Rl) (ss : List Slip) (v : Visit) : List Slip := [3, 2, 1, 0].flatMap fun n => (fitting l r ss v).filter fun s => Nat.beq s.path.length n
def ways : Words := ["first", "last", "strict", "all"]
def readOf (rows : List Slip) (way : PySem.Str) : List Slip :=
  if eqS way "first" then rows.take 1 else if eqS way "last" then rows.drop (rows.length - 1) else if eqS way "all" || Nat.beq rows.length 1 then rows else []
def readsOf (l : Ld) (r : Rl) (ss : List Slip) (v : Visit) (name way : PySem.Str) : List Slip := readOf ((takenOf l r ss v).filter fun s => eqS s.name name) way
end Ty
set_option Elab.async false
set_option linter.all false
set_option maxRecDepth 100000
set_option maxHeartbeats 3900000
/-! KP: what deeds keep of a right store, in plain Lean. -/
namespace Ty
open PySem DL
structure Kept (l : Ld) (r : Rl) (ss : List Slip) : Prop where
  slips : ∀ x ∈ ss, SlipOk x
  keys : ss.Pairwise fun a b => sameKey r a b = false
  rounds : ∀ x ∈ ss, ((ss.countP fun y => eqH (roundOf l y.host) (roundOf l x.host) : Nat) : Int) ≤ r.most
theorem same_symm {r : Rl} {a b : Slip} : sameKey r a b = sameKey r b a := by
  rw [Bool.eq_iff_iff, sameKey_iff, sameKey_iff]
  constructor
  · rintro ⟨h1, h2, h3, h4⟩
    exact ⟨h1.symm, h2.symm, fun w => (h3 w).symm, h4.symm⟩
  · rintro ⟨h1, h2, h3, h4⟩
    exact ⟨h1.symm, h2.symm, fun w => (h3 w).symm, h4.symm⟩
theorem same_trans {r : Rl} {a b c : Slip} (h : sameKey r a b = true) : sameKey r a c = sameKey r b c := by
  obtain ⟨h1, h2, h3, h4⟩ := sameKey_iff.mp h
  rw [Bool.eq_iff_iff, sameKey_iff, sameKey_iff, h1, h2, h4]
  constructor
  · rintro ⟨a, b, c, d⟩
    exact ⟨a, b, fun w => (h3 w).symm.trans (c w), d⟩
  · rintro ⟨a, b, c, d⟩
    exact ⟨a, b, fun w => (h3 w).trans (c w), d⟩
section
variable {l : Ld} {r : Rl} {ss tt : List Slip} {s x : Slip}
theorem kept_sub (h : tt.Sublist ss) (k : Kept l r ss) : Kept l r tt :=
  ⟨fun x m => k.slips x (h.subset m), k.keys.sublist h, fun x m => Int.le_trans (Int.ofNat_le.mpr h.countP_le) (k.rounds x (h.subset m))⟩
theorem kept_perm (h : ss.Perm tt) (k : Kept l r ss) : Kept l r tt :=
  ⟨fun x m => k.slips x (h.mem_iff.mpr m), (h.pairwise_iff fun {a b} e => by rw [same_symm]; exact e).mp k.keys, fun x m => by
    rw [← h.countP_eq]
    exact k.rounds x (h.mem_iff.mpr m)⟩
theorem kept_swap (k : Kept l r (x :: ss)) (e : sameKey r x s = true) (ks : SlipOk s) : Kept l r (s :: ss) := by
  have hh : x.host = s.host := (sameKey_iff.mp e).2.1
  have p := List.pairwise_cons.mp k.keys
  refine ⟨?_, List.pairwise_cons.mpr ⟨fun y m => ?_, p.2⟩, ?_⟩
  · intro y m
    rcases List.mem_cons.mp m with rfl | m
    · exact ks
    · exact k.slips y (List.mem_cons_of_mem _ m)
  · rw [← same_trans e]
    exact p.1 y m
  · intro y m
    have c : ∀ z : Slip, (s :: ss).countP (fun y => eqH (roundOf l y.host) (roundOf l z.host)) = (x :: ss).countP (fun y => eqH (roundOf l y.host) (roundOf l z.host)) := fun z => by
      rw [List.countP_cons, List.countP_cons, hh]
    rw [c]
    rcases List.mem_cons.mp m with rfl | m
    · rw [← hh]
      exact k.rounds x List.mem_cons_self
    · exact k.rounds y (List.mem_cons_of_mem _ m)
theorem kept_new (k : Kept l r ss) (ks : SlipOk s) (new : ∀ x ∈ ss, sameKey r x s = false) (c : (((s :: ss).countP fun y => eqH (roundOf l y.host) (roundOf l s.host) : Nat) : Int) ≤ r.most) : Kept l r (s :: ss) := by
  refine ⟨?_, List.pairwise_cons.mpr ⟨fun y m => ?_, k.keys⟩, ?_⟩
  · intro y m
    rcases List.mem_cons.mp m with rfl | m
    · exact ks
    · exact k.slips y m
  · rw [same_symm]
    exact new y m
  · intro y m
    rcases List.mem_cons.mp m with rfl | m
    · exact c
    · by_cases e : roundOf l s.host = roundOf l y.host
      · rw [← e]
        exact c
      · have n : ¬ eqH (roundOf l s.host) (roundOf l y.host) = true := fun h => e (eqH_iff.mp h)
        rw [List.countP_cons, if_neg n]
        exact k.rounds y m
theorem erase_front {α : Type} : ∀ {xs : List α} {i : Nat} {x : α}, xs[i]? = some x → xs.Perm (x :: xs.eraseIdx i)
  | y :: ys, 0, x, h => by
    cases h
    exact .refl _
  | y :: ys, i + 1, x, h => ((erase_front (xs := ys) (i := i) h).cons y).trans (List.Perm.swap x y _)
theorem set_front {α : Type} : ∀ {xs : List α} {i : Nat} {x s : α}, xs[i]? = some x → (xs.set i s).Perm (s :: xs.eraseIdx i)
  | y :: ys, 0, x, s, h => .refl _
  | y :: ys, i + 1, x, s, h => ((set_front (xs := ys) (i := i) (x := x) h).cons y).trans (List.Perm.swap s y _)
theorem spot_at {p : Slip → Bool} {ss : List Slip} {n : Nat} (h : n ∈ spots p ss) : ∃ s, ss[n]? = some s ∧ p s = true := by
  obtain ⟨q, mq, rfl⟩ := List.mem_map.mp h
  have f := List.mem_filter.mp mq
  exact ⟨q.1, List.mem_zipIdx_iff_getElem?.mp f.1, f.2⟩
theorem spot_of {p : Slip → Bool} {ss : List Slip} {n : Nat} {s : Slip} (h : ss[n]? = some s) (k : p s = true) : n ∈ spots p ss :=
  List.mem_map.mpr ⟨(s, n), List.mem_filter.mpr ⟨List.mem_zipIdx_iff_getElem?.mpr h, k⟩, rfl⟩
theorem found_some {n : Nat} (h : foundAt r ss s = some n) : ∃ x, ss[n]? = some x ∧ sameKey r x s = true :=
  spot_at (List.mem_of_mem_head? (by rw [show (spots (fun x => sameKey r x s) ss).head? = some n from h]; rfl))
theorem found_none (h : foundAt r ss s = none) : ∀ x ∈ ss, sameKey r x s = false := by
  intro x m
  cases e : sameKey r x s with
  | false => rfl
  | true =>
    obtain ⟨n, q⟩ := List.getElem?_of_mem m
    have z := spot_of (p := fun x => sameKey r x s) q e
    rw [List.head?_eq_none_iff.mp (show (spots (fun x => sameKey r x s) ss).head? = none from h)] at z
    exact nomatch z
theorem drop_at (one : Words) (h : ∃ x ∈ ss, roundOf l x.host = one) : ∃ x, ss[dropSpot l r ss one]? = some x ∧ roundOf l x.host = one := by
  have ne : ∃ n ns, spots (fun s => eqH (roundOf l s.host) one) ss = n :: ns := by
    obtain ⟨x, mx, e⟩ := h
    obtain ⟨n, e2⟩ := List.getElem?_of_mem mx
    have m := spot_of (p := fun s => eqH (roundOf l s.host) one) e2 (eqH_iff.mpr e)
    cases q : spots (fun s => eqH (roundOf l s.host) one) ss with
    | nil => rw [q] at m; exact nomatch m
    | cons n ns => exact ⟨n, ns, rfl⟩
  obtain ⟨n, ns, e⟩ := ne
  have plain : ∃ x, ss[(spots (fun s => eqH (roundOf l s.host) one) ss).headD 0]? = some x ∧ roundOf l x.host = one := by
    obtain ⟨x, ex, p⟩ := spot_at (p := fun s => eqH (roundOf l s.host) one) (ss := ss) (n := n) (by rw [e]; exact List.mem_cons_self)
    rw [e]
    exact ⟨x, ex, eqH_iff.mp p⟩
  unfold dropSpot
  simp only
  split
  · cases f : spots (fun s => eqH (roundOf l s.host) one && isPlain s) ss with
    | nil => exact plain
    | cons a as =>
      obtain ⟨x, ex, p⟩ := spot_at (p := fun s => eqH (roundOf l s.host) one && isPlain s) (ss := ss) (n := a) (by rw [f]; exact List.mem_cons_self)
      rw [Bool.and_eq_true] at p
      exact ⟨x, ex, eqH_iff.mp p.1⟩
  · exact plain
theorem kept_with (k : Kept l r ss) (low : 1 ≤ r.most) (ks : SlipOk s) (new : ∀ x ∈ ss, sameKey r x s = false) : Kept l r (withNew l r ss s) := by
  have pm : (ss ++ [s]).Perm (s :: ss) := List.perm_append_comm
  unfold withNew
  simp only
  split
  · rename_i c
    refine kept_perm pm.symm (kept_new k ks new ?_)
    rw [← pm.countP_eq]
    exact c
  · rename_i c
    obtain ⟨x, ex, e⟩ := drop_at (l := l) (r := r) (ss := ss ++ [s]) (roundOf l s.host) ⟨s, List.mem_append.mpr (.inr List.mem_cons_self), rfl⟩
    have p2 := erase_front ex
    generalize (ss ++ [s]).eraseIdx (dropSpot l r (ss ++ [s]) (roundOf l s.host)) = tt at p2 ⊢
    have p3 : (s :: ss).Perm (x :: tt) := pm.symm.trans p2
    have cnt : ∀ p : Slip → Bool, (s :: ss).countP p = (x :: tt).countP p := fun p => p3.countP_eq p
    have pw : (x :: tt).Pairwise fun a b => sameKey r a b = false := (p3.pairwise_iff fun {a b} e => by rw [same_symm]; exact e).mp (List.pairwise_cons.mpr ⟨fun y m => by rw [same_symm]; exact new y m, k.keys⟩)
    refine ⟨fun y m => ?_, (List.pairwise_cons.mp pw).2, fun y m => ?_⟩
    · have m2 : y ∈ s :: ss := p3.mem_iff.mpr (List.mem_cons_of_mem _ m)
      rcases List.mem_cons.mp m2 with rfl | m2
      · exact ks
      · exact k.slips y m2
    · have c2 := cnt fun z => eqH (roundOf l z.host) (roundOf l y.host)
      rw [List.countP_cons, List.countP_cons, e] at c2
      have same : tt.countP (fun z => eqH (roundOf l z.host) (roundOf l y.host)) = ss.countP (fun z => eqH (roundOf l z.host) (roundOf l y.host)) := by omega
      rw [same]
      have m2 : y ∈ s :: ss := p3.mem_iff.mpr (List.mem_cons_of_mem _ m)
      rcases List.mem_cons.mp m2 with rfl | m2
      · by_cases z : ss.countP (fun z => eqH (roundOf l z.host) (roundOf l y.host)) = 0
        · rw [z]
          exact Int.le_trans (by decide) low
        · obtain ⟨u, mu, eu⟩ := List.countP_pos_iff.mp (Nat.pos_of_ne_zero z)
          have ku := k.rounds u mu
          rw [eqH_iff.mp eu] at ku
          exact ku
      · exact k.rounds y m2
theorem kept_ex {n : Nat} (k : Kept l r ss) (ks : SlipOk s) (ex : ss[n]? = some x) (e : sameKey r x s = true) : Kept l r (Ty.exchanged r ss n s) := by
  have k2 := kept_swap (kept_perm (erase_front ex) k) e ks
  unfold Ty.exchanged
  split
  · exact kept_perm List.perm_append_comm.symm k2
  · exact kept_perm (set_front ex).symm k2
end
structure StoreOk (l : Ld) (r : Rl) (st : Store) : Prop where
  day : 0 ≤ st.day ∧ st.day ≤ 9999
  live : ∀ x ∈ st.slips, overOn x st.day = false
  kept : Kept l r st.slips
/-- a deed is right -/
def DeedOk : Deed → Prop
  | .put h _ s => okHost h = true ∧ SlipOk s
  | .wait n => 1 ≤ n ∧ n ≤ 9999
section
variable {l : Ld} {r : Rl} {st : Store}
theorem store_put {h : Words} {c : Bool} {s : Slip} (S : StoreOk l r st) (low : 1 ≤ r.most) (ks : SlipOk s) : StoreOk l r (Ty.putIn l r st h c s) := by
  have sub : ∀ n, ((st.slips.eraseIdx n).Sublist st.slips) := fun n => List.eraseIdx_sublist ..
  unfold Ty.putIn
  split
  · exact S
  · split
    · rename_i n f
      obtain ⟨x, ex, e⟩ := found_some f
      split
      · exact S
      · split
        · exact ⟨S.day, fun x m => S.live x ((sub n).subset m), kept_sub (sub n) S.kept⟩
        · rename_i o
          refine ⟨S.day, fun y m => ?_, kept_ex S.kept ks ex e⟩
          have m2 : y ∈ st.slips ∨ y = s := by
            unfold Ty.exchanged at m
            simp only at m
            split at m
            · rcases List.mem_append.mp m with m | m
              · exact .inl ((sub n).subset m)
              · exact .inr (List.mem_singleton.mp m)
            · exact List.mem_or_eq_of_mem_set m
          rcases m2 with m2 | rfl
          · exact S.live y m2
          · exact eq_false_of_ne_true o
    · rename_i f
      split
      · exact S
      · rename_i o
        refine ⟨S.day, fun y m => ?_, kept_with S.kept low ks (found_none f)⟩
        have m2 : y ∈ st.slips ++ [s] := by
          unfold withNew at m
          simp only at m
          split at m
          · exact m
          · exact (List.eraseIdx_sublist ..).subset m
        rcases List.mem_append.mp m2 with m2 | m2
        · exact S.live y m2
        · rw [List.mem_singleton.mp m2]
          exact eq_false_of_ne_true o
theorem put_len {h : Words} {c : Bool} {s : Slip} : (Ty.putIn l r st h c s).slips.length ≤ st.slips.length + 1 := by
  unfold Ty.putIn
  split
  · omega
  · split
    · split
      · omega
      · split
        · have := (List.eraseIdx_sublist st.slips (by assumption)).length_le
          simp only
          omega
        · unfold Ty.exchanged
          simp only
          split
          · have := fun n => (List.eraseIdx_sublist st.slips n).length_le
            rw [List.length_append]
            exact Nat.add_le_add_right (this _) 1
          · rw [List.length_set]
            omega
    · split
      · omega
      · unfold withNew
        simp only
        split
        · simp
        · refine Nat.le_trans (List.eraseIdx_sublist ..).length_le ?_
          simp
theorem behind_ok {d : Deed} (S : StoreOk l r st) (low : 1 ≤ r.most) (kd : DeedOk d) : StoreOk l r (behind l r st d) := by
  cases d with
  | put h c s => exact store_put S low kd.2
  | wait n =>
    have d1 := S.day
    have d2 : 1 ≤ n ∧ n ≤ 9999 := kd
    refine ⟨?_, fun x m => ?_, kept_sub List.filter_sublist S.kept⟩
    · show 0 ≤ (if st.day + n < 9999 then st.day + n else 9999) ∧ (if st.day + n < 9999 then st.day + n else 9999) ≤ 9999
      split <;> omega
    · have f : (!overOn x (behind l r st (.wait n)).day) = true := (List.mem_filter.mp m).2
      rw [Bool.not_eq_true'] at f
      exact f
theorem behind_len {d : Deed} : (behind l r st d).slips.length ≤ st.slips.length + 1 := by
  cases d with
  | put h c s => exact put_len
  | wait n => exact Nat.le_trans (List.length_filter_le _ _) (Nat.le_succ _)
theorem after_ok (low : 1 ≤ r.most) : ∀ {ds : List Deed} {st : Store}, StoreOk l r st → (∀ d ∈ ds, DeedOk d) → StoreOk l r (afterAll l r st ds) ∧ (afterAll l r st ds).slips.length ≤ st.slips.length + ds.length
  | [], st, S, _ => ⟨S, Nat.le_refl _⟩
  | d :: ds, st, S, h => by
    have a := after_ok low (behind_ok S low (h d List.mem_cons_self)) fun e m => h e (List.mem_cons_of_mem _ m)
    refine ⟨a.1, Nat.le_trans a.2 ?_⟩
    have b := behind_len (l := l) (r := r) (st := st) (d := d)
    rw [List.length_cons]
    omega
theorem empty_ok : StoreOk l r ⟨1, []⟩ := ⟨⟨by decide, by decide⟩, (fun _ m => nomatch m), ⟨(fun _ m => nomatch m), .nil, (fun _ m => nomatch m)⟩⟩
end
end Ty
set_option Elab.async false
set_option linter.all false
set_option maxRecDepth 100000
set_option maxHeartbeats 3900000
/-! PW: plain facts of waits and strikes. -/
namespace Ty
open PySem DL
def capDay (x : Int) : Int := if x < 9999 then x else 9999
theorem over_later {s : Slip} {d e : Int} (h : d ≤ e) (k : overOn s d = true) : overOn s e = true := by
  unfold overOn at k ⊢
  cases q : s.fin with
  | none => rw [q] at k; exact k
  | some x =>
    rw [q] at k
    simp only [decide_eq_true_eq] at k ⊢
    omega
theorem wait_is (l : Ld) (r : Rl) (st : Store) (n : Int) : behind l r st (.wait n) = ⟨capDay (st.day + n), st.slips.filter fun s => !overOn s (capDay (st.day + n))⟩ := rfl
theorem two_filters (ss : List Slip) {d e : Int} (h : d ≤ e) : (ss.filter fun s => !overOn s d).filter (fun s => !overOn s e) = ss.filter fun s => !overOn s e := by
  rw [List.filter_filter]
  apply List.filter_congr
  intro s _
  cases q : overOn s e with
  | true => rfl
  | false =>
    cases p : overOn s d with
    | true => rw [over_later h p] at q; exact nomatch q
    | false => rfl
theorem two_waits {l : Ld} {r : Rl} {st : Store} {a b : Int} (d : 0 ≤ st.day ∧ st.day ≤ 9999) (ha : 1 ≤ a) (hb : 1 ≤ b) : afterAll l r st [.wait a, .wait b] = ⟨capDay (st.day + a + b), st.slips.filter fun s => !overOn s (capDay (st.day + a + b))⟩ := by
  show behind l r (behind l r st (.wait a)) (.wait b) = _
  rw [wait_is, wait_is]
  have e : capDay (capDay (st.day + a) + b) = capDay (st.day + a + b) := by
    unfold capDay
    split <;> (try split) <;> (try split) <;> omega
  have le : capDay (st.day + a) ≤ capDay (st.day + a + b) := by
    unfold capDay
    split <;> (try split) <;> omega
  show (⟨capDay (capDay (st.day + a) + b), ((st.slips.filter fun s => !overOn s (capDay (st.day + a))).filter fun s => !overOn s (capDay (capDay (st.day + a) + b)))⟩ : Store) = _
  rw [e, two_filters _ le]
theorem one_wait {l : Ld} {r : Rl} {st : Store} {a b : Int} (d : 0 ≤ st.day ∧ st.day ≤ 9999) (ha : 1 ≤ a) (hb : 1 ≤ b) : behind l r st (.wait (capDay (a + b))) = ⟨capDay (st.day + a + b), st.slips.filter fun s => !overOn s (capDay (st.day + a + b))⟩ := by
  have e : capDay (st.day + capDay (a + b)) = capDay (st.day + a + b) := by
    unfold capDay
    split <;> (try split) <;> (try split) <;> omega
  rw [wait_is, e]
theorem same_self (r : Rl) (s : Slip) : sameKey r s s = true := sameKey_iff.mpr ⟨rfl, rfl, fun _ => rfl, rfl⟩
theorem erase_is {r : Rl} : ∀ {ss : List Slip} {n : Nat} {x : Slip}, (ss.Pairwise fun a b => sameKey r a b = false) → ss[n]? = some x → ss.eraseIdx n = ss.filter fun y => !eqSlip y x
  | y :: ss, 0, x, p, h => by
    cases h
    have q := List.pairwise_cons.mp p
    have one : (!eqSlip y y) = false := by rw [eqSlip_iff.mpr rfl]; rfl
    rw [List.filter_cons_of_neg (p := fun z => !eqSlip z y) (by rw [one]; exact Bool.false_ne_true)]
    symm
    apply List.filter_eq_self.mpr
    intro z mz
    cases e : eqSlip z y with
    | false => rfl
    | true =>
      have ne := q.1 z mz
      rw [eqSlip_iff.mp e, same_self] at ne
      exact nomatch ne
  | y :: ss, n + 1, x, p, h => by
    have q := List.pairwise_cons.mp p
    have h2 : ss[n]? = some x := h
    have ne := q.1 x (List.mem_of_getElem? h2)
    have one : (!eqSlip y x) = true := by
      cases e : eqSlip y x with
      | false => rfl
      | true =>
        rw [eqSlip_iff.mp e, same_self] at ne
        exact nomatch ne
    rw [List.filter_cons_of_pos (p := fun y => !eqSlip y x) one, ← erase_is q.2 h2]
    rfl
theorem strike {l : Ld} {r : Rl} {st : Store} {h : Words} {s : Slip} (k : Kept l r st.slips) (o : overOn s st.day = true) (al : allowed l r h true s = true) {n : Nat} {x : Slip} (f : foundAt r st.slips s = some n) (ex : st.slips[n]? = some x) :
    behind l r st (.put h true s) = ⟨st.day, st.slips.filter fun y => !eqSlip y x⟩ := by
  show Ty.putIn l r st h true s = _
  unfold Ty.putIn
  simp only [al, f, o, Bool.not_true, Bool.and_false, Bool.false_eq_true, if_false, if_true]
  rw [erase_is k.keys ex]
theorem no_strike {l : Ld} {r : Rl} {st : Store} {h : Words} {s : Slip} (o : overOn s st.day = true) (q : allowed l r h true s = false ∨ foundAt r st.slips s = none) : behind l r st (.put h true s) = st := by
  show Ty.putIn l r st h true s = _
  unfold Ty.putIn
  rcases q with q | q
  · simp only [q, Bool.not_false, if_true]
  · cases al : allowed l r h true s with
    | false => simp only [Bool.not_false, if_true]
    | true => simp only [q, o, Bool.not_true, Bool.false_eq_true, if_false, if_true]
def eqStore (a b : Store) : Bool := decide (a.day = b.day) && eqSlips a.slips b.slips
theorem eqStore_self (a : Store) : eqStore a a = true := by
  unfold eqStore
  rw [decide_eq_true rfl, eqSlips_iff.mpr rfl]
  rfl
theorem eqD_store (a b : Store) : eqD (dStore a) (dStore b) = eqStore a b := by
  show (decide (a.day = b.day) && (eqDs (a.slips.map dSlip) (b.slips.map dSlip) && true)) = _
  rw [eqDs_slips, Bool.and_true]
  rfl
theorem cmp_store {a : Store} (h : ∀ x ∈ a.slips, SlipOk x) : cmpD (dStore a) = true := by
  have all : a.slips.all okSlip = true := List.all_eq_true.mpr fun x m => okSlip_of (h x m)
  have c := cks_slips all 60
  show (Nat.blt 0 64 && (true && ((Nat.blt 0 63 && cks (a.slips.map dSlip) 62) && true))) = true
  rw [c]
  rfl
theorem ne_store {a : Store} (h : ∀ x ∈ a.slips, SlipOk x) : dNe (dStore a) (dStore a) = some (.bl false) := by
  show (if cmpD (dStore a) = true ∧ cmpD (dStore a) = true then some (eqD (dStore a) (dStore a)) else none).map (fun b => D.bl (!b)) = _
  rw [if_pos ⟨cmp_store h, cmp_store h⟩, eqD_store, eqStore_self]
  rfl
theorem cmp_slips {ss : List Slip} (h : ∀ x ∈ ss, SlipOk x) : cmpD (.lst (ss.map dSlip)) = true := by
  have all : ss.all okSlip = true := List.all_eq_true.mpr fun x m => okSlip_of (h x m)
  show (Nat.blt 0 64 && cks (ss.map dSlip) 63) = true
  rw [cks_slips all 61]
  rfl
theorem ne_slips {ss : List Slip} (h : ∀ x ∈ ss, SlipOk x) : dNe (.lst (ss.map dSlip)) (.lst (ss.map dSlip)) = some (.bl false) := by
  show (if cmpD (.lst (ss.map dSlip)) = true ∧ cmpD (.lst (ss.map dSlip)) = true then some (eqDs (ss.map dSlip) (ss.map dSlip)) else none).map (fun b => D.bl (!b)) = _
  rw [if_pos ⟨cmp_slips h, cmp_slips h⟩, eqDs_slips, eqSlips_iff.mpr rfl]
  rfl
theorem ne_slip {a b : Slip} (ha : SlipOk a) (hb : SlipOk b) : dNe (dSlip a) (dSlip b) = some (.bl (!eqSlip a b)) := by
  have c1 : cmpD (dSlip a) = true := ck_slip (okSlip_of ha) 62
  have c2 : cmpD (dSlip b) = true := ck_slip (okSlip_of hb) 62
  show (if cmpD (dSlip a) = true ∧ cmpD (dSlip b) = true then some (eqD (dSlip a) (dSlip b)) else none).map (fun b => D.bl (!b)) = _
  rw [if_pos ⟨c1, c2⟩, eqD_slip]
  rfl
end Ty
set_option Elab.async false
set_option linter.all false
set_option maxRecDepth 100000
set_option maxHeartbeats 3900000
/-! PX: puts by keys; circles apart; two puts. -/
namespace Ty
open PySem DL
/-! ### first places -/
theorem spots_from (p : Slip → Bool) : ∀ (ss : List Slip) (k : Nat), (((ss.zipIdx k).filter fun q => p q.1).map (·.2)).head? = (ss.findIdx? p).map (· + k)
  | [], k => rfl
  | s :: ss, k => by
    rw [List.zipIdx_cons, List.findIdx?_cons]
    cases q : p s with
    | true =>
      rw [List.filter_cons_of_pos (p := fun q : Slip × Nat => p q.1) q]
      simp
    | false =>
      rw [List.filter_cons_of_neg (p := fun q : Slip × Nat => p q.1) (by simp [q]), spots_from p ss (k + 1)]
      simp only [Bool.false_eq_true, if_false, Option.map_map]
      congr 1
      funext i
      simp only [Function.comp]
      omega
theorem spots_head (p : Slip → Bool) (ss : List Slip) : (spots p ss).head? = ss.findIdx? p := by
  have h := spots_from p ss 0
  simpa [spots] using h
theorem spots_headD (p : Slip → Bool) (ss : List Slip) : (spots p ss).headD 0 = (ss.findIdx? p).getD 0 := by
  rw [← spots_head]
  cases spots p ss <;> rfl
theorem erase_first (p : Slip → Bool) : ∀ {ss : List Slip} {n : Nat}, ss.findIdx? p = some n → ss.eraseIdx n = ss.eraseP p
  | [], n, h => by simp at h
  | s :: ss, n, h => by
    rw [List.findIdx?_cons] at h
    cases q : p s with
    | true =>
      rw [q] at h
      simp only [if_true, Option.some.injEq] at h
      subst h
      rw [List.eraseP_cons_of_pos q]
      rfl
    | false =>
      rw [q] at h
      simp only [Bool.false_eq_true, if_false, Option.map_eq_some_iff] at h
      obtain ⟨m, hm, rfl⟩ := h
      rw [List.eraseP_cons_of_neg (by simp [q]), ← erase_first p hm]
      rfl
/-- which slip of a circle goes -/
def goer (l : Ld) (r : Rl) (ss : List Slip) (one : Words) : Slip → Bool :=
  if eqS r.drop "plain" && ss.any (fun s => eqH (roundOf l s.host) one && isPlain s) then fun s => eqH (roundOf l s.host) one && isPlain s else fun s => eqH (roundOf l s.host) one
theorem find_some_of {p : Slip → Bool} {ss : List Slip} (h : ss.any p = true) : ∃ n, ss.findIdx? p = some n := by
  cases q : ss.findIdx? p with
  | some n => exact ⟨n, rfl⟩
  | none =>
    rw [List.findIdx?_eq_none_iff] at q
    rw [List.any_eq_true] at h
    obtain ⟨x, m, px⟩ := h
    rw [q x m] at px
    exact nomatch px
theorem drop_is {l : Ld} {r : Rl} {ss : List Slip} {one : Words} (h : ∃ x ∈ ss, roundOf l x.host = one) : ss.eraseIdx (dropSpot l r ss one) = ss.eraseP (goer l r ss one) := by
  have a1 : ss.any (fun s => eqH (roundOf l s.host) one) = true := by
    rw [List.any_eq_true]
    obtain ⟨x, m, e⟩ := h
    exact ⟨x, m, eqH_iff.mpr e⟩
  obtain ⟨n, hn⟩ := find_some_of a1
  unfold dropSpot goer
  simp only
  cases d : eqS r.drop "plain" with
  | false =>
    simp only [Bool.false_eq_true, if_false, Bool.false_and]
    rw [spots_headD, hn]
    exact erase_first _ hn
  | true =>
    simp only [Bool.true_and, if_true, if_pos]
    cases a2 : ss.any (fun s => eqH (roundOf l s.host) one && isPlain s) with
    | true =>
      obtain ⟨m, hm⟩ := find_some_of a2
      simp only [if_true]
      have e : (spots (fun s => eqH (roundOf l s.host) one && isPlain s) ss ++ spots (fun s => eqH (roundOf l s.host) one) ss).headD 0 = m := by
        have q := spots_head (fun s => eqH (roundOf l s.host) one && isPlain s) ss
        rw [hm] at q
        cases z : spots (fun s => eqH (roundOf l s.host) one && isPlain s) ss with
        | nil => rw [z] at q; exact nomatch q
        | cons a as =>
          rw [z] at q
          simpa using q
      rw [e]
      exact erase_first _ hm
    | false =>
      simp only [if_false, Bool.false_eq_true, if_neg]
      have e : spots (fun s => eqH (roundOf l s.host) one && isPlain s) ss = [] := by
        have q := spots_head (fun s => eqH (roundOf l s.host) one && isPlain s) ss
        have z : ss.findIdx? (fun s => eqH (roundOf l s.host) one && isPlain s) = none := by
          rw [List.findIdx?_eq_none_iff]
          intro x m
          rw [List.any_eq_false] at a2
          exact eq_false_of_ne_true (a2 x m)
        rw [z] at q
        exact List.head?_eq_none_iff.mp q
      rw [e, List.nil_append, spots_headD, hn]
      exact erase_first _ hn
/-! ### puts by keys -/
def gone (r : Rl) (s : Slip) (ss : List Slip) : List Slip := ss.filter fun y => !sameKey r y s
def swapped (r : Rl) (s : Slip) (ss : List Slip) : List Slip := ss.map fun y => if sameKey r y s then s else y
def metIn (r : Rl) (ss : List Slip) (s : Slip) : Option Slip := ss.find? fun x => sameKey r x s
def tooMany (l : Ld) (r : Rl) (ss : List Slip) (s : Slip) : Bool := !decide ((((ss ++ [s]).countP fun x => eqH (roundOf l x.host) (roundOf l s.host) : Nat) : Int) ≤ r.most)
def newIn (l : Ld) (r : Rl) (ss : List Slip) (s : Slip) : List Slip :=
  if tooMany l r ss s then (ss ++ [s]).eraseP (goer l r (ss ++ [s]) (roundOf l s.host)) else ss ++ [s]
theorem new_is {l : Ld} {r : Rl} {ss : List Slip} {s : Slip} : withNew l r ss s = newIn l r ss s := by
  unfold withNew newIn tooMany
  simp only
  split
  · rename_i h
    rw [decide_eq_true h]
    rfl
  · rename_i h
    rw [decide_eq_false h]
    simp only [if_true, Bool.not_false, if_pos]
    exact drop_is ⟨s, List.mem_append.mpr (.inr List.mem_cons_self), rfl⟩
theorem found_is {r : Rl} {ss : List Slip} {s : Slip} : foundAt r ss s = ss.findIdx? fun x => sameKey r x s := spots_head _ _
theorem pw_no {r : Rl} {y s : Slip} {ss : List Slip} (p : ∀ a ∈ ss, sameKey r y a = false) (q : sameKey r y s = true) : ∀ a ∈ ss, sameKey r a s = false := by
  intro a m
  cases e : sameKey r a s with
  | false => rfl
  | true =>
    have h := p a m
    rw [same_trans q, same_symm, e] at h
    exact nomatch h
theorem gone_none {r : Rl} {s : Slip} {ss : List Slip} (h : ∀ a ∈ ss, sameKey r a s = false) : gone r s ss = ss := by
  unfold gone
  rw [List.filter_eq_self]
  intro a m
  rw [h a m]
  rfl
theorem swapped_none {r : Rl} {s : Slip} {ss : List Slip} (h : ∀ a ∈ ss, sameKey r a s = false) : swapped r s ss = ss := by
  unfold swapped
  conv => rhs; rw [← List.map_id ss]
  apply List.map_congr_left
  intro a m
  rw [h a m]
  rfl
theorem at_first {r : Rl} {s : Slip} : ∀ {ss : List Slip} {n : Nat}, (ss.Pairwise fun a b => sameKey r a b = false) → (ss.findIdx? fun x => sameKey r x s) = some n →
    ss.eraseIdx n = gone r s ss ∧ (∀ z, ss.set n z = ss.map fun y => if sameKey r y s then z else y) ∧ (∃ x, ss[n]? = some x ∧ metIn r ss s = some x)
  | [], n, _, h => by simp at h
  | y :: ss, n, p, h => by
    have q := List.pairwise_cons.mp p
    rw [List.findIdx?_cons] at h
    cases e : sameKey r y s with
    | true =>
      rw [e] at h
      simp only [if_true, Option.some.injEq] at h
      subst h
      have no := pw_no q.1 e
      have g := gone_none no
      refine ⟨?_, fun z => ?_, y, rfl, ?_⟩
      · show ss = (y :: ss).filter _
        rw [List.filter_cons_of_neg (by simp [e])]
        exact g.symm
      · show z :: ss = _
        rw [List.map_cons, e, if_pos rfl]
        congr 1
        conv => lhs; rw [← List.map_id ss]
        apply List.map_congr_left
        intro a m
        rw [no a m]
        rfl
      · unfold metIn
        rw [List.find?_cons_of_pos (p := fun x => sameKey r x s) e]
    | false =>
      rw [e] at h
      simp only [Bool.false_eq_true, if_false, Option.map_eq_some_iff] at h
      obtain ⟨m, hm, rfl⟩ := h
      obtain ⟨h1, h2, x, h3, h4⟩ := at_first q.2 hm
      refine ⟨?_, fun z => ?_, x, h3, ?_⟩
      · show y :: ss.eraseIdx m = _
        rw [h1]
        unfold gone
        rw [List.filter_cons_of_pos (by simp [e])]
      · show y :: ss.set m z = _
        rw [h2 z, List.map_cons, e]
        rfl
      · unfold metIn at h4 ⊢
        rw [List.find?_cons_of_neg (p := fun x => sameKey r x s) (by simp [e])]
        exact h4
/-- a put by keys alone -/
def putBy (l : Ld) (r : Rl) (st : Store) (h : Words) (c : Bool) (s : Slip) : Store :=
  if !allowed l r h c s then st else match metIn r st.slips s with
    | some x => if r.guarded && (hasMark x "closed" && !c) then st
      else if overOn s st.day then ⟨st.day, gone r s st.slips⟩ else ⟨st.day, if r.renewed then gone r s st.slips ++ [s] else swapped r s st.slips⟩
    | none => if overOn s st.day then st else ⟨st.day, newIn l r st.slips s⟩
theorem put_by {l : Ld} {r : Rl} {st : Store} {h : Words} {c : Bool} {s : Slip} (k : st.slips.Pairwise fun a b => sameKey r a b = false) : Ty.putIn l r st h c s = putBy l r st h c s := by
  unfold Ty.putIn putBy
  cases al : allowed l r h c s with
  | false => rfl
  | true =>
    simp only [Bool.false_eq_true, Bool.not_true, if_false]
    rw [found_is]
    cases f : st.slips.findIdx? (fun x => sameKey r x s) with
    | none =>
      have m : metIn r st.slips s = none := by
        unfold metIn
        rw [List.find?_eq_none]
        intro x mx
        rw [List.findIdx?_eq_none_iff] at f
        rw [f x mx]
        exact Bool.false_ne_true
      rw [m]
      simp only
      rw [new_is]
    | some n =>
      obtain ⟨h1, h2, x, h3, h4⟩ := at_first k f
      rw [h4]
      simp only [h3, Option.map_some, Option.getD_some]
      unfold Ty.exchanged swapped
      rw [h1, h2 s]
theorem met_some {r : Rl} {ss : List Slip} {s x : Slip} (h : metIn r ss s = some x) : x ∈ ss ∧ sameKey r x s = true := by
  have e := List.find?_some (p := fun x => sameKey r x s) h
  exact ⟨List.mem_of_find?_eq_some h, e⟩
theorem met_none {r : Rl} {ss : List Slip} {s : Slip} (h : metIn r ss s = none) : ∀ x ∈ ss, sameKey r x s = false := by
  intro x m
  have := List.find?_eq_none.mp h x m
  exact eq_false_of_ne_true this
/-! ### circles -/
def partOf (l : Ld) (C : Words) (ss : List Slip) : List Slip := ss.filter fun s => eqH (roundOf l s.host) C
theorem same_host {r : Rl} {a b : Slip} (h : sameKey r a b = true) : a.host = b.host := (sameKey_iff.mp h).2.1
theorem filter_erase {p q : Slip → Bool} (h : ∀ x, q x = true → p x = true) : ∀ ss : List Slip, (ss.eraseP q).filter p = (ss.filter p).eraseP q
  | [] => rfl
  | s :: ss => by
    cases e : q s with
    | true =>
      rw [List.eraseP_cons_of_pos e, List.filter_cons_of_pos (h s e), List.eraseP_cons_of_pos e]
    | false =>
      rw [List.eraseP_cons_of_neg (by simp [e])]
      cases f : p s with
      | true => rw [List.filter_cons_of_pos f, List.filter_cons_of_pos f, List.eraseP_cons_of_neg (by simp [e]), filter_erase h ss]
      | false => rw [List.filter_cons_of_neg (by simp [f]), List.filter_cons_of_neg (by simp [f]), filter_erase h ss]
theorem filter_erase_off {p q : Slip → Bool} (h : ∀ x, q x = true → p x = false) : ∀ ss : List Slip, (ss.eraseP q).filter p = ss.filter p
  | [] => rfl
  | s :: ss => by
    cases e : q s with
    | true =>
      rw [List.eraseP_cons_of_pos e, List.filter_cons_of_neg (by simp [h s e])]
    | false =>
      rw [List.eraseP_cons_of_neg (by simp [e])]
      cases f : p s with
      | true => rw [List.filter_cons_of_pos f, List.filter_cons_of_pos f, filter_erase_off h ss]
      | false => rw [List.filter_cons_of_neg (by simp [f]), List.filter_cons_of_neg (by simp [f]), filter_erase_off h ss]
section
variable {l : Ld} {r : Rl} {ss : List Slip} {s : Slip} {C : Words}
theorem part_gone : partOf l C (gone r s ss) = gone r s (partOf l C ss) := by
  unfold partOf gone
  rw [List.filter_filter, List.filter_filter]
  apply List.filter_congr
  intro x _
  exact Bool.and_comm _ _
theorem part_gone_off (h : roundOf l s.host ≠ C) : partOf l C (gone r s ss) = partOf l C ss := by
  unfold partOf gone
  rw [List.filter_filter]
  apply List.filter_congr
  intro x _
  cases e : sameKey r x s with
  | false => simp
  | true =>
    have z : eqH (roundOf l x.host) C = false := by
      rw [same_host e]
      cases f : eqH (roundOf l s.host) C with
      | false => rfl
      | true => exact absurd (eqH_iff.mp f) h
    simp [z]
theorem swap_round {x : Slip} : roundOf l (if sameKey r x s = true then s else x).host = roundOf l x.host := by
  cases e : sameKey r x s with
  | true => rw [if_pos rfl, same_host e]
  | false => rfl
theorem part_swapped : partOf l C (swapped r s ss) = swapped r s (partOf l C ss) := by
  unfold partOf swapped
  rw [List.filter_map]
  congr 1
  apply List.filter_congr
  intro x _
  simp only [Function.comp, swap_round]
theorem part_swapped_off (h : roundOf l s.host ≠ C) : partOf l C (swapped r s ss) = partOf l C ss := by
  rw [part_swapped]
  apply swapped_none
  intro x m
  have z := (List.mem_filter.mp m).2
  cases e : sameKey r x s with
  | false => rfl
  | true =>
    rw [same_host e] at z
    exact absurd (eqH_iff.mp z) h
theorem part_app (a b : List Slip) : partOf l C (a ++ b) = partOf l C a ++ partOf l C b := List.filter_append ..
theorem part_one (h : roundOf l s.host = C) : partOf l C [s] = [s] := by
  unfold partOf
  rw [List.filter_cons_of_pos (p := fun s : Slip => eqH (roundOf l s.host) C) (a := s) (eqH_iff.mpr h)]
  rfl
theorem part_one_off (h : roundOf l s.host ≠ C) : partOf l C [s] = [] := by
  unfold partOf
  rw [List.filter_cons_of_neg (p := fun s : Slip => eqH (roundOf l s.host) C) (a := s) (fun z => h (eqH_iff.mp z))]
  rfl
theorem goer_round {one : Words} {x : Slip} {tt : List Slip} (h : goer l r tt one x = true) : roundOf l x.host = one := by
  unfold goer at h
  split at h
  · rw [Bool.and_eq_true] at h
    exact eqH_iff.mp h.1
  · exact eqH_iff.mp h
theorem goer_part {tt : List Slip} : goer l r (partOf l C tt) C = goer l r tt C := by
  unfold goer partOf
  have e : (tt.filter fun s => eqH (roundOf l s.host) C).any (fun s => eqH (roundOf l s.host) C && isPlain s) = tt.any (fun s => eqH (roundOf l s.host) C && isPlain s) := by
    rw [List.any_filter]
    congr 1
    funext x
    cases eqH (roundOf l x.host) C <;> simp
  rw [e]
theorem part_new (h : roundOf l s.host = C) : partOf l C (newIn l r ss s) = newIn l r (partOf l C ss) s := by
  have e : partOf l C (ss ++ [s]) = partOf l C ss ++ [s] := by rw [part_app, part_one h]
  have t : tooMany l r (partOf l C ss) s = tooMany l r ss s := by
    unfold tooMany
    rw [← e, h]
    unfold partOf
    rw [List.countP_filter]
    simp only [Bool.and_self]
  unfold newIn
  rw [t]
  split
  · rw [h, ← e, goer_part]
    exact filter_erase (fun x q => eqH_iff.mpr (goer_round q)) _
  · exact e
theorem part_new_off (h : roundOf l s.host ≠ C) : partOf l C (newIn l r ss s) = partOf l C ss := by
  have e : partOf l C (ss ++ [s]) = partOf l C ss := by rw [part_app, part_one_off h, List.append_nil]
  unfold newIn
  split
  · rw [← e]
    refine filter_erase_off (fun x q => ?_) _
    rw [goer_round q]
    cases f : eqH (roundOf l s.host) C with
    | false => rfl
    | true => exact absurd (eqH_iff.mp f) h
  · exact e
theorem met_part (h : roundOf l s.host = C) : metIn r (partOf l C ss) s = metIn r ss s := by
  unfold metIn partOf
  rw [List.find?_filter]
  congr 1
  funext x
  cases e : sameKey r x s with
  | false => simp
  | true => simp [same_host e, eqH_iff.mpr h]
/-- what is kept of a circle comes of what was kept of it -/
theorem put_part {d : Int} {hs : Words} {c : Bool} (h : roundOf l s.host = C) : putBy l r ⟨d, partOf l C ss⟩ hs c s = ⟨d, partOf l C (putBy l r ⟨d, ss⟩ hs c s).slips⟩ := by
  unfold putBy
  simp only [met_part h]
  split
  · rfl
  · split
    · split
      · rfl
      · split
        · rw [part_gone]
        · simp only
          split
          · rw [part_app, part_one h, part_gone]
          · rw [part_swapped]
    · split
      · rfl
      · rw [part_new h]
theorem put_part_off {d : Int} {hs : Words} {c : Bool} (h : roundOf l s.host ≠ C) : partOf l C (putBy l r ⟨d, ss⟩ hs c s).slips = partOf l C ss := by
  unfold putBy
  split
  · rfl
  · split
    · split
      · rfl
      · split
        · rw [part_gone_off h]
        · simp only
          split
          · rw [part_app, part_one_off h, part_gone_off h, List.append_nil]
          · rw [part_swapped_off h]
    · split
      · rfl
      · rw [part_new_off h]
theorem put_day {d : Int} {hs : Words} {c : Bool} : (putBy l r ⟨d, ss⟩ hs c s).day = d := by
  unfold putBy
  split
  · rfl
  · split
    · split
      · rfl
      · split <;> rfl
    · split <;> rfl
end
/-! ### two puts -/
section
variable {l : Ld} {r : Rl} {st : Store} {h h2 : Words} {c c2 : Bool} {s s2 : Slip}
theorem putIn_day : (Ty.putIn l r st h c s).day = st.day := by
  unfold Ty.putIn
  split
  · rfl
  · split
    · split
      · rfl
      · split <;> rfl
    · split <;> rfl
theorem not_allowed (al : allowed l r h c s = false) : Ty.putIn l r st h c s = st := by
  unfold Ty.putIn
  rw [al]
  rfl
/-- unlike circles -/
theorem two_circles (S : StoreOk l r st) (low : 1 ≤ r.most) (k1 : SlipOk s) (k2 : SlipOk s2) (ne : roundOf l s.host ≠ roundOf l s2.host) (C : Words) (hC : C = roundOf l s.host ∨ C = roundOf l s2.host) :
    partOf l C (Ty.putIn l r (Ty.putIn l r st h c s) h2 c2 s2).slips = partOf l C (Ty.putIn l r (Ty.putIn l r st h2 c2 s2) h c s).slips := by
  have key : ∀ {h h2 : Words} {c c2 : Bool} {s s2 : Slip}, SlipOk s → SlipOk s2 → roundOf l s.host = C → roundOf l s2.host ≠ C → partOf l C (Ty.putIn l r (Ty.putIn l r st h c s) h2 c2 s2).slips = partOf l C (Ty.putIn l r (Ty.putIn l r st h2 c2 s2) h c s).slips := by
    intro h h2 c c2 s s2 k1 k2 e1 e2
    have S1 := store_put (h := h) (c := c) S low k1
    have S2 := store_put (h := h2) (c := c2) S low k2
    have a1 : partOf l C (Ty.putIn l r (Ty.putIn l r st h c s) h2 c2 s2).slips = partOf l C (Ty.putIn l r st h c s).slips := by
      rw [put_by S1.kept.keys]
      exact put_part_off e2
    have a2 : (⟨st.day, partOf l C (Ty.putIn l r (Ty.putIn l r st h2 c2 s2) h c s).slips⟩ : Store) = ⟨st.day, partOf l C (Ty.putIn l r st h c s).slips⟩ := by
      have dd : (Ty.putIn l r st h2 c2 s2).day = st.day := putIn_day
      have b1 : (⟨st.day, partOf l C (Ty.putIn l r (Ty.putIn l r st h2 c2 s2) h c s).slips⟩ : Store) = putBy l r ⟨st.day, partOf l C (Ty.putIn l r st h2 c2 s2).slips⟩ h c s := by
        rw [put_by S2.kept.keys, put_part e1, ← dd]
      have b2 : partOf l C (Ty.putIn l r st h2 c2 s2).slips = partOf l C st.slips := by
        rw [put_by S.kept.keys]
        exact put_part_off e2
      rw [b1, b2, put_part e1, put_by S.kept.keys]
    rw [a1]
    exact (congrArg Store.slips a2).symm
  rcases hC with rfl | rfl
  · exact key k1 k2 rfl (Ne.symm ne)
  · exact (key k2 k1 rfl ne).symm
/-- both are kept already, nothing is renewed -/
theorem met_gone (ne : sameKey r s s2 = false) {ss : List Slip} : metIn r (gone r s ss) s2 = metIn r ss s2 := by
  unfold metIn gone
  rw [List.find?_filter]
  congr 1
  funext x
  cases e : sameKey r x s2 with
  | false => simp
  | true =>
    have z : sameKey r x s = false := by
      cases f : sameKey r x s with
      | false => rfl
      | true =>
        rw [same_trans f, ne] at e
        exact nomatch e
    simp [z]
theorem met_swapped (ne : sameKey r s s2 = false) : ∀ {ss : List Slip}, metIn r (swapped r s ss) s2 = metIn r ss s2
  | [] => rfl
  | x :: ss => by
    have ih := met_swapped ne (ss := ss)
    unfold metIn swapped at ih ⊢
    rw [List.map_cons]
    cases e : sameKey r x s with
    | true =>
      have z : sameKey r x s2 = false := by rw [same_trans e, ne]
      rw [if_pos rfl, List.find?_cons_of_neg (by simp [ne]), List.find?_cons_of_neg (by simp [z])]
      exact ih
    | false =>
      rw [if_neg (by decide : ¬ false = true)]
      cases f : sameKey r x s2 with
      | true => rw [List.find?_cons_of_pos (by simpa using f), List.find?_cons_of_pos (by simpa using f)]
      | false =>
        rw [List.find?_cons_of_neg (by simp [f]), List.find?_cons_of_neg (by simp [f])]
        exact ih
/-- what a put of a kept key does to the slips -/
def actOf (l : Ld) (r : Rl) (day : Int) (x : Slip) (h : Words) (c : Bool) (s : Slip) (ss : List Slip) : List Slip :=
  if !allowed l r h c s then ss else if r.guarded && (hasMark x "closed" && !c) then ss else if overOn s day then gone r s ss else swapped r s ss
theorem act_met {x : Slip} {d : Int} {ss : List Slip} (ne : sameKey r s s2 = false) : metIn r (actOf l r d x h c s ss) s2 = metIn r ss s2 := by
  unfold actOf
  split
  · rfl
  · split
    · rfl
    · split
      · exact met_gone ne
      · exact met_swapped ne
theorem put_act {x : Slip} {d : Int} {ss : List Slip} (nr : r.renewed = false) (m : metIn r ss s = some x) : putBy l r ⟨d, ss⟩ h c s = ⟨d, actOf l r d x h c s ss⟩ := by
  unfold putBy actOf
  simp only [m, nr, Bool.false_eq_true, if_false]
  split
  · rfl
  · split
    · rfl
    · split <;> rfl
theorem gone_gone {ss : List Slip} : gone r s (gone r s2 ss) = gone r s2 (gone r s ss) := by
  unfold gone
  rw [List.filter_filter, List.filter_filter]
  apply List.filter_congr
  intro x _
  exact Bool.and_comm _ _
theorem gone_swapped (ne : sameKey r s s2 = false) {ss : List Slip} : gone r s (swapped r s2 ss) = swapped r s2 (gone r s ss) := by
  unfold gone swapped
  rw [List.filter_map]
  congr 1
  apply List.filter_congr
  intro x _
  simp only [Function.comp]
  cases e : sameKey r x s2 with
  | true =>
    rw [if_pos rfl, same_symm, ne]
    have z : sameKey r x s = false := by rw [same_trans e, same_symm, ne]
    rw [z]
  | false => rfl
theorem swapped_swapped (ne : sameKey r s s2 = false) {ss : List Slip} : swapped r s (swapped r s2 ss) = swapped r s2 (swapped r s ss) := by
  unfold swapped
  rw [List.map_map]; rw [List.map_map]
  apply List.map_congr_left
  intro x _
  simp only [Function.comp]
  have ne2 : sameKey r s2 s = false := by rw [same_symm]; exact ne
  cases e : sameKey r x s2 with
  | true =>
    have z : sameKey r x s = false := by rw [same_trans e]; exact ne2
    simp [z, e, ne2]
  | false =>
    cases f : sameKey r x s with
    | true => simp [e, f, ne]
    | false => simp [e, f]
theorem act_id {x : Slip} {d : Int} : (∀ ss, actOf l r d x h c s ss = ss) ∨ (∀ ss, actOf l r d x h c s ss = gone r s ss) ∨ (∀ ss, actOf l r d x h c s ss = swapped r s ss) := by
  unfold actOf
  split
  · exact .inl fun _ => rfl
  · split
    · exact .inl fun _ => rfl
    · split
      · exact .inr (.inl fun _ => rfl)
      · exact .inr (.inr fun _ => rfl)
theorem act_comm {x x2 : Slip} {d : Int} {ss : List Slip} (ne : sameKey r s s2 = false) : actOf l r d x2 h2 c2 s2 (actOf l r d x h c s ss) = actOf l r d x h c s (actOf l r d x2 h2 c2 s2 ss) := by
  have ne2 : sameKey r s2 s = false := by rw [same_symm]; exact ne
  rcases act_id (l := l) (r := r) (h := h) (c := c) (s := s) (x := x) (d := d) with a | a | a <;> rcases act_id (l := l) (r := r) (h := h2) (c := c2) (s := s2) (x := x2) (d := d) with b | b | b <;> simp only [a, b]
  · exact gone_gone
  · exact (gone_swapped ne).symm
  · exact gone_swapped ne2
  · exact swapped_swapped ne2
theorem two_kept (S : StoreOk l r st) (low : 1 ≤ r.most) (k1 : SlipOk s) (k2 : SlipOk s2) (nr : r.renewed = false) (ne : sameKey r s s2 = false) (m1 : (foundAt r st.slips s).isSome = true) (m2 : (foundAt r st.slips s2).isSome = true) :
    Ty.putIn l r (Ty.putIn l r st h c s) h2 c2 s2 = Ty.putIn l r (Ty.putIn l r st h2 c2 s2) h c s := by
  have some1 : ∀ {s : Slip}, (foundAt r st.slips s).isSome = true → ∃ x, metIn r st.slips s = some x := by
    intro s q
    rw [found_is] at q
    cases f : st.slips.findIdx? (fun x => sameKey r x s) with
    | none => rw [f] at q; exact nomatch q
    | some n =>
      obtain ⟨_, _, x, _, e⟩ := at_first S.kept.keys f
      exact ⟨x, e⟩
  obtain ⟨x, e1⟩ := some1 m1
  obtain ⟨x2, e2⟩ := some1 m2
  have S1 := store_put (h := h) (c := c) S low k1
  have S2 := store_put (h := h2) (c := c2) S low k2
  rw [put_by S1.kept.keys, put_by S2.kept.keys, put_by S.kept.keys, put_by S.kept.keys]
  have ne2 : sameKey r s2 s = false := by rw [same_symm]; exact ne
  have p1 : putBy l r st h c s = ⟨st.day, actOf l r st.day x h c s st.slips⟩ := put_act nr e1
  have p2 : putBy l r st h2 c2 s2 = ⟨st.day, actOf l r st.day x2 h2 c2 s2 st.slips⟩ := put_act nr e2
  rw [p1, p2, put_act nr ((act_met ne).trans e2), put_act nr ((act_met ne2).trans e1), act_comm ne]
end
end Ty
set_option Elab.async false
set_option linter.all false
set_option maxRecDepth 100000
set_option maxHeartbeats 0
noncomputable section NC
namespace Lw
open PySem PySem.Spec PyProof.Rows L2 DL

def bd_Rules_1_wide_key_renewed_guarded_drop_first_names_G {α : Type} (us ds mz zs : List α) : List α := us ++ (ds.drop 1 ++ ((zs.drop 0).take 1 ++ ((zs.drop 1).take 1 ++ ((zs.drop 2).take 1 ++ ((zs.drop 3).take 1 ++ ((zs.drop 4).take 1 ++ ((zs.drop 5).take 1 ++ ([]))))))))
def bd_Rules_1_wide_key_renewed_guarded_drop_first_names_g (us zs : List W) : List W := bd_Rules_1_wide_key_renewed_guarded_drop_first_names_G us [.d (.int 3)] [] zs
def fn_is_whole_b : MS := (sRet (mAndV (mB dIsi (mCons (mVar 0) (mCons (mC (.ty "int")) mNil))) (mOfT (mNot (mT (mB dIsi (mCons (mVar 0) (mCons (mC (.ty "bool")) mNil))))))))
def fn_is_whole : Fn := fnOf 1 fn_is_whole_b
def fn_is_number_b : MS := (sRet (mAndV (mCall fn_is_whole 1 (mCons (mVar 0) mNil) []) (mChain dLe dLe (mVar 1) (mVar 0) (mVar 2))))
def fn_is_number : Fn := fnOf 3 fn_is_number_b
def fn_is_one_of_b : MS := (sRet (mAndV (mB dIsi (mCons (mVar 0) (mCons (mC (.ty "str")) mNil))) (mOp dIn (mVar 0) (mVar 1))))
def fn_is_one_of : Fn := fnOf 2 fn_is_one_of_b
def fn_is_row_b : MS := (sRet (mB dIsi (mCons (mVar 0) (mCons (mTup (mCons (mC (.ty "list")) (mCons (mC (.ty "tuple")) mNil))) mNil))))
def fn_is_row : Fn := fnOf 1 fn_is_row_b
def fn_is_word_b : MS := (sSeq (sIf (mOr (mNot (mT (mB dIsi (mCons (mVar 0) (mCons (mC (.ty "str")) mNil))))) (mNot (mT (mChain dLe dLe (mC (.int 1)) (mB dLen (mCons (mVar 0) mNil)) (mC c_MOST_LETTERS))))) (sRet (mC (.bl false))) sNext)
    (sRet (mB dAll (mCons (mLc (mIt (mVar 0)) [1] (gvName 1) tvYes (mOp dIn (mVar 1) (mC c_LETTERS))) mNil))))
def fn_is_word_s : Fn := fnOf 2 fn_is_word_b
def g_is_word : List D → Option D
  | [.str x] => if x.length ≤ CAP then some (.bl (Ty.okW x)) else none
  | [.non] => some (.bl false)
  | [.bl _] => some (.bl false)
  | [.int _] => some (.bl false)
  | [.tup _] => some (.bl false)
  | [.lst _] => some (.bl false)
  | [.dct _ _] => some (.bl false)
  | _ => none
def fn_is_word : Fn := pf g_is_word
theorem letter_in (c : Nat) : inStr ⟨#[c]⟩ "abcdefghijklmnopqrstuvwxyz" = (Nat.ble 97 c && Nat.ble c 122) := by
  show ([97, 98, 99, 100, 101, 102, 103, 104, 105, 106, 107, 108, 109, 110, 111, 112, 113, 114, 115, 116, 117, 118, 119, 120, 121, 122].any fun d => Nat.beq d c) = _
  rw [Bool.eq_iff_iff]
  simp only [List.any_cons, List.any_nil, Bool.or_false, Bool.or_eq_true, Nat.beq_eq, Bool.and_eq_true, Nat.ble_eq]
  omega
theorem bls_map {α : Type} (f : α → Bool) : ∀ xs : List α, blsOf (xs.map fun x => D.bl (f x)) = some (xs.map f)
  | [] => rfl
  | x :: xs => by simp [blsOf, bls_map f xs]
theorem le_fn_is_word : FnLe fn_is_word fn_is_word_s := by
  apply pf_le
  intro xs z cc e ok
  unfold g_is_word at e
  split at e
  · rename_i x
    split at e
    · rename_i cap
      cases e
      refine fnOf_rt (n := 2) (b := fn_is_word_b) ok ?_
      have len : x.length = x.cps.toList.length := Array.length_toList.symm
      have body : lcL (gvName 1) tvYes (mOp dIn (mVar 1) (mC c_LETTERS)) [some (.d (.str x)), none] (DL.signs x) cc = .ok (x.cps.toList.map fun c => .bl (Nat.ble 97 c && Nat.ble c 122)) cc := by
        unfold DL.signs
        have h := lcL_map (G := gvName 1) (t := tvYes) (m := mOp dIn (mVar 1) (mC c_LETTERS)) (env := [some (.d (.str x)), none]) (cc := cc) (fun d => match d with | .str y => .bl (inStr y "abcdefghijklmnopqrstuvwxyz") | _ => .non) (xs := x.cps.toList.map fun c => D.str ⟨#[c]⟩) (by
          intro d mem
          obtain ⟨c, _, rfl⟩ := List.mem_map.mp mem
          exact ⟨_, rfl, rfl, rfl⟩)
        rw [h, List.map_map]
        congr 1
        apply List.map_congr_left
        intro c _
        exact congrArg D.bl (letter_in c)
      have sh : x.cps.toList.length ≤ CAP := by rw [← len]; exact cap
      have e0 : env0 2 [.d (.str x)] = [some (.d (.str x)), none] := rfl
      have i0 : dIsi [.str x, .ty "str"] = some (.bl true) := rfl
      have i1 : dLen [.str x] = some (.int x.length) := if_pos cap
      show fn_is_word_b (env0 2 [.d (.str x)]) cc = _
      rw [e0]
      have okl : Ty.okW x = (Nat.ble 1 x.length && (Nat.ble x.length 8 && x.cps.toList.all fun c => Nat.ble 97 c && Nat.ble c 122)) := by
        rw [len]
        rfl
      by_cases h1 : (1 : Int) ≤ (x.length : Int)
      · by_cases h2 : (x.length : Int) ≤ 8
        · have n1 : Nat.ble 1 x.length = true := Nat.ble_eq.mpr (by omega)
          have n2 : Nat.ble x.length 8 = true := Nat.ble_eq.mpr (by omega)
          have cap' : (DL.signs x).length ≤ CAP := by
            unfold DL.signs
            rw [List.length_map]
            exact sh
          simp only [fn_is_word_b, sSeq, SR.seq, sIf, mOr, mIf, mNot, mT, mB, mCons, mNil, mVar, mC, mLc, mIt, itemsD, R.bind, R.thenS, seeAll, see, mChain, i0, i1, dLe, dInt2, c_MOST_LETTERS, List.getElem?_cons_zero, wipeE, List.set_cons_succ, List.set_cons_zero, body, sRet, sNext, Bool.not_true, Bool.false_eq_true, if_false, decide_true, decide_false, Bool.not_false, if_true, h1, h2, cap', dAll, bls_map, Option.map_some, okl, n1, n2, Bool.true_and, List.all_map, Function.comp_def]
        · have n2 : Nat.ble x.length 8 = false := by
            rw [Bool.eq_false_iff]
            intro z
            have := Nat.ble_eq.mp z
            omega
          simp only [fn_is_word_b, sSeq, SR.seq, sIf, mOr, mIf, mNot, mT, mB, mCons, mNil, mVar, mC, mLc, mIt, itemsD, R.bind, R.thenS, seeAll, see, mChain, i0, i1, dLe, dInt2, c_MOST_LETTERS, List.getElem?_cons_zero, wipeE, List.set_cons_succ, List.set_cons_zero, body, sRet, sNext, Bool.not_true, Bool.false_eq_true, if_false, decide_true, decide_false, Bool.not_false, if_true, h1, h2, okl, n2, Bool.false_and, Bool.and_false]
      · have n1 : Nat.ble 1 x.length = false := by
          rw [Bool.eq_false_iff]
          intro z
          have := Nat.ble_eq.mp z
          omega
        simp only [fn_is_word_b, sSeq, SR.seq, sIf, mOr, mIf, mNot, mT, mB, mCons, mNil, mVar, mC, mLc, mIt, itemsD, R.bind, R.thenS, seeAll, see, mChain, i0, i1, dLe, dInt2, c_MOST_LETTERS, List.getElem?_cons_zero, wipeE, List.set_cons_succ, List.set_cons_zero, body, sRet, sNext, Bool.not_true, Bool.false_eq_true, if_false, decide_true, decide_false, Bool.not_false, if_true, h1, okl, n1, Bool.false_and, Bool.and_false]
    · exact nomatch e
  all_goals first
    | (cases e; exact fnOf_rt (n := 2) (b := fn_is_word_b) ok rfl)
    | cases e
def fn_are_of_b : MS := (sSeq (sIf (mOr (mNot (mT (mB dIsi (mCons (mVar 0) (mCons (mC (.ty "tuple")) mNil))))) (mNot (mT (mB dAll (mCons (mLc (mIt (mVar 0)) [2] (gvName 2) tvYes (mB dIsi (mCons (mVar 2) (mCons (mC (.ty "str")) mNil)))) mNil))))) (sRet (mC (.bl false))) sNext)
    (sRet (mOp dEq (mVar 0) (mB dTuple (mCons (mLc (mIt (mVar 1)) [2] (gvName 2) (mT (mOp dIn (mVar 2) (mVar 0))) (mVar 2)) mNil)))))
def fn_are_of : Fn := fnOf 3 fn_are_of_b
def fn_is_name_rule_b : MS := (sSeq (sIf (mOr (mNot (mT (mB dIsi (mCons (mVar 0) (mCons (mC (.ty "tuple")) mNil))))) (mOr (mT (mOp dNe (mB dLen (mCons (mVar 0) mNil)) (mC (.int 2)))) (mNot (mT (mCall fn_is_word 1 (mCons (mIx (mVar 0) (mC (.int 0))) mNil) []))))) (sRet (mC (.bl false))) sNext)
    (sRet (mAndV (mCall fn_are_of 2 (mCons (mIx (mVar 0) (mC (.int 1))) (mCons (mC c_CONDITIONS) mNil)) []) (mOp dNe (mIx (mVar 0) (mC (.int 1))) (mTup mNil)))))
def fn_is_name_rule : Fn := fnOf 1 fn_is_name_rule_b
def fn_are_names_b : MS := (sRet (mAndV (mCall fn_is_row 1 (mCons (mVar 0) mNil) []) (mAndV (mOp dLe (mB dLen (mCons (mVar 0) mNil)) (mC c_MOST_NAMES)) (mB dAll (mCons (mLc (mIt (mVar 0)) [1] (gvName 1) tvYes (mCall fn_is_name_rule 1 (mCons (mVar 1) mNil) [])) mNil)))))
def fn_are_names : Fn := fnOf 2 fn_are_names_b
def fn_look_at_parts_b : MS := (sSeq (sIf (mNot (mT (mCall fn_is_number 3 (mCons (mIx (mVar 0) (mC (.str "most"))) (mCons (mC (.int 1)) (mCons (mC c_MOST_KEPT) mNil))) []))) sStuck sNext)
    (sSeq (sFor (mIt (mSl (mC c_PARTS) (oSome (mC (.int 1))) (oSome (mC (.int 4))))) (gvName 1) (sIf (mNot (mT (mB dIsi (mCons (mIx (mVar 0) (mVar 1)) (mCons (mC (.ty "bool")) mNil))))) sStuck sNext))
    (sSeq (sIf (mNot (mT (mCall fn_is_one_of 2 (mCons (mIx (mVar 0) (mC (.str "drop"))) (mCons (mC c_DROPS) mNil)) []))) sStuck sNext)
    (sSeq (sIf (mNot (mT (mCall fn_is_one_of 2 (mCons (mIx (mVar 0) (mC (.str "first"))) (mCons (mC c_FIRSTS) mNil)) []))) sStuck sNext)
    (sIf (mNot (mT (mCall fn_are_names 1 (mCons (mIx (mVar 0) (mC (.str "names"))) mNil) []))) sStuck sNext)))))
def fn_look_at_parts : Fn := fnOf 2 fn_look_at_parts_b
def fn_Rules_init_b : MS := (sSeq (sExpr (mCall fn_look_at_parts 1 (mCons (mB dDictZip (mCons (mC c_PARTS) (mCons (mTup (mCons (mVar 1) (mCons (mVar 2) (mCons (mVar 3) (mCons (mVar 4) (mCons (mVar 5) (mCons (mVar 6) (mCons (mVar 7) mNil)))))))) mNil))) mNil) []))
    (sSeq (sFldSet "Rules" "most" (mVar 1) (mVar 0))
    (sSeq (sFldSet "Rules" "wide_key" (mVar 2) (mVar 0))
    (sSeq (sFldSet "Rules" "renewed" (mVar 3) (mVar 0))
    (sSeq (sFldSet "Rules" "guarded" (mVar 4) (mVar 0))
    (sSeq (sFldSet "Rules" "drop" (mVar 5) (mVar 0))
    (sSeq (sFldSet "Rules" "first" (mVar 6) (mVar 0))
    (sSeq (sFldSet "Rules" "names" (mB dTuple (mCons (mVar 7) mNil)) (mVar 0))
    (sFldSet "Rules" "record" (mTup (mCons (mVar 1) (mCons (mVar 2) (mCons (mVar 3) (mCons (mVar 4) (mCons (mVar 5) (mCons (mVar 6) (mCons (mFld "Rules" "names" (mVar 0)) mNil)))))))) (mVar 0))))))))))
def fn_Rules_init : Fn := fnOf 8 fn_Rules_init_b
def fn_are_words_b : MS := (sRet (mAndV (mB dIsi (mCons (mVar 0) (mCons (mC (.ty "tuple")) mNil))) (mAndV (mChain dLe dLe (mVar 1) (mB dLen (mCons (mVar 0) mNil)) (mVar 2)) (mB dAll (mCons (mLc (mIt (mVar 0)) [3] (gvName 3) tvYes (mCall fn_is_word 1 (mCons (mVar 3) mNil) [])) mNil)))))
def fn_are_words : Fn := fnOf 4 fn_are_words_b
def fn_is_host_b : MS := (sRet (mCall fn_are_words 3 (mCons (mVar 0) (mCons (mC (.int 1)) (mCons (mC c_MOST_WORDS) mNil))) []))
def fn_is_host : Fn := fnOf 1 fn_is_host_b
def fn_are_hosts_b : MS := (sSeq (sIf (mOr (mNot (mT (mCall fn_is_row 1 (mCons (mVar 0) mNil) []))) (mOr (mNot (mT (mChain dLe dLe (mVar 1) (mB dLen (mCons (mVar 0) mNil)) (mVar 2)))) (mNot (mT (mB dAll (mCons (mLc (mIt (mVar 0)) [3] (gvName 3) tvYes (mCall fn_is_host 1 (mCons (mVar 3) mNil) [])) mNil)))))) (sRet (mC (.bl false))) sNext)
    (sRet (mOp dEq (mB dLen (mCons (mDcN (mIt (mVar 0)) [3] (gvName 3) tvYes (mVar 3)) mNil)) (mB dLen (mCons (mVar 0) mNil)))))
def fn_are_hosts : Fn := fnOf 4 fn_are_hosts_b
def fn_Land_init_b : MS := (sSeq (sIf (mNot (mT (mCall fn_are_hosts 3 (mCons (mVar 1) (mCons (mC (.int 1)) (mCons (mC c_MOST_HOUSES) mNil))) []))) sStuck sNext)
    (sSeq (sIf (mNot (mT (mCall fn_are_hosts 3 (mCons (mVar 2) (mCons (mC (.int 0)) (mCons (mC c_MOST_COMMON) mNil))) []))) sStuck sNext)
    (sSeq (sFldSet "Land" "own_houses" (mB dList (mCons (mVar 1) mNil)) (mVar 0))
    (sFldSet "Land" "own_common" (mB dList (mCons (mVar 2) mNil)) (mVar 0)))))
def fn_Land_init : Fn := fnOf 3 fn_Land_init_b
def fn_is_path_b : MS := (sRet (mCall fn_are_words 3 (mCons (mVar 0) (mCons (mC (.int 0)) (mCons (mC c_MOST_PATH) mNil))) []))
def fn_is_path : Fn := fnOf 1 fn_is_path_b
def fn_is_end_b : MS := (sRet (mOrV (mOp dIs (mVar 0) (mC .non)) (mCall fn_is_number 3 (mCons (mVar 0) (mCons (mC (.int 1)) (mCons (mC c_LAST_DAY) mNil))) [])))
def fn_is_end : Fn := fnOf 1 fn_is_end_b
def fn_is_slip_b : MS := (sSeq (sIf (mOr (mNot (mT (mB dIsi (mCons (mVar 0) (mCons (mC (.ty "tuple")) mNil))))) (mT (mOp dNe (mB dLen (mCons (mVar 0) mNil)) (mC (.int 7))))) (sRet (mC (.bl false))) sNext)
    (sSeq (sAsg (gvTup 7 (gvCons (gvName 1) (gvCons (gvName 2) (gvCons (gvName 3) (gvCons (gvName 4) (gvCons (gvName 5) (gvCons (gvName 6) (gvCons (gvName 7) gvNil)))))))) (mVar 0))
    (sSeq (sIf (mOr (mNot (mT (mCall fn_is_word 1 (mCons (mVar 1) mNil) []))) (mOr (mNot (mT (mCall fn_is_word 1 (mCons (mVar 2) mNil) []))) (mOr (mNot (mT (mCall fn_is_host 1 (mCons (mVar 3) mNil) []))) (mNot (mT (mB dIsi (mCons (mVar 4) (mCons (mC (.ty "bool")) mNil)))))))) (sRet (mC (.bl false))) sNext)
    (sRet (mAndV (mCall fn_is_path 1 (mCons (mVar 5) mNil) []) (mAndV (mCall fn_is_end 1 (mCons (mVar 6) mNil) []) (mCall fn_are_of 2 (mCons (mVar 7) (mCons (mC c_MARKS) mNil)) [])))))))
def fn_is_slip : Fn := fnOf 8 fn_is_slip_b
def fn_over_on_b : MS := (sRet (mAndV (mOp dIsNot (mIx (mVar 0) (mC (.int 5))) (mC .non)) (mOp dLe (mIx (mVar 0) (mC (.int 5))) (mVar 1))))
def fn_over_on : Fn := fnOf 2 fn_over_on_b
def fn_Rules_plain_key_b : MS := (sRet (mIf (mT (mFld "Rules" "wide_key" (mVar 0))) (mTup (mCons (mIx (mVar 1) (mC (.int 0))) (mCons (mIx (mVar 1) (mC (.int 2))) (mCons (mIx (mVar 1) (mC (.int 3))) (mCons (mIx (mVar 1) (mC (.int 4))) mNil))))) (mTup (mCons (mIx (mVar 1) (mC (.int 0))) (mCons (mIx (mVar 1) (mC (.int 2))) (mCons (mIx (mVar 1) (mC (.int 4))) mNil))))))
def fn_Rules_plain_key : Fn := fnOf 2 fn_Rules_plain_key_b
def fn_starts_of_b : MS := (sRet (mLc (mRng1 (mB dLen (mCons (mVar 0) mNil))) [1] (gvName 1) tvYes (mSl (mVar 0) oNone (oSome (mOp dAdd (mVar 1) (mC (.int 1)))))))
def fn_starts_of : Fn := fnOf 2 fn_starts_of_b
def fn_Land_round_of_b : MS := (sSeq (sSet 2 (mLc (mIt (mCall fn_starts_of 1 (mCons (mVar 1) mNil) [])) [3] (gvName 3) (mT (mOp dNotIn (mVar 3) (mFld "Land" "own_common" (mVar 0)))) (mVar 3)))
    (sRet (mIf (mT (mOp dGt (mB dLen (mCons (mVar 2) mNil)) (mC (.int 0)))) (mIx (mVar 2) (mC (.int 0))) (mVar 1))))
def fn_Land_round_of : Fn := fnOf 4 fn_Land_round_of_b
def fn_are_kept_b : MS := (sSeq (sSet 3 (mDcN (mIt (mVar 2)) [5] (gvName 5) tvYes (mMeth "Rules" "plain_key" fn_Rules_plain_key 2 (mVar 1) (mCons (mVar 5) mNil) [])))
    (sSeq (sIf (mT (mOp dLt (mB dLen (mCons (mVar 3) mNil)) (mB dLen (mCons (mVar 2) mNil)))) (sRet (mC (.bl false))) sNext)
    (sSeq (sSet 4 (mLc (mIt (mVar 2)) [5] (gvName 5) tvYes (mMeth "Land" "round_of" fn_Land_round_of 2 (mVar 0) (mCons (mIx (mVar 5) (mC (.int 2))) mNil) [])))
    (sRet (mB dAll (mCons (mLc (mIt (mVar 4)) [6] (gvName 6) tvYes (mOp dLe (mLk gCount (mVar 4) (mVar 6)) (mFld "Rules" "most" (mVar 1)))) mNil))))))
def fn_are_kept : Fn := fnOf 7 fn_are_kept_b
def fn_is_store_b : MS := (sSeq (sIf (mOr (mNot (mT (mB dIsi (mCons (mVar 2) (mCons (mC (.ty "tuple")) mNil))))) (mOr (mT (mOp dNe (mB dLen (mCons (mVar 2) mNil)) (mC (.int 2)))) (mNot (mT (mCall fn_is_number 3 (mCons (mIx (mVar 2) (mC (.int 0))) (mCons (mC (.int 0)) (mCons (mC c_LAST_DAY) mNil))) []))))) (sRet (mC (.bl false))) sNext)
    (sSeq (sAsg (gvTup 2 (gvCons (gvName 3) (gvCons (gvName 4) gvNil))) (mVar 2))
    (sSeq (sIf (mOr (mNot (mT (mB dIsi (mCons (mVar 4) (mCons (mC (.ty "tuple")) mNil))))) (mNot (mT (mB dAll (mCons (mLc (mIt (mVar 4)) [5] (gvName 5) tvYes (mAndV (mCall fn_is_slip 1 (mCons (mVar 5) mNil) []) (mOfT (mNot (mT (mCall fn_over_on 2 (mCons (mVar 5) (mCons (mVar 3) mNil)) [])))))) mNil))))) (sRet (mC (.bl false))) sNext)
    (sRet (mCall fn_are_kept 3 (mCons (mVar 0) (mCons (mVar 1) (mCons (mVar 4) mNil))) [])))))
def fn_is_store : Fn := fnOf 6 fn_is_store_b
def fn_look_at_store_b : MS := (sIf (mNot (mT (mCall fn_is_store 3 (mCons (mVar 0) (mCons (mVar 1) (mCons (mVar 2) mNil))) []))) sStuck sNext)
def fn_look_at_store : Fn := fnOf 3 fn_look_at_store_b
def fn_is_put_b : MS := (sSeq (sIf (mOr (mNot (mT (mB dIsi (mCons (mVar 0) (mCons (mC (.ty "tuple")) mNil))))) (mOr (mT (mOp dNe (mB dLen (mCons (mVar 0) mNil)) (mC (.int 4)))) (mT (mOp dNe (mIx (mVar 0) (mC (.int 0))) (mC (.str "put")))))) (sRet (mC (.bl false))) sNext)
    (sRet (mAndV (mCall fn_is_host 1 (mCons (mIx (mVar 0) (mC (.int 1))) mNil) []) (mAndV (mB dIsi (mCons (mIx (mVar 0) (mC (.int 2))) (mCons (mC (.ty "bool")) mNil))) (mCall fn_is_slip 1 (mCons (mIx (mVar 0) (mC (.int 3))) mNil) [])))))
def fn_is_put : Fn := fnOf 1 fn_is_put_b
def fn_is_deed_b : MS := (sSeq (sIf (mOr (mNot (mT (mB dIsi (mCons (mVar 0) (mCons (mC (.ty "tuple")) mNil))))) (mOr (mT (mOp dLt (mB dLen (mCons (mVar 0) mNil)) (mC (.int 2)))) (mNot (mT (mB dIsi (mCons (mIx (mVar 0) (mC (.int 0))) (mCons (mC (.ty "str")) mNil))))))) (sRet (mC (.bl false))) sNext)
    (sSeq (sIf (mT (mOp dEq (mIx (mVar 0) (mC (.int 0))) (mC (.str "wait")))) (sRet (mAndV (mOp dEq (mB dLen (mCons (mVar 0) mNil)) (mC (.int 2))) (mCall fn_is_number 3 (mCons (mIx (mVar 0) (mC (.int 1))) (mCons (mC (.int 1)) (mCons (mC c_LAST_DAY) mNil))) []))) sNext)
    (sRet (mCall fn_is_put 1 (mCons (mVar 0) mNil) []))))
def fn_is_deed : Fn := fnOf 1 fn_is_deed_b
def fn_look_at_deeds_b : MS := (sSeq (sIf (mNot (mT (mCall fn_is_row 1 (mCons (mVar 0) mNil) []))) sStuck sNext)
    (sFor (mIt (mVar 0)) (gvName 1) (sIf (mNot (mT (mCall fn_is_deed 1 (mCons (mVar 1) mNil) []))) sStuck sNext)))
def fn_look_at_deeds : Fn := fnOf 2 fn_look_at_deeds_b
def fn_begins_b : MS := (sRet (mOp dEq (mSl (mVar 1) oNone (oSome (mB dLen (mCons (mVar 0) mNil)))) (mVar 0)))
def fn_begins : Fn := fnOf 2 fn_begins_b
def fn_has_right_b : MS := (sSeq (sIf (mNot (mT (mIx (mVar 2) (mC (.int 3))))) (sRet (mOp dEq (mIx (mVar 2) (mC (.int 2))) (mVar 1))) sNext)
    (sRet (mAndV (mCall fn_begins 2 (mCons (mIx (mVar 2) (mC (.int 2))) (mCons (mVar 1) mNil)) []) (mOp dNotIn (mIx (mVar 2) (mC (.int 2))) (mFld "Land" "own_common" (mVar 0))))))
def fn_has_right : Fn := fnOf 3 fn_has_right_b
def fn_Rules_asked_of_b : MS := (sSeq (sSet 2 (mDp2 (mIt (mFld "Rules" "names" (mVar 0))) [3, 4, 5] (gvTup 2 (gvCons (gvName 3) (gvCons (gvName 4) gvNil))) (mT (mSm gStarts (mVar 1) (mVar 3))) (mIt (mVar 4)) [5] (gvName 5) tvYes (mVar 5) (mC (.bl true))))
    (sRet (mB dTuple (mCons (mB dSorted (mCons (mLcK 2 [5] (gvName 5) tvYes (mB dStr (mCons (mVar 5) mNil))) mNil)) mNil))))
def fn_Rules_asked_of : Fn := fnOf 6 fn_Rules_asked_of_b
def fn_meets_names_b : MS := (sSeq (sSet 2 (mMeth "Rules" "asked_of" fn_Rules_asked_of 2 (mVar 0) (mCons (mIx (mVar 1) (mC (.int 0))) mNil) []))
    (sSeq (sIf (mOr (mAnd (mT (mOp dIn (mC (.str "own")) (mVar 2))) (mT (mIx (mVar 1) (mC (.int 3))))) (mAnd (mT (mOp dIn (mC (.str "whole")) (mVar 2))) (mT (mOp dNe (mIx (mVar 1) (mC (.int 4))) (mTup mNil))))) (sRet (mC (.bl false))) sNext)
    (sRet (mOrV (mOp dNotIn (mC (.str "closed")) (mVar 2)) (mOp dIn (mC (.str "closed")) (mIx (mVar 1) (mC (.int 6))))))))
def fn_meets_names : Fn := fnOf 3 fn_meets_names_b
def fn_is_allowed_b : MS := (sSeq (sIf (mOr (mNot (mT (mCall fn_has_right 3 (mCons (mVar 0) (mCons (mVar 2) (mCons (mVar 4) mNil))) []))) (mAnd (mT (mOp dIn (mC (.str "closed")) (mIx (mVar 4) (mC (.int 6))))) (mNot (mT (mVar 3))))) (sRet (mC (.bl false))) sNext)
    (sRet (mCall fn_meets_names 2 (mCons (mVar 1) (mCons (mVar 4) mNil)) [])))
def fn_is_allowed : Fn := fnOf 5 fn_is_allowed_b
def fn_found_at_b : MS := (sSeq (sSet 3 (mMeth "Rules" "plain_key" fn_Rules_plain_key 2 (mVar 0) (mCons (mVar 2) mNil) []))
    (sSeq (sSet 4 (mLc (mEnum (mVar 1)) [5, 6] (gvTup 2 (gvCons (gvName 5) (gvCons (gvName 6) gvNil))) (mT (mOp dEq (mMeth "Rules" "plain_key" fn_Rules_plain_key 2 (mVar 0) (mCons (mVar 6) mNil) []) (mVar 3))) (mVar 5)))
    (sRet (mIf (mT (mOp dGt (mB dLen (mCons (mVar 4) mNil)) (mC (.int 0)))) (mIx (mVar 4) (mC (.int 0))) (mC .non)))))
def fn_found_at : Fn := fnOf 7 fn_found_at_b
def fn_exchanged_b : MS := (sSeq (sIf (mT (mFld "Rules" "renewed" (mVar 0))) (sRet (mOp dAdd (mOp dAdd (mSl (mVar 1) oNone (oSome (mVar 2))) (mSl (mVar 1) (oSome (mOp dAdd (mVar 2) (mC (.int 1)))) oNone)) (mTup (mCons (mVar 3) mNil)))) sNext)
    (sRet (mOp dAdd (mOp dAdd (mSl (mVar 1) oNone (oSome (mVar 2))) (mTup (mCons (mVar 3) mNil))) (mSl (mVar 1) (oSome (mOp dAdd (mVar 2) (mC (.int 1)))) oNone))))
def fn_exchanged : Fn := fnOf 4 fn_exchanged_b
def fn_drop_spot_b : MS := (sSeq (sSet 4 (mLc (mEnum (mVar 2)) [6, 7] (gvTup 2 (gvCons (gvName 6) (gvCons (gvName 7) gvNil))) (mT (mOp dEq (mMeth "Land" "round_of" fn_Land_round_of 2 (mVar 0) (mCons (mIx (mVar 7) (mC (.int 2))) mNil) []) (mVar 3))) (mVar 6)))
    (sSeq (sIf (mT (mOp dEq (mFld "Rules" "drop" (mVar 1)) (mC (.str "plain")))) (sSeq (sSet 5 (mLc (mIt (mVar 4)) [6] (gvName 6) (mT (mOp dNotIn (mC (.str "closed")) (mIx (mIx (mVar 2) (mVar 6)) (mC (.int 6))))) (mVar 6)))
    (sRet (mIx (mLst (mStar (mVar 5) (mStar (mVar 4) mNil))) (mC (.int 0))))) sNext)
    (sRet (mIx (mVar 4) (mC (.int 0))))))
def fn_drop_spot : Fn := fnOf 8 fn_drop_spot_b
def fn_with_new_b : MS := (sSeq (sAsgT 2 (gvCons (gvName 4) (gvCons (gvName 5) gvNil)) (mCons (mTup (mStar (mVar 2) (mCons (mVar 3) mNil))) (mCons (mMeth "Land" "round_of" fn_Land_round_of 2 (mVar 0) (mCons (mIx (mVar 3) (mC (.int 2))) mNil) []) mNil)))
    (sSeq (sIf (mT (mOp dLe (mB dLen (mCons (mLc (mIt (mVar 4)) [7] (gvName 7) (mT (mOp dEq (mMeth "Land" "round_of" fn_Land_round_of 2 (mVar 0) (mCons (mIx (mVar 7) (mC (.int 2))) mNil) []) (mVar 5))) (mVar 7)) mNil)) (mFld "Rules" "most" (mVar 1)))) (sRet (mVar 4)) sNext)
    (sSeq (sSet 6 (mCall fn_drop_spot 4 (mCons (mVar 0) (mCons (mVar 1) (mCons (mVar 4) (mCons (mVar 5) mNil)))) []))
    (sRet (mOp dAdd (mSl (mVar 4) oNone (oSome (mVar 6))) (mSl (mVar 4) (oSome (mOp dAdd (mVar 6) (mC (.int 1)))) oNone))))))
def fn_with_new : Fn := fnOf 8 fn_with_new_b
def fn_put_in_b : MS := (sSeq (sAsg (gvTup 2 (gvCons (gvName 4) (gvCons (gvName 5) gvNil))) (mVar 2))
    (sSeq (sAsg (gvTup 4 (gvCons (gvName 6) (gvCons (gvName 7) (gvCons (gvName 8) (gvCons (gvName 9) gvNil))))) (mVar 3))
    (sSeq (sIf (mNot (mT (mCall fn_is_allowed 5 (mCons (mVar 0) (mCons (mVar 1) (mCons (mVar 7) (mCons (mVar 8) (mCons (mVar 9) mNil))))) []))) (sRet (mVar 2)) sNext)
    (sSeq (sSet 10 (mCall fn_found_at 3 (mCons (mVar 1) (mCons (mVar 5) (mCons (mVar 9) mNil))) []))
    (sSeq (sIf (mAnd (mT (mOp dIsNot (mVar 10) (mC .non))) (mAnd (mT (mFld "Rules" "guarded" (mVar 1))) (mAnd (mT (mOp dIn (mC (.str "closed")) (mIx (mIx (mVar 5) (mVar 10)) (mC (.int 6))))) (mNot (mT (mVar 8)))))) (sRet (mVar 2)) sNext)
    (sSeq (sIf (mT (mCall fn_over_on 2 (mCons (mVar 9) (mCons (mVar 4) mNil)) [])) (sRet (mIf (mT (mOp dIs (mVar 10) (mC .non))) (mVar 2) (mTup (mCons (mVar 4) (mCons (mOp dAdd (mSl (mVar 5) oNone (oSome (mVar 10))) (mSl (mVar 5) (oSome (mOp dAdd (mVar 10) (mC (.int 1)))) oNone)) mNil))))) sNext)
    (sSeq (sIf (mT (mOp dIsNot (mVar 10) (mC .non))) (sRet (mTup (mCons (mVar 4) (mCons (mCall fn_exchanged 4 (mCons (mVar 1) (mCons (mVar 5) (mCons (mVar 10) (mCons (mVar 9) mNil)))) []) mNil)))) sNext)
    (sRet (mTup (mCons (mVar 4) (mCons (mCall fn_with_new 4 (mCons (mVar 0) (mCons (mVar 1) (mCons (mVar 5) (mCons (mVar 9) mNil)))) []) mNil)))))))))))
def fn_put_in : Fn := fnOf 11 fn_put_in_b
def fn_behind_b : MS := (sSeq (sIf (mT (mOp dEq (mIx (mVar 3) (mC (.int 0))) (mC (.str "put")))) (sRet (mCall fn_put_in 4 (mCons (mVar 0) (mCons (mVar 1) (mCons (mVar 2) (mCons (mVar 3) mNil)))) [])) sNext)
    (sSeq (sSet 4 (mB dMin (mCons (mC c_LAST_DAY) (mCons (mOp dAdd (mIx (mVar 2) (mC (.int 0))) (mIx (mVar 3) (mC (.int 1)))) mNil))))
    (sRet (mTup (mCons (mVar 4) (mCons (mB dTuple (mCons (mLc (mIt (mIx (mVar 2) (mC (.int 1)))) [5] (gvName 5) (mNot (mT (mCall fn_over_on 2 (mCons (mVar 5) (mCons (mVar 4) mNil)) []))) (mVar 5)) mNil)) mNil))))))
def fn_behind : Fn := fnOf 6 fn_behind_b
def fn_after_all_b : MS := (sSeq (sExpr (mCall fn_look_at_store 3 (mCons (mVar 0) (mCons (mVar 1) (mCons (mVar 2) mNil))) []))
    (sSeq (sExpr (mCall fn_look_at_deeds 1 (mCons (mVar 3) mNil) []))
    (sSeq (sFor (mIt (mVar 3)) (gvName 4) (sSet 2 (mCall fn_behind 4 (mCons (mVar 0) (mCons (mVar 1) (mCons (mVar 2) (mCons (mVar 4) mNil)))) [])))
    (sRet (mVar 2)))))
def fn_after_all : Fn := fnOf 5 fn_after_all_b
def fn_may_put_b : MS := (sSeq (sIf (mNot (mT (mCall fn_is_put 1 (mCons (mTup (mCons (mC (.str "put")) (mCons (mVar 2) (mCons (mVar 3) (mCons (mVar 4) mNil))))) mNil) []))) sStuck sNext)
    (sRet (mCall fn_is_allowed 5 (mCons (mVar 0) (mCons (mVar 1) (mCons (mVar 2) (mCons (mVar 3) (mCons (mVar 4) mNil))))) [])))
def fn_may_put : Fn := fnOf 5 fn_may_put_b
def fn_met_b : MS := (sSeq (sExpr (mCall fn_look_at_store 3 (mCons (mVar 0) (mCons (mVar 1) (mCons (mVar 2) mNil))) []))
    (sSeq (sIf (mNot (mT (mCall fn_is_slip 1 (mCons (mVar 3) mNil) []))) sStuck sNext)
    (sSeq (sSet 4 (mCall fn_found_at 3 (mCons (mVar 1) (mCons (mIx (mVar 2) (mC (.int 1))) (mCons (mVar 3) mNil))) []))
    (sRet (mIf (mT (mOp dIs (mVar 4) (mC .non))) (mC .non) (mIx (mIx (mVar 2) (mC (.int 1))) (mVar 4)))))))
def fn_met : Fn := fnOf 5 fn_met_b
end Lw

end NC
set_option Elab.async false
set_option linter.all false
set_option maxRecDepth 100000
set_option maxHeartbeats 3900000
/-! S1: what the program's small functions tell of right things. -/
namespace Lw
open PySem PySem.Spec PyProof.Rows L2 DL Ty
section
variable {env env' : DL.Env} {cc c c2 : Cs} {a b : MS} {m : ME} {t : DL.Env → M Bool} {w : W} {i : Nat}
theorem seq_rt (h : a env cc = .rt w c) : sSeq a b env cc = .rt w c := by
  unfold sSeq
  rw [h]
  rfl
theorem ret_ok (h : m env cc = .ok w c) : sRet m env cc = .rt w c := by
  unfold sRet
  rw [h]
  rfl
theorem if_yes (h : t env cc = .ok true c) : sIf t a b env cc = a env c := by
  unfold sIf
  rw [h]
  rfl
theorem if_no (h : t env cc = .ok false c) : sIf t a b env cc = b env c := by
  unfold sIf
  rw [h]
  rfl
theorem seq_if_no (h : t env cc = .ok false cc) : sSeq (sIf t a sNext) b env cc = b env cc := by
  unfold sSeq
  rw [if_no h]
  rfl
theorem seq_to (h : a env cc = .nx env' c) : sSeq a b env cc = b env' c := by
  unfold sSeq
  rw [h]
  rfl
theorem put_ok (h : m env cc = .ok w c) : sSet i m env cc = .nx (env.set i (some w)) c := by
  unfold sSet
  rw [h]
  rfl
theorem exp_ok (h : m env cc = .ok w c) : sExpr m env cc = .nx env c := by
  unfold sExpr
  rw [h]
  rfl
end
/-- all(..) of a comprehension over data -/
theorem all_lc {mi : DL.Env → M (List D)} {vs : List Nat} {G : Tg} {m : ME} {env : DL.Env} {cc : Cs} {xs : List D} (p : D → Bool) (hi : mi env cc = .ok xs cc) (cap : xs.length ≤ CAP)
    (h : ∀ x ∈ xs, ∃ env', G (.d x) (wipeE env vs) cc = some env' ∧ m env' cc = .ok (.d (.bl (p x))) cc) : mB dAll (mCons (mLc mi vs G tvYes m) mNil) env cc = .ok (.d (.bl (xs.all p))) cc := by
  have run := lcL_map (t := tvYes) (fun x => D.bl (p x)) (fun x mem => by
    obtain ⟨env', a, b⟩ := h x mem
    exact ⟨env', a, rfl, b⟩)
  have bls : ∀ l : List D, blsOf (l.map fun x => D.bl (p x)) = some (l.map p) := by
    intro l
    induction l with
    | nil => rfl
    | cons x xs ih => simp [blsOf, ih]
  simp only [mB, mCons, mNil, mLc, hi, R.bind, run, cap, if_true, seeAll, see, dAll, bls, Option.map_some, List.all_map, Function.comp_def]
/-- [f(x) for x in xs if p(x)] -/
theorem lc_ok {mi : DL.Env → M (List D)} {vs : List Nat} {G : Tg} {t : DL.Env → M Bool} {m : ME} {env : DL.Env} {cc : Cs} {xs : List D} (p : D → Bool) (f : D → D) (hi : mi env cc = .ok xs cc) (cap : xs.length ≤ CAP)
    (h : ∀ x ∈ xs, ∃ env', G (.d x) (wipeE env vs) cc = some env' ∧ t env' cc = .ok (p x) cc ∧ (p x = true → m env' cc = .ok (.d (f x)) cc)) : mLc mi vs G t m env cc = .ok (.d (.lst ((xs.filter p).map f))) cc := by
  have run := lcL_filter p f h
  simp only [mLc, hi, R.bind, run, cap, if_true]
theorem few_cap {n : Nat} (h : n ≤ 1000) : n ≤ CAP := Nat.le_trans h (by decide +kernel)
theorem word_cap {x : PySem.Str} (h : okW x = true) : x.length ≤ CAP := by
  simp only [okW, Bool.and_eq_true, Nat.ble_eq] at h
  have e : x.length = x.cps.toList.length := Array.length_toList.symm
  exact few_cap (by omega)
theorem s_is_word {x : PySem.Str} (h : okW x = true) (cc : Cs) : fn_is_word [.d (.str x)] cc = .ok (.d (.bl true)) cc := by
  simp only [fn_is_word, pf, allD, g_is_word, word_cap h, if_true, h]
section
variable {cc : Cs} (ok : okBelow cc.length cc = true)
include ok
theorem s_are_words {lo hi : Nat} {xs : Words} (h : okWs lo hi xs = true) (few : hi ≤ 1000) : fn_are_words [.d (dW xs), .d (.int lo), .d (.int hi)] cc = .ok (.d (.bl true)) cc := by
  refine fnOf_rt (n := 4) (b := fn_are_words_b) ok (ret_ok ?_)
  simp only [okWs, Bool.and_eq_true, Nat.ble_eq] at h
  have e0 : env0 4 [.d (dW xs), .d (.int lo), .d (.int hi)] = [some (.d (dW xs)), some (.d (.int lo)), some (.d (.int hi)), none] := rfl
  have i1 : dIsi [dW xs, .ty "tuple"] = some (.bl true) := rfl
  have i2 : dLen [dW xs] = some (.int xs.length) := by simp only [dW, dLen, List.length_map]
  have t1 : dLe (.int lo) (.int xs.length) = some (.bl true) := congrArg some (congrArg D.bl (decide_eq_true (by omega)))
  have t2 : dLe (.int xs.length) (.int hi) = some (.bl true) := congrArg some (congrArg D.bl (decide_eq_true (by omega)))
  rw [e0]
  have all := all_lc (mi := mIt (mVar 0)) (vs := [3]) (G := gvName 3) (m := mCall fn_is_word 1 (mCons (mVar 3) mNil) []) (env := [some (.d (dW xs)), some (.d (.int lo)), some (.d (.int hi)), none]) (cc := cc) (xs := xs.map .str) (fun _ => true) rfl (by rw [List.length_map]; exact few_cap (by omega)) (by
    intro x mem
    obtain ⟨y, my, rfl⟩ := List.mem_map.mp mem
    refine ⟨_, rfl, ?_⟩
    have one : ([.d (.str y)] : List W).length = 1 := rfl
    simp only [mOr, mAnd, mIf, mNot, mT, mOfT, mAndV, mOrV, mB, mCons, mNil, mVar, mC, mTup, mLst, mStar, mCall, mMeth, mFld, mOp, mChain, mIx, mSl, oSome, oNone, mIt, itemsD, mEnum, mSm, mLk, starOf, objOf, fld, R.bind, R.thenS, seeAll, see, allD, wIx, dIx, List.getElem?_cons_zero, List.getElem?_cons_succ, List.set_cons_zero, List.set_cons_succ, Option.map_some, if_true, if_false, Bool.false_eq_true, Bool.not_true, Bool.not_false, decide_true, decide_false, List.append_nil, List.map_cons, List.map_nil, wipeE, one, s_is_word (List.all_eq_true.mp h.2.2 y my)])
  have tt : ((xs.map D.str).all fun _ => true) = true := by simp
  rw [tt] at all
  simp only [mAndV, mIf, mT, mB, mCons, mNil, mVar, mC, R.bind, seeAll, see, i1, i2, mChain, List.getElem?_cons_zero, List.getElem?_cons_succ, t1, t2, if_true] at all ⊢
  exact all
theorem s_is_host {h : Words} (k : okHost h = true) : fn_is_host [.d (dW h)] cc = .ok (.d (.bl true)) cc := by
  refine fnOf_rt (n := 1) (b := fn_is_host_b) ok (ret_ok ?_)
  have e0 : env0 1 [.d (dW h)] = [some (.d (dW h))] := rfl
  have run := s_are_words ok (lo := 1) (hi := 4) (xs := h) k (by decide)
  have three : ∀ a b c : W, ([a, b, c] : List W).length = 3 := fun _ _ _ => rfl
  rw [e0]
  have run' : fn_are_words [.d (dW h), .d (.int 1), .d c_MOST_WORDS] cc = .ok (.d (.bl true)) cc := run
  simp only [mOr, mAnd, mIf, mNot, mT, mOfT, mAndV, mOrV, mB, mCons, mNil, mVar, mC, mTup, mLst, mStar, mCall, mMeth, mFld, mOp, mChain, mIx, mSl, oSome, oNone, mIt, itemsD, mEnum, mSm, mLk, starOf, objOf, fld, R.bind, R.thenS, seeAll, see, allD, wIx, dIx, List.getElem?_cons_zero, List.getElem?_cons_succ, List.set_cons_zero, List.set_cons_succ, Option.map_some, if_true, if_false, Bool.false_eq_true, Bool.not_true, Bool.not_false, decide_true, decide_false, List.append_nil, List.map_cons, List.map_nil, three, run']
theorem s_is_path {h : Words} (k : okPath h = true) : fn_is_path [.d (dW h)] cc = .ok (.d (.bl true)) cc := by
  refine fnOf_rt (n := 1) (b := fn_is_path_b) ok (ret_ok ?_)
  have e0 : env0 1 [.d (dW h)] = [some (.d (dW h))] := rfl
  have run := s_are_words ok (lo := 0) (hi := 3) (xs := h) k (by decide)
  have three : ∀ a b c : W, ([a, b, c] : List W).length = 3 := fun _ _ _ => rfl
  rw [e0]
  have run' : fn_are_words [.d (dW h), .d (.int 0), .d c_MOST_PATH] cc = .ok (.d (.bl true)) cc := run
  simp only [mOr, mAnd, mIf, mNot, mT, mOfT, mAndV, mOrV, mB, mCons, mNil, mVar, mC, mTup, mLst, mStar, mCall, mMeth, mFld, mOp, mChain, mIx, mSl, oSome, oNone, mIt, itemsD, mEnum, mSm, mLk, starOf, objOf, fld, R.bind, R.thenS, seeAll, see, allD, wIx, dIx, List.getElem?_cons_zero, List.getElem?_cons_succ, List.set_cons_zero, List.set_cons_succ, Option.map_some, if_true, if_false, Bool.false_eq_true, Bool.not_true, Bool.not_false, decide_true, decide_false, List.append_nil, List.map_cons, List.map_nil, three, run']
theorem s_is_whole (i : Int) : fn_is_whole [.d (.int i)] cc = .ok (.d (.bl true)) cc := fnOf_rt (n := 1) (b := fn_is_whole_b) ok rfl
theorem s_is_number {i lo hi : Int} (h1 : lo ≤ i) (h2 : i ≤ hi) : fn_is_number [.d (.int i), .d (.int lo), .d (.int hi)] cc = .ok (.d (.bl true)) cc := by
  refine fnOf_rt (n := 3) (b := fn_is_number_b) ok (ret_ok ?_)
  have e0 : env0 3 [.d (.int i), .d (.int lo), .d (.int hi)] = [some (.d (.int i)), some (.d (.int lo)), some (.d (.int hi))] := rfl
  have t1 : dLe (.int lo) (.int i) = some (.bl true) := congrArg some (congrArg D.bl (decide_eq_true h1))
  have t2 : dLe (.int i) (.int hi) = some (.bl true) := congrArg some (congrArg D.bl (decide_eq_true h2))
  have one : ∀ a : W, ([a] : List W).length = 1 := fun _ => rfl
  rw [e0]
  simp only [mOr, mAnd, mIf, mNot, mT, mOfT, mAndV, mOrV, mB, mCons, mNil, mVar, mC, mTup, mLst, mStar, mCall, mMeth, mFld, mOp, mChain, mIx, mSl, oSome, oNone, mIt, itemsD, mEnum, mSm, mLk, starOf, objOf, fld, R.bind, R.thenS, seeAll, see, allD, wIx, dIx, List.getElem?_cons_zero, List.getElem?_cons_succ, List.set_cons_zero, List.set_cons_succ, Option.map_some, if_true, if_false, Bool.false_eq_true, Bool.not_true, Bool.not_false, decide_true, decide_false, List.append_nil, List.map_cons, List.map_nil, one, s_is_whole ok, t1, t2]
theorem s_is_end {e : Option Int} (h : okEnd e = true) : fn_is_end [.d (dEnd e)] cc = .ok (.d (.bl true)) cc := by
  refine fnOf_rt (n := 1) (b := fn_is_end_b) ok (ret_ok ?_)
  cases e with
  | none => rfl
  | some i =>
    simp only [okEnd, Bool.and_eq_true, decide_eq_true_eq] at h
    have e0 : env0 1 [.d (dEnd (some i))] = [some (.d (.int i))] := rfl
    have i1 : dIs (.int i) .non = some (.bl false) := rfl
    have three : ∀ a b c : W, ([a, b, c] : List W).length = 3 := fun _ _ _ => rfl
    have run : fn_is_number [.d (.int i), .d (.int 1), .d c_LAST_DAY] cc = .ok (.d (.bl true)) cc := s_is_number ok h.1 h.2
    rw [e0]
    simp only [mOr, mAnd, mIf, mNot, mT, mOfT, mAndV, mOrV, mB, mCons, mNil, mVar, mC, mTup, mLst, mStar, mCall, mMeth, mFld, mOp, mChain, mIx, mSl, oSome, oNone, mIt, itemsD, mEnum, mSm, mLk, starOf, objOf, fld, R.bind, R.thenS, seeAll, see, allD, wIx, dIx, List.getElem?_cons_zero, List.getElem?_cons_succ, List.set_cons_zero, List.set_cons_succ, Option.map_some, if_true, if_false, Bool.false_eq_true, Bool.not_true, Bool.not_false, decide_true, decide_false, List.append_nil, List.map_cons, List.map_nil, i1, three, run]
theorem s_are_of {ws xs : Words} (hw : ws.all okW = true) (few : ws.length ≤ 1000) (h : okOf ws xs = true) : fn_are_of [.d (dW xs), .d (dW ws)] cc = .ok (.d (.bl true)) cc := by
  have hx := of_all hw h
  have few2 : xs.length ≤ 1000 := by
    rw [eqH_iff.mp h]
    exact Nat.le_trans (List.length_filter_le _ _) few
  refine fnOf_rt (n := 3) (b := fn_are_of_b) ok ?_
  have e0 : env0 3 [.d (dW xs), .d (dW ws)] = [some (.d (dW xs)), some (.d (dW ws)), none] := rfl
  rw [e0]
  unfold fn_are_of_b
  have i1 : dIsi [dW xs, .ty "tuple"] = some (.bl true) := rfl
  have all := all_lc (mi := mIt (mVar 0)) (vs := [2]) (G := gvName 2) (m := mB dIsi (mCons (mVar 2) (mCons (mC (.ty "str")) mNil))) (env := [some (.d (dW xs)), some (.d (dW ws)), none]) (cc := cc) (xs := xs.map .str) (fun _ => true) rfl (by rw [List.length_map]; exact few_cap few2) (by
    intro x mem
    obtain ⟨y, my, rfl⟩ := List.mem_map.mp mem
    exact ⟨_, rfl, rfl⟩)
  have tt : ((xs.map D.str).all fun _ => true) = true := by simp
  rw [tt] at all
  refine (seq_if_no ?_).trans (ret_ok ?_)
  · have all' : mT (mB dAll (mCons (mLc (mIt (mVar 0)) [2] (gvName 2) tvYes (mB dIsi (mCons (mVar 2) (mCons (mC (.ty "str")) mNil)))) mNil)) [some (.d (dW xs)), some (.d (dW ws)), none] cc = .ok true cc := by
      unfold mT
      rw [all]
      rfl
    have one : mT (mB dIsi (mCons (mVar 0) (mCons (mC (.ty "tuple")) mNil))) [some (.d (dW xs)), some (.d (dW ws)), none] cc = .ok true cc := rfl
    simp only [mOr, mIf, mNot, one, all', R.bind, Bool.not_true, Bool.false_eq_true, if_false]
  · have lc := lc_ok (mi := mIt (mVar 1)) (vs := [2]) (G := gvName 2) (t := mT (mOp dIn (mVar 2) (mVar 0))) (m := mVar 2) (env := [some (.d (dW xs)), some (.d (dW ws)), none]) (cc := cc) (xs := ws.map .str) (fun d => match d with | .str y => xs.any fun x => eqS x y | _ => false) id rfl (by rw [List.length_map]; exact few_cap few) (by
      intro x mem
      obtain ⟨y, my, rfl⟩ := List.mem_map.mp mem
      refine ⟨_, rfl, ?_, fun _ => rfl⟩
      have c1 : cmpD (.str y) = true := okW_ck (List.all_eq_true.mp hw y my) 64
      have c2 : cmpD (dW xs) = true := ck_W hx 63
      have i2 : dIn (.str y) (dW xs) = some (.bl (xs.any fun x => eqS x y)) := by
        show (if cmpD (.str y) = true ∧ cmpD (.tup (xs.map .str)) = true then some ((xs.map D.str).any fun z => eqD z (.str y)) else none).map D.bl = _
        rw [if_pos ⟨c1, c2⟩, List.any_map]
        rfl
      simp only [mOr, mAnd, mIf, mNot, mT, mOfT, mAndV, mOrV, mB, mCons, mNil, mVar, mC, mTup, mLst, mStar, mCall, mMeth, mFld, mOp, mChain, mIx, mSl, oSome, oNone, mIt, itemsD, mEnum, mSm, mLk, starOf, objOf, fld, R.bind, R.thenS, seeAll, see, allD, wIx, dIx, List.getElem?_cons_zero, List.getElem?_cons_succ, List.set_cons_zero, List.set_cons_succ, Option.map_some, if_true, if_false, Bool.false_eq_true, Bool.not_true, Bool.not_false, decide_true, decide_false, List.append_nil, List.map_cons, List.map_nil, wipeE, i2])
    have e1 : ((ws.map D.str).filter fun d => match d with | .str y => xs.any fun x => eqS x y | _ => false) = (ws.filter fun y => xs.any fun x => eqS x y).map .str := by
      rw [List.filter_map]
      rfl
    rw [e1, List.map_id, ← eqH_iff.mp h] at lc
    have c2 : cmpD (dW xs) = true := ck_W hx 63
    have q : dEq (dW xs) (.tup (xs.map .str)) = some (.bl true) := by
      show (if cmpD (dW xs) = true ∧ cmpD (dW xs) = true then some (eqD (dW xs) (dW xs)) else none).map D.bl = _
      rw [if_pos ⟨c2, c2⟩, eqD_W, eqH_self]
      rfl
    have i3 : dTuple [.lst (xs.map .str)] = some (.tup (xs.map .str)) := rfl
    simp only [mOp, mB, mCons, mNil, lc, R.bind, seeAll, see, i3, mVar, List.getElem?_cons_zero, q]
theorem s_is_slip {s : Slip} (h : okSlip s = true) : fn_is_slip [.d (dSlip s)] cc = .ok (.d (.bl true)) cc := by
  have k := slipOk h
  refine fnOf_rt (n := 8) (b := fn_is_slip_b) ok ?_
  have e0 : env0 8 [.d (dSlip s)] = [some (.d (dSlip s)), none, none, none, none, none, none, none] := rfl
  rw [e0]
  unfold fn_is_slip_b
  have e1 : [some (W.d (dSlip s)), some (.d (.str s.name)), some (.d (.str s.worth)), some (.d (dW s.host)), some (.d (.bl s.wide)), some (.d (dW s.path)), some (.d (dEnd s.fin)), some (.d (dW s.marks))] = [some (W.d (dSlip s)), some (.d (.str s.name)), some (.d (.str s.worth)), some (.d (dW s.host)), some (.d (.bl s.wide)), some (.d (dW s.path)), some (.d (dEnd s.fin)), some (.d (dW s.marks))] := rfl
  refine (seq_if_no rfl).trans ((seq_to (c := cc) (env' := [some (.d (dSlip s)), some (.d (.str s.name)), some (.d (.str s.worth)), some (.d (dW s.host)), some (.d (.bl s.wide)), some (.d (dW s.path)), some (.d (dEnd s.fin)), some (.d (dW s.marks))]) rfl).trans ?_)
  have one : ∀ a : W, ([a] : List W).length = 1 := fun _ => rfl
  have two : ∀ a b : W, ([a, b] : List W).length = 2 := fun _ _ => rfl
  have i1 : dIsi [.bl s.wide, .ty "bool"] = some (.bl true) := rfl
  have m1 : fn_are_of [.d (dW s.marks), .d c_MARKS] cc = .ok (.d (.bl true)) cc := s_are_of ok (ws := marksW) marks_words (by decide) k.marks
  refine (seq_if_no ?_).trans (ret_ok ?_)
  · simp only [mOr, mAnd, mIf, mNot, mT, mOfT, mAndV, mOrV, mB, mCons, mNil, mVar, mC, mTup, mLst, mStar, mCall, mMeth, mFld, mOp, mChain, mIx, mSl, oSome, oNone, mIt, itemsD, mEnum, mSm, mLk, starOf, objOf, fld, R.bind, R.thenS, seeAll, see, allD, wIx, dIx, List.getElem?_cons_zero, List.getElem?_cons_succ, List.set_cons_zero, List.set_cons_succ, Option.map_some, if_true, if_false, Bool.false_eq_true, Bool.not_true, Bool.not_false, decide_true, decide_false, List.append_nil, List.map_cons, List.map_nil, one, s_is_word k.name, s_is_word k.worth, s_is_host ok k.host, i1]
  · simp only [mOr, mAnd, mIf, mNot, mT, mOfT, mAndV, mOrV, mB, mCons, mNil, mVar, mC, mTup, mLst, mStar, mCall, mMeth, mFld, mOp, mChain, mIx, mSl, oSome, oNone, mIt, itemsD, mEnum, mSm, mLk, starOf, objOf, fld, R.bind, R.thenS, seeAll, see, allD, wIx, dIx, List.getElem?_cons_zero, List.getElem?_cons_succ, List.set_cons_zero, List.set_cons_succ, Option.map_some, if_true, if_false, Bool.false_eq_true, Bool.not_true, Bool.not_false, decide_true, decide_false, List.append_nil, List.map_cons, List.map_nil, one, two, s_is_path ok k.path, s_is_end ok k.fin, m1]
end
end Lw
set_option Elab.async false
set_option linter.all false
set_option maxRecDepth 100000
set_option maxHeartbeats 3900000
/-! SR: how a form runs on data, the cells left alone. -/
namespace Lw
open PySem PySem.Spec PyProof.Rows L2 DL Ty
section
variable {env : DL.Env} {cc : Cs} {m n : ME} {t u : DL.Env → M Bool} {x y z : D} {w w2 : W} {ws us : List W} {r : DL.Env → M (List W)} {a b : Bool}
/-- the expression tells this value, nothing changes -/
abbrev Tells (env : DL.Env) (cc : Cs) (m : ME) (x : D) : Prop := m env cc = .ok (.d x) cc
abbrev Holds (env : DL.Env) (cc : Cs) (t : DL.Env → M Bool) (a : Bool) : Prop := t env cc = .ok a cc
theorem op_ok {g : D → D → Option D} (h : Tells env cc m x) (k : Tells env cc n y) (q : g x y = some z) : Tells env cc (mOp g m n) z := by
  unfold Tells mOp
  rw [h]
  simp only [R.bind]
  rw [k]
  simp only [see, q]
theorem args0 : mNil env cc = .ok [] cc := rfl
theorem args {w : W} (h : m env cc = .ok w cc) (k : r env cc = .ok ws cc) : mCons m r env cc = .ok (w :: ws) cc := by
  unfold mCons
  rw [h]
  simp only [R.bind]
  rw [k]
theorem bi_ok {g : List D → Option D} {xs : List D} (h : r env cc = .ok ws cc) (s : seeAll cc ws = some xs) (q : g xs = some z) : Tells env cc (mB g r) z := by
  unfold Tells mB
  rw [h]
  simp only [R.bind, s, q]
theorem b1_ok {g : List D → Option D} (h : Tells env cc m x) (q : g [x] = some z) : Tells env cc (mB g (mCons m mNil)) z := bi_ok (args h args0) rfl q
theorem b2_ok {g : List D → Option D} (h : Tells env cc m x) (k : Tells env cc n y) (q : g [x, y] = some z) : Tells env cc (mB g (mCons m (mCons n mNil))) z := bi_ok (args h (args k args0)) rfl q
theorem ix_ok (h : Tells env cc m x) (k : Tells env cc n y) (q : dIx x y = some z) : Tells env cc (mIx m n) z := by
  unfold Tells mIx
  rw [h]
  simp only [R.bind]
  rw [k]
  simp only [wIx, see, q, Option.map_some]
theorem t_ok (h : Tells env cc m (.bl a)) : Holds env cc (mT m) a := by
  unfold Holds mT
  rw [h]
  rfl
theorem oft_ok (h : Holds env cc t a) : Tells env cc (mOfT t) (.bl a) := by
  unfold Tells mOfT
  rw [h]
  rfl
theorem not_ok (h : Holds env cc t a) : Holds env cc (mNot t) (!a) := by
  unfold Holds mNot
  rw [h]
  rfl
theorem and_ok (h : Holds env cc t a) (k : a = true → Holds env cc u b) : Holds env cc (mAnd t u) (a && b) := by
  unfold Holds mAnd mIf
  rw [h]
  cases a with
  | true => exact k rfl
  | false => rfl
theorem or_ok (h : Holds env cc t a) (k : a = false → Holds env cc u b) : Holds env cc (mOr t u) (a || b) := by
  unfold Holds mOr mIf
  rw [h]
  cases a with
  | true => rfl
  | false => exact k rfl
theorem andv_ok (h : Tells env cc m (.bl a)) (k : a = true → Tells env cc n (.bl b)) : Tells env cc (mAndV m n) (.bl (a && b)) := by
  unfold Tells mAndV mIf
  rw [t_ok h]
  cases a with
  | true => exact k rfl
  | false => rfl
theorem orv_ok (h : Tells env cc m (.bl a)) (k : a = false → Tells env cc n (.bl b)) : Tells env cc (mOrV m n) (.bl (a || b)) := by
  unfold Tells mOrV mIf
  rw [t_ok h]
  cases a with
  | true => rfl
  | false => exact k rfl
theorem ifv_ok {z : W} (h : Holds env cc t a) (k : a = true → m env cc = .ok z cc) (l : a = false → n env cc = .ok z cc) : mIf t m n env cc = .ok z cc := by
  unfold mIf
  rw [h]
  cases a with
  | true => exact k rfl
  | false => exact l rfl
theorem call_ok {F : Fn} {k : Nat} {dfl : List W} (h : r env cc = .ok ws cc) (hl : (ws ++ dfl).length = k) (run : F (ws ++ dfl) cc = .ok w cc) : mCall F k r dfl env cc = .ok w cc := by
  unfold mCall
  rw [h]
  simp only [R.bind, hl, if_true, run]
theorem call1 {F : Fn} (h : m env cc = .ok w2 cc) (run : F [w2] cc = .ok w cc) : mCall F 1 (mCons m mNil) [] env cc = .ok w cc := call_ok (args h args0) rfl run
theorem meth_ok {F : Fn} {c mm : PySem.Str} {k : Nat} {dfl us ws : List W} {ns : List PySem.Str} (h : m env cc = .ok w cc) (ho : objOf cc w = some (c, ns, ws)) (hn : (fld ns ws mm).isNone = true) (ha : r env cc = .ok us cc) (hl : (w :: (us ++ dfl)).length = k) (run : F (w :: (us ++ dfl)) cc = .ok w2 cc) : mMeth c mm F k m r dfl env cc = .ok w2 cc := by
  have e : eqS c c = true := eqS_iff.mpr rfl
  unfold mMeth
  rw [h]
  simp only [R.bind, ho, hn, e, and_self, if_true]
  rw [ha]
  simp only [R.bind, hl, if_true, run]
theorem fld_ok {c f : PySem.Str} {ns : List PySem.Str} {ws : List W} (h : m env cc = .ok w cc) (ho : objOf cc w = some (c, ns, ws)) (q : fld ns ws f = some w2) : mFld c f m env cc = .ok w2 cc := by
  have e : eqS c c = true := eqS_iff.mpr rfl
  unfold mFld
  rw [h]
  simp only [R.bind, ho, e, if_true, q]
theorem allD_map : ∀ ds : List D, allD (ds.map .d) = some ds
  | [] => rfl
  | x :: xs => by
    show (match allD (xs.map .d) with | some l => some (x :: l) | none => none) = _
    rw [allD_map xs]
theorem tup_ok {ds : List D} (h : r env cc = .ok (ds.map .d) cc) (cap : ds.length ≤ CAP) : Tells env cc (mTup r) (.tup ds) := by
  unfold Tells mTup
  rw [h]
  simp only [R.bind, allD_map, cap, if_true]
theorem lst_ok {ds : List D} (h : r env cc = .ok (ds.map .d) cc) (cap : ds.length ≤ CAP) : Tells env cc (mLst r) (.lst ds) := by
  unfold Tells mLst
  rw [h]
  simp only [R.bind, allD_map, cap, if_true]
theorem star_ok {xs ds : List D} (h : Tells env cc m x) (s : starOf cc (.d x) = some xs) (k : r env cc = .ok (ds.map .d) cc) : mStar m r env cc = .ok ((xs ++ ds).map .d) cc := by
  unfold mStar
  rw [h]
  simp only [R.bind, s]
  rw [k]
  simp only [R.bind, List.map_append]
theorem sl_to {mi : ME} {i : Int} (h : Tells env cc m x) (hi : Tells env cc mi (.int i)) (q : dSl x none (some i) = some z) : Tells env cc (mSl m oNone (oSome mi)) z := by
  unfold Tells mSl
  rw [h]
  simp only [R.bind, oNone, oSome]
  rw [hi]
  simp only [R.bind, see, q]
theorem sl_from {mi : ME} {i : Int} (h : Tells env cc m x) (hi : Tells env cc mi (.int i)) (q : dSl x (some i) none = some z) : Tells env cc (mSl m (oSome mi) oNone) z := by
  unfold Tells mSl
  rw [h]
  simp only [R.bind, oNone, oSome]
  rw [hi]
  simp only [R.bind, see, q]
theorem it_ok {ds : List D} (h : Tells env cc m x) (q : itemsD x = some ds) : mIt m env cc = .ok ds cc := by
  unfold mIt
  rw [h]
  simp only [R.bind, q]
theorem enum_ok {ds : List D} (h : Tells env cc m (.tup ds)) : mEnum m env cc = .ok (enumD 0 ds) cc := by
  unfold mEnum
  rw [h]
  rfl
theorem okR_few {i : Int} (h0 : 0 ≤ i) (h1 : i ≤ 1000) : okR i = true := decide_eq_true ⟨by omega, by omega⟩
theorem rng_ok {i : Int} (h : Tells env cc m (.int i)) (h0 : 0 ≤ i) (h1 : i ≤ 1000) : mRng1 m env cc = .ok (rangeOf 0 i.toNat) cc := by
  unfold mRng1
  rw [h]
  simp only [R.bind, okR_few h0 h1, if_true]
theorem lcL_ty {α : Type} {G : Tg} {t : DL.Env → M Bool} {m : ME} {env : DL.Env} (e : α → D) (p : α → Bool) (f : α → D) : ∀ {xs : List α}, (∀ x ∈ xs, ∃ env', G (.d (e x)) env cc = some env' ∧ Holds env' cc t (p x) ∧ (p x = true → Tells env' cc m (f x))) → lcL G t m env (xs.map e) cc = .ok ((xs.filter p).map f) cc
  | [], _ => rfl
  | x :: xs, h => by
    obtain ⟨env', a, b, c⟩ := h x List.mem_cons_self
    have ih := lcL_ty e p f (xs := xs) fun y my => h y (List.mem_cons_of_mem _ my)
    rw [List.map_cons, lcL, a]
    simp only
    rw [b]
    cases q : p x with
    | true =>
      rw [List.filter_cons_of_pos q, List.map_cons]
      simp only
      rw [c q]
      simp only
      rw [ih]
    | false =>
      rw [List.filter_cons_of_neg (by rw [q]; exact Bool.false_ne_true)]
      simp only
      exact ih
theorem lc_ty {α : Type} {mi : DL.Env → M (List D)} {vs : List Nat} {G : Tg} {t : DL.Env → M Bool} {m : ME} {xs : List α} (e : α → D) (p : α → Bool) (f : α → D) (hi : mi env cc = .ok (xs.map e) cc) (cap : xs.length ≤ 1000)
    (h : ∀ x ∈ xs, ∃ env', G (.d (e x)) (wipeE env vs) cc = some env' ∧ Holds env' cc t (p x) ∧ (p x = true → Tells env' cc m (f x))) : Tells env cc (mLc mi vs G t m) (.lst ((xs.filter p).map f)) := by
  have c : (xs.map e).length ≤ CAP := by
    rw [List.length_map]
    exact few_cap cap
  unfold Tells mLc
  rw [hi]
  simp only [R.bind, lcL_ty e p f h, c, if_true]
theorem lc_all {α : Type} {mi : DL.Env → M (List D)} {vs : List Nat} {G : Tg} {m : ME} {xs : List α} (e f : α → D) (hi : mi env cc = .ok (xs.map e) cc) (cap : xs.length ≤ 1000)
    (h : ∀ x ∈ xs, ∃ env', G (.d (e x)) (wipeE env vs) cc = some env' ∧ Tells env' cc m (f x)) : Tells env cc (mLc mi vs G tvYes m) (.lst (xs.map f)) := by
  have q := lc_ty e (fun _ => true) f (t := tvYes) hi cap fun x mem => by
    obtain ⟨env', a, b⟩ := h x mem
    exact ⟨env', a, rfl, fun _ => b⟩
  rwa [List.filter_eq_self.mpr fun _ _ => rfl] at q
theorem blsOf_of {α : Type} (p : α → Bool) : ∀ xs : List α, blsOf (xs.map fun x => D.bl (p x)) = some (xs.map p)
  | [] => rfl
  | x :: xs => by simp [blsOf, blsOf_of p xs]
theorem all_ty {α : Type} {mi : DL.Env → M (List D)} {vs : List Nat} {G : Tg} {m : ME} {xs : List α} (e : α → D) (p : α → Bool) (hi : mi env cc = .ok (xs.map e) cc) (cap : xs.length ≤ 1000)
    (h : ∀ x ∈ xs, ∃ env', G (.d (e x)) (wipeE env vs) cc = some env' ∧ Tells env' cc m (.bl (p x))) : Tells env cc (mB dAll (mCons (mLc mi vs G tvYes m) mNil)) (.bl (xs.all p)) :=
  b1_ok (lc_all e (fun x => .bl (p x)) hi cap h) (by
    show (blsOf (xs.map fun x => D.bl (p x))).map _ = _
    rw [blsOf_of, Option.map_some, List.all_map]
    rfl)
end
end Lw
set_option Elab.async false
set_option linter.all false
set_option maxRecDepth 100000
set_option maxHeartbeats 3900000
/-! S2: what the program does with lands, keys and puts. -/
namespace Lw
open PySem PySem.Spec PyProof.Rows L2 DL Ty
theorem cut_take {α : Type} (xs : List α) (n : Nat) : DL.cutD xs none (some (n : Int)) = xs.take n := by
  unfold DL.cutD
  rw [HT.sIx_nat, HT.sIx_none, Nat.sub_zero, List.drop_zero]
  rcases Nat.le_total n xs.length with h | h
  · rw [Nat.min_eq_left h]
  · rw [Nat.min_eq_right h, List.take_of_length_le (Nat.le_refl _), List.take_of_length_le h]
theorem cut_drop {α : Type} (xs : List α) (n : Nat) : DL.cutD xs (some (n : Int)) none = xs.drop n := by
  unfold DL.cutD
  rw [HT.sIx_nat, HT.sIx_none]
  rcases Nat.le_total n xs.length with h | h
  · rw [Nat.min_eq_left h]
    apply List.take_of_length_le
    simp
  · rw [Nat.min_eq_right h, Nat.sub_self, List.take_zero, List.drop_of_length_le h]
theorem sl_take (xs : List D) (n : Nat) : dSl (.tup xs) none (some (n : Int)) = some (.tup (xs.take n)) := by
  show some (D.tup (DL.cutD xs none (some (n : Int)))) = _
  rw [cut_take]
theorem sl_drop (xs : List D) (n : Nat) : dSl (.tup xs) (some (n : Int)) none = some (.tup (xs.drop n)) := by
  show some (D.tup (DL.cutD xs (some (n : Int)) none)) = _
  rw [cut_drop]
theorem dW_take (h : Words) (n : Nat) : dSl (dW h) none (some (n : Int)) = some (dW (h.take n)) := by
  unfold dW
  rw [sl_take, List.map_take]
section
variable {m : ME} {env : DL.Env} {cc : Cs} {l : Ld} {r : Rl}
theorem f_common (h : Tells env cc m (dLand l)) : Tells env cc (mFld "Land" "own_common" m) (.lst (l.common.map dW)) := fld_ok h rfl rfl
theorem f_houses (h : Tells env cc m (dLand l)) : Tells env cc (mFld "Land" "own_houses" m) (.lst (l.houses.map dW)) := fld_ok h rfl rfl
theorem f_most (h : Tells env cc m (dRules r)) : Tells env cc (mFld "Rules" "most" m) (.int r.most) := fld_ok h rfl rfl
theorem f_wide (h : Tells env cc m (dRules r)) : Tells env cc (mFld "Rules" "wide_key" m) (.bl r.wideKey) := fld_ok h rfl rfl
theorem f_renewed (h : Tells env cc m (dRules r)) : Tells env cc (mFld "Rules" "renewed" m) (.bl r.renewed) := fld_ok h rfl rfl
theorem f_guarded (h : Tells env cc m (dRules r)) : Tells env cc (mFld "Rules" "guarded" m) (.bl r.guarded) := fld_ok h rfl rfl
theorem f_drop (h : Tells env cc m (dRules r)) : Tells env cc (mFld "Rules" "drop" m) (.str r.drop) := fld_ok h rfl rfl
theorem f_first (h : Tells env cc m (dRules r)) : Tells env cc (mFld "Rules" "first" m) (.str r.first) := fld_ok h rfl rfl
theorem f_names (h : Tells env cc m (dRules r)) : Tells env cc (mFld "Rules" "names" m) (dNames r.names) := fld_ok h rfl rfl
theorem me_key {F : Fn} {rr : DL.Env → M (List W)} {w u : W} (h : Tells env cc m (dRules r)) (ha : rr env cc = .ok [u] cc) (run : F [.d (dRules r), u] cc = .ok w cc) : mMeth "Rules" "plain_key" F 2 m rr [] env cc = .ok w cc :=
  meth_ok h rfl rfl ha rfl run
theorem me_asked {F : Fn} {rr : DL.Env → M (List W)} {w u : W} (h : Tells env cc m (dRules r)) (ha : rr env cc = .ok [u] cc) (run : F [.d (dRules r), u] cc = .ok w cc) : mMeth "Rules" "asked_of" F 2 m rr [] env cc = .ok w cc :=
  meth_ok h rfl rfl ha rfl run
theorem me_round {F : Fn} {rr : DL.Env → M (List W)} {w u : W} (h : Tells env cc m (dLand l)) (ha : rr env cc = .ok [u] cc) (run : F [.d (dLand l), u] cc = .ok w cc) : mMeth "Land" "round_of" F 2 m rr [] env cc = .ok w cc :=
  meth_ok h rfl rfl ha rfl run
end
theorem len_W (h : Words) : dLen [dW h] = some (.int h.length) := by simp only [dW, dLen, List.length_map]
theorem len_L {α : Type} (f : α → D) (xs : List α) : dLen [.lst (xs.map f)] = some (.int xs.length) := by simp only [dLen, List.length_map]
theorem len_T {α : Type} (f : α → D) (xs : List α) : dLen [.tup (xs.map f)] = some (.int xs.length) := by simp only [dLen, List.length_map]
theorem gt_int (a b : Int) : dGt (.int a) (.int b) = some (.bl (decide (b < a))) := rfl
theorem at_0 (x : D) (xs : List D) : dIx (.lst (x :: xs)) (.int 0) = some x := by
  show atI (x :: xs) 0 = some x
  unfold atI ixN
  simp
section
variable {cc : Cs} (ok : okBelow cc.length cc = true)
include ok
theorem s_begins {a b : Words} (ha : a.all okW = true) (hb : b.all okW = true) : fn_begins [.d (dW a), .d (dW b)] cc = .ok (.d (.bl (begins a b))) cc :=
  fnOf_rt (n := 2) (b := fn_begins_b) ok (ret_ok (op_ok (sl_to rfl (b1_ok rfl (len_W a)) (dW_take b a.length)) rfl (eq_W (take_all hb a.length) ha)))
theorem s_starts_of {h : Words} (few : h.length ≤ 1000) : fn_starts_of [.d (dW h)] cc = .ok (.d (.lst ((startsOf h).map dW))) cc := by
  refine fnOf_rt (n := 2) (b := fn_starts_of_b) ok (ret_ok ?_)
  have hi := rng_ok (b1_ok (env := env0 2 [.d (dW h)]) (cc := cc) (m := mVar 0) rfl (len_W h)) (by omega) (by omega)
  rw [Int.toNat_natCast] at hi
  have lc := lc_all (vs := [1]) (G := gvName 1) (m := mSl (mVar 0) oNone (oSome (mOp dAdd (mVar 1) (mC (.int 1))))) (fun i : Nat => .int (0 + (i : Int))) (fun i : Nat => dW (h.take (i + 1))) (xs := List.range h.length) hi (by rw [List.length_range]; exact few) (by
    intro i _
    refine ⟨_, rfl, sl_to rfl (op_ok (z := .int ((i + 1 : Nat) : Int)) rfl rfl ?_) (dW_take h (i + 1))⟩
    exact congrArg (fun z => some (D.int z)) (by omega))
  have e : (startsOf h).map dW = (List.range h.length).map fun i : Nat => dW (h.take (i + 1)) := List.map_map ..
  rw [e]
  exact lc
theorem starts_len (h : Words) : (startsOf h).length = h.length := by simp [startsOf]
theorem s_round_of {l : Ld} {h : Words} (L : LdOk l) (hh : h.all okW = true) (few : h.length ≤ 1000) : fn_Land_round_of [.d (dLand l), .d (dW h)] cc = .ok (.d (dW (roundOf l h))) cc := by
  refine fnOf_rt (n := 4) (b := fn_Land_round_of_b) ok ?_
  have lc := lc_ty (env := env0 4 [.d (dLand l), .d (dW h)]) (mi := mIt (mCall fn_starts_of 1 (mCons (mVar 1) mNil) [])) (vs := [3]) (G := gvName 3) (t := mT (mOp dNotIn (mVar 3) (mFld "Land" "own_common" (mVar 0)))) (m := mVar 3) dW (fun s => !isCommon l s) dW (it_ok (call1 rfl (s_starts_of ok few)) rfl) (by rw [starts_len ok]; exact few) (by
    intro s mem
    refine ⟨_, rfl, t_ok (op_ok rfl (f_common rfl) ?_), fun _ => rfl⟩
    show (dIn0 (dW s) (.lst (l.common.map dW))).map (fun b => D.bl (!b)) = _
    rw [in_Ws L.common (starts_all hh s mem)]
    rfl)
  refine (seq_to (put_ok lc)).trans (ret_ok ?_)
  unfold roundOf
  generalize ((startsOf h).filter fun s => !isCommon l s) = ss
  refine ifv_ok (t_ok (op_ok (b1_ok (m := mVar 2) rfl (len_L dW ss)) rfl (gt_int _ 0))) ?_ ?_
  · intro q
    cases ss with
    | nil => exact absurd q (by decide)
    | cons s ss => exact ix_ok (m := mVar 2) rfl rfl (at_0 (dW s) (ss.map dW))
  · intro q
    cases ss with
    | nil => rfl
    | cons s ss =>
      have z := of_decide_eq_false q
      simp only [List.length_cons] at z
      omega
theorem s_plain_key {r : Rl} {s : Slip} : fn_Rules_plain_key [.d (dRules r), .d (dSlip s)] cc = .ok (.d (dKey r s)) cc := by
  refine fnOf_rt (n := 2) (b := fn_Rules_plain_key_b) ok (ret_ok ?_)
  unfold dKey
  refine ifv_ok (t_ok (f_wide (r := r) rfl)) ?_ ?_
  · intro q
    rw [if_pos q]
    rfl
  · intro q
    rw [if_neg (by rw [q]; exact Bool.false_ne_true)]
    rfl
theorem s_over_on {s : Slip} {day : Int} : fn_over_on [.d (dSlip s), .d (.int day)] cc = .ok (.d (.bl (overOn s day))) cc := by
  refine fnOf_rt (n := 2) (b := fn_over_on_b) ok (ret_ok ?_)
  have i5 : Tells (env0 2 [.d (dSlip s), .d (.int day)]) cc (mIx (mVar 0) (mC (.int 5))) (dEnd s.fin) := rfl
  unfold overOn
  cases e : s.fin with
  | none =>
    rw [e] at i5
    exact andv_ok (a := false) (b := false) (op_ok i5 rfl rfl) (fun z => nomatch z)
  | some n =>
    rw [e] at i5
    exact andv_ok (a := true) (op_ok i5 rfl rfl) (fun _ => op_ok i5 rfl rfl)
theorem s_has_right {l : Ld} {h : Words} {s : Slip} (L : LdOk l) (k : SlipOk s) (hh : h.all okW = true) : fn_has_right [.d (dLand l), .d (dW h), .d (dSlip s)] cc = .ok (.d (.bl (hasRight l h s))) cc := by
  refine fnOf_rt (n := 3) (b := fn_has_right_b) ok ?_
  have sh := host_all k.host
  have t : Holds (env0 3 [.d (dLand l), .d (dW h), .d (dSlip s)]) cc (mNot (mT (mIx (mVar 2) (mC (.int 3))))) (!s.wide) := rfl
  unfold hasRight
  cases q : s.wide with
  | false =>
    rw [q] at t
    exact seq_rt ((if_yes t).trans (ret_ok (op_ok rfl rfl (eq_W sh hh))))
  | true =>
    rw [q] at t
    refine (seq_if_no t).trans (ret_ok (andv_ok (call_ok (args rfl (args rfl args0)) rfl (s_begins ok sh hh)) fun _ => op_ok rfl (f_common rfl) ?_))
    show (dIn0 (dW s.host) (.lst (l.common.map dW))).map (fun b => D.bl (!b)) = _
    rw [in_Ws L.common sh]
    rfl
theorem in_words {x : PySem.Str} {xs : Words} (hx : okW x = true) (h : xs.all okW = true) : dIn (.str x) (dW xs) = some (.bl (xs.any fun y => eqS y x)) := by
  have c1 : cmpD (.str x) = true := okW_ck hx 64
  have c2 : cmpD (dW xs) = true := ck_W h 63
  show (if cmpD (.str x) = true ∧ cmpD (.tup (xs.map .str)) = true then some ((xs.map D.str).any fun z => eqD z (.str x)) else none).map D.bl = _
  rw [if_pos ⟨c1, c2⟩, List.any_map]
  rfl
theorem nin_words {x : PySem.Str} {xs : Words} (hx : okW x = true) (h : xs.all okW = true) : dNotIn (.str x) (dW xs) = some (.bl (!xs.any fun y => eqS y x)) := by
  have c1 : cmpD (.str x) = true := okW_ck hx 64
  have c2 : cmpD (dW xs) = true := ck_W h 63
  show (if cmpD (.str x) = true ∧ cmpD (.tup (xs.map .str)) = true then some ((xs.map D.str).any fun z => eqD z (.str x)) else none).map (fun b => D.bl (!b)) = _
  rw [if_pos ⟨c1, c2⟩, List.any_map]
  rfl
end
end Lw
set_option Elab.async false
set_option linter.all false
set_option maxRecDepth 100000
set_option maxHeartbeats 3900000
/-! S3: what puts and waits do. -/
namespace Lw
open PySem PySem.Spec PyProof.Rows L2 DL Ty
section
variable {env : DL.Env} {cc : Cs} {α β γ : Type}
theorem clL_ty {G : Tg} {t : DL.Env → M Bool} {m : DL.Env → M (List β)} {env : DL.Env} (e : α → D) (p : α → Bool) (f : α → List β) : ∀ {xs : List α}, (∀ x ∈ xs, ∃ env', G (.d (e x)) env cc = some env' ∧ Holds env' cc t (p x) ∧ (p x = true → m env' cc = .ok (f x) cc)) → clL G t m env (xs.map e) cc = .ok ((xs.filter p).flatMap f) cc
  | [], _ => rfl
  | x :: xs, h => by
    obtain ⟨env', a, b, c⟩ := h x List.mem_cons_self
    have ih := clL_ty e p f (xs := xs) fun y my => h y (List.mem_cons_of_mem _ my)
    rw [List.map_cons, clL, a]
    simp only
    rw [b]
    cases q : p x with
    | true =>
      rw [List.filter_cons_of_pos q, List.flatMap_cons]
      simp only
      rw [c q]
      simp only
      rw [ih]
    | false =>
      rw [List.filter_cons_of_neg (by rw [q]; exact Bool.false_ne_true)]
      simp only
      exact ih
theorem cl_ty {mi : DL.Env → M (List D)} {vs : List Nat} {G : Tg} {t : DL.Env → M Bool} {m : DL.Env → M (List β)} {xs : List α} (e : α → D) (p : α → Bool) (f : α → List β) (hi : mi env cc = .ok (xs.map e) cc)
    (h : ∀ x ∈ xs, ∃ env', G (.d (e x)) (wipeE env vs) cc = some env' ∧ Holds env' cc t (p x) ∧ (p x = true → m env' cc = .ok (f x) cc)) : mCl mi vs G t m env cc = .ok ((xs.filter p).flatMap f) cc := by
  unfold mCl
  rw [hi]
  exact clL_ty e p f h
theorem comp_ty {mi : DL.Env → M (List D)} {vs : List Nat} {G : Tg} {t : DL.Env → M Bool} {m : DL.Env → M (List β)} {res : List β → Option D} {xs : List α} {z : D} (e : α → D) (p : α → Bool) (f : α → List β) (hi : mi env cc = .ok (xs.map e) cc)
    (h : ∀ x ∈ xs, ∃ env', G (.d (e x)) (wipeE env vs) cc = some env' ∧ Holds env' cc t (p x) ∧ (p x = true → m env' cc = .ok (f x) cc)) (q : res ((xs.filter p).flatMap f) = some z) : Tells env cc (mComp mi vs G t m res) z := by
  unfold Tells mComp
  rw [hi]
  simp only [R.bind, clL_ty e p f h, q]
theorem pair_ok {m n : ME} {x y : D} (h : Tells env cc m x) (k : Tells env cc n y) : mPair m n env cc = .ok [(x, y)] cc := by
  unfold mPair
  rw [h]
  simp only
  rw [k]
theorem key_ok {m : ME} {x : D} (h : Tells env cc m x) : mKey m env cc = .ok [x] cc := by
  unfold mKey
  rw [h]
end
/-! ### which conditions a name is asked for -/
def yesP (w : PySem.Str) : D × D := (.str w, .bl true)
def yesK (w : PySem.Str) : Key × D := (.inr w, .bl true)
theorem pks_yes : ∀ ws : Words, pks (ws.map yesP) = some (ws.map yesK)
  | [] => rfl
  | w :: ws => by
    show (match asKey (yesP w).1, pks (ws.map yesP) with | some k, some ks => some ((k, (yesP w).2) :: ks) | _, _ => none) = _
    rw [pks_yes ws]
    rfl
theorem put_yes (acc : Words) (w : PySem.Str) : putG (acc.map yesK) (.inr w) (.bl true) = (if w ∈ acc then acc else acc ++ [w]).map yesK := by
  unfold putG
  split
  · rename_i h
    obtain ⟨p, mem, e⟩ := List.any_eq_true.mp h
    obtain ⟨v, mv, rfl⟩ := List.mem_map.mp mem
    have e : v = w := Sum.inr.inj (of_decide_eq_true e)
    subst e
    rw [if_pos mv, List.map_map]
    apply List.map_congr_left
    intro u _
    show (if (yesK u).1 = Sum.inr v then ((yesK u).1, D.bl true) else yesK u) = yesK u
    split <;> rfl
  · rename_i h
    have out : ¬ w ∈ acc := fun mem => h (List.any_eq_true.mpr ⟨yesK w, List.mem_map_of_mem mem, decide_eq_true rfl⟩)
    rw [if_neg out, List.map_append]
    rfl
theorem fold_yes : ∀ (ws acc : Words), ∃ ds : Words, (ws.map yesK).foldl (fun acc p => putG acc p.1 p.2) (acc.map yesK) = ds.map yesK ∧ (∀ x, x ∈ ds ↔ x ∈ acc ∨ x ∈ ws) ∧ ds.length ≤ acc.length + ws.length
  | [], acc => ⟨acc, rfl, fun x => by simp, Nat.le_refl _⟩
  | w :: ws, acc => by
    obtain ⟨ds, e, mem, len⟩ := fold_yes ws (if w ∈ acc then acc else acc ++ [w])
    refine ⟨ds, ?_, fun x => ?_, ?_⟩
    · rw [List.map_cons, List.foldl_cons]
      show List.foldl _ (putG (acc.map yesK) (.inr w) (.bl true)) _ = _
      rw [put_yes]
      exact e
    · rw [mem x]
      split
      · rename_i h
        rw [List.mem_cons]
        constructor
        · rintro (a | a)
          · exact .inl a
          · exact .inr (.inr a)
        · rintro (a | a | a)
          · exact .inl a
          · exact .inl (a ▸ h)
          · exact .inr a
      · rw [List.mem_append, List.mem_singleton, List.mem_cons, or_assoc]
    · refine Nat.le_trans len ?_
      split
      · simp
      · simp only [List.length_append, List.length_cons, List.length_nil]
        omega
theorem flat_len {α β : Type} (f : α → List β) (n : Nat) : ∀ {xs : List α}, (∀ x ∈ xs, (f x).length ≤ n) → (xs.flatMap f).length ≤ n * xs.length
  | [], _ => Nat.zero_le _
  | x :: xs, h => by
    have a := h x List.mem_cons_self
    have b := flat_len f n (xs := xs) fun y my => h y (List.mem_cons_of_mem _ my)
    rw [List.flatMap_cons, List.length_append, List.length_cons, Nat.mul_succ]
    omega
theorem strs_map : ∀ xs : Words, strsOf (xs.map .str) = some xs
  | [] => rfl
  | x :: xs => by
    show (strsOf (xs.map .str)).map (x :: ·) = _
    rw [strs_map xs]
    rfl
theorem conds_len {ws : Words} (h : okOf condsW ws = true) : ws.length ≤ 3 := by
  rw [eqH_iff.mp h]
  exact Nat.le_trans (List.length_filter_le _ _) (by decide)
section
variable {cc : Cs} (ok : okBelow cc.length cc = true)
include ok
theorem s_asked_of {r : Rl} {name : PySem.Str} (k : RlOk r) : ∃ xs : Words, fn_Rules_asked_of [.d (dRules r), .d (.str name)] cc = .ok (.d (dW xs)) cc ∧ xs.all okW = true ∧ ∀ c, (xs.any fun y => eqS y c) = asks r name c := by
  let p := fun q : PySem.Str × Words => Txt.startswith name q.1
  let raw : Words := (r.names.filter p).flatMap (·.2)
  obtain ⟨ds, fold, mem, len⟩ := fold_yes raw []
  have few : ds.length ≤ 18 := by
    have a := flat_len (fun q : PySem.Str × Words => q.2) 3 (xs := r.names.filter p) fun q mq => conds_len (k.names q (List.mem_filter.mp mq).1).2
    have b := List.length_filter_le p r.names
    have c := k.few
    have len' : ds.length ≤ raw.length := by simpa using len
    have a' : raw.length ≤ 3 * (r.names.filter p).length := a
    omega
  have memS : ∀ x, x ∈ sortS ds ↔ x ∈ raw := fun x => ((sortS_perm ds).mem_iff).trans ((mem x).trans (by simp))
  refine ⟨sortS ds, fnOf_rt (n := 6) (b := fn_Rules_asked_of_b) ok ?_, ?_, fun c => ?_⟩
  · have first : Tells (env0 6 [.d (dRules r), .d (.str name)]) cc (mDp2 (mIt (mFld "Rules" "names" (mVar 0))) [3, 4, 5] (gvTup 2 (gvCons (gvName 3) (gvCons (gvName 4) gvNil))) (mT (mSm gStarts (mVar 1) (mVar 3))) (mIt (mVar 4)) [5] (gvName 5) tvYes (mVar 5) (mC (.bl true))) (.dct (ds.map .str) (ds.map fun _ => .bl true)) := by
      refine comp_ty (fun q : PySem.Str × Words => .tup [.str q.1, dW q.2]) p (fun q => q.2.map yesP) (it_ok (f_names (r := r) rfl) rfl) ?_ ?_
      · intro q mq
        refine ⟨_, rfl, rfl, fun _ => ?_⟩
        have in1 := cl_ty (env := [some (.d (dRules r)), some (.d (.str name)), none, some (.d (.str q.1)), some (.d (dW q.2)), none]) (cc := cc) (mi := mIt (mVar 4)) (vs := [5]) (G := gvName 5) (t := tvYes) (m := mPair (mVar 5) (mC (.bl true))) (xs := q.2) (fun w : PySem.Str => .str w) (fun _ => true) (fun w => [yesP w]) rfl fun w _ => ⟨_, rfl, rfl, fun _ => rfl⟩
        rw [List.filter_eq_self.mpr fun _ _ => rfl] at in1
        have e : (q.2.flatMap fun w => [yesP w]) = q.2.map yesP := by
          induction q.2 with
          | nil => rfl
          | cons a b ih => rw [List.flatMap_cons, ih]; rfl
        rw [e] at in1
        exact in1
      · have e : ((r.names.filter p).flatMap fun q => q.2.map yesP) = raw.map yesP := List.map_flatMap.symm
        rw [e]
        unfold dpOf
        rw [pks_yes]
        have e2 : foldP (raw.map yesK) = ds.map yesK := fold
        have cap : (raw.map yesK).length ≤ CAP := by
          rw [List.length_map]
          refine few_cap ?_
          have a := flat_len (fun q : PySem.Str × Words => q.2) 3 (xs := r.names.filter p) fun q mq => conds_len (k.names q (List.mem_filter.mp mq).1).2
          have b := List.length_filter_le p r.names
          have c := k.few
          have a' : raw.length ≤ 3 * (r.names.filter p).length := a
          omega
        simp only [cap, if_true]
        rw [e2, List.map_map, List.map_map]
        rfl
    refine (seq_to (put_ok first)).trans (ret_ok (b1_ok (x := .lst ((sortS ds).map .str)) (b1_ok (x := .lst (ds.map .str)) ?_ ?_) rfl))
    · have lc := lcL_ty (cc := []) (env := wipeE (((env0 6 [.d (dRules r), .d (.str name)]).set 2 (some (.d (.dct (ds.map .str) (ds.map fun _ => .bl true))))).map fun _ => none) [5]) (G := gvName 5) (t := tvYes) (m := mB dStr (mCons (mVar 5) mNil)) (xs := ds) (fun w : PySem.Str => .str w) (fun _ => true) (fun w => .str w) fun w _ => ⟨_, rfl, rfl, fun _ => rfl⟩
      rw [List.filter_eq_self.mpr fun _ _ => rfl] at lc
      have sc : (ds.map D.str).all scalar = true := by
        rw [List.all_eq_true]
        intro d md
        obtain ⟨w, _, rfl⟩ := List.mem_map.mp md
        rfl
      have cap : (ds.map D.str).length ≤ CAP := by
        rw [List.length_map]
        exact few_cap (by omega)
      show (match lcL (gvName 5) tvYes (mB dStr (mCons (mVar 5) mNil)) (wipeE (((env0 6 [.d (dRules r), .d (.str name)]).set 2 (some (.d (.dct (ds.map .str) (ds.map fun _ => .bl true))))).map fun _ => none) [5]) (ds.map .str) [] with
        | .ok ys _ => if (ds.map D.str).length ≤ CAP ∧ ys.all scalar = true then R.ok (W.d (.lst ys)) cc else .stuck
        | _ => .stuck) = _
      rw [lc]
      exact if_pos ⟨cap, sc⟩
    · show (match strsOf (ds.map .str) with | some xs => if xs.length < 64 then some (D.lst ((sortS xs).map .str)) else none | none => none) = _
      rw [strs_map]
      exact if_pos (by omega)
  · rw [List.all_eq_true]
    intro x mx
    obtain ⟨q, mq, mx⟩ := List.mem_flatMap.mp ((memS x).mp mx)
    exact List.all_eq_true.mp (of_all conds_words (k.names q (List.mem_filter.mp mq).1).2) x mx
  · rw [Bool.eq_iff_iff, List.any_eq_true]
    unfold asks
    rw [List.any_eq_true]
    constructor
    · rintro ⟨x, mx, e⟩
      obtain ⟨q, mq, mx⟩ := List.mem_flatMap.mp ((memS x).mp mx)
      have f := List.mem_filter.mp mq
      exact ⟨q, f.1, by rw [Bool.and_eq_true]; exact ⟨f.2, List.any_eq_true.mpr ⟨x, mx, e⟩⟩⟩
    · rintro ⟨q, mq, e⟩
      rw [Bool.and_eq_true] at e
      obtain ⟨x, mx, e2⟩ := List.any_eq_true.mp e.2
      exact ⟨x, (memS x).mpr (List.mem_flatMap.mpr ⟨q, List.mem_filter.mpr ⟨mq, e.1⟩, mx⟩), e2⟩
end
end Lw
set_option Elab.async false
set_option linter.all false
set_option maxRecDepth 100000
set_option maxHeartbeats 3900000
/-! S4: puts, waits, rows of deeds. -/
namespace Lw
open PySem PySem.Spec PyProof.Rows L2 DL Ty
theorem seq_if {env : DL.Env} {cc : Cs} {t : DL.Env → M Bool} {a : Bool} {A B : MS} {z : SR} (h : Holds env cc t a) (y : a = true → A env cc = z) (n : a = false → B env cc = z) (hz : ∃ w c, z = .rt w c) : sSeq (sIf t A sNext) B env cc = z := by
  cases a with
  | true =>
    obtain ⟨w, c, rfl⟩ := hz
    exact seq_rt ((if_yes h).trans (y rfl))
  | false => exact (seq_if_no h).trans (n rfl)
theorem eqB_W {a b : Words} (ha : a.all okW = true) (hb : b.all okW = true) : dEqB (dW a) (dW b) = some (eqH a b) := if_pos ⟨cmp_W ha, cmp_W hb⟩ |>.trans (by rw [eqD_W])
theorem ne_path {p : Words} (h : p.all okW = true) : dNe (dW p) (.tup []) = some (.bl (!p.isEmpty)) := by
  show (dEqB (dW p) (dW [])).map (fun b => D.bl (!b)) = _
  rw [eqB_W h rfl]
  cases p <;> rfl
theorem enum_map {α : Type} (e : α → D) : ∀ (xs : List α) (n : Nat), enumD n (xs.map e) = (xs.zipIdx n).map fun q => .tup [.int q.2, e q.1]
  | [], _ => rfl
  | x :: xs, n => by
    show D.tup [.int n, e x] :: enumD (n + 1) (xs.map e) = _
    rw [enum_map e xs (n + 1)]
    rfl
def dSpot : Option Nat → D
  | none => .non
  | some n => .int n
theorem take_S (ss : List Slip) (n : Nat) : dSl (dSlips ss) none (some (n : Int)) = some (dSlips (ss.take n)) := by
  unfold dSlips
  rw [sl_take, List.map_take]
theorem drop_S (ss : List Slip) (n : Nat) : dSl (dSlips ss) (some (n : Int)) none = some (dSlips (ss.drop n)) := by
  unfold dSlips
  rw [sl_drop, List.map_drop]
theorem add_S (a b : List Slip) (h : a.length + b.length ≤ 1000) : dAdd (dSlips a) (dSlips b) = some (dSlips (a ++ b)) := by
  have c : (a.map dSlip).length + (b.map dSlip).length ≤ CAP := by
    rw [List.length_map, List.length_map]
    exact few_cap h
  show (if (a.map dSlip).length + (b.map dSlip).length ≤ CAP then some (D.tup (a.map dSlip ++ b.map dSlip)) else none) = _
  rw [if_pos c, ← List.map_append]
  rfl
theorem at_S {ss : List Slip} {n : Nat} {s : Slip} (h : ss[n]? = some s) : dIx (dSlips ss) (.int (n : Int)) = some (dSlip s) := by
  have lt := (List.getElem?_eq_some_iff.mp h).1
  show atI (ss.map dSlip) (n : Int) = _
  unfold atI ixN
  have a1 : 0 ≤ (n : Int) := by omega
  have a2 : (n : Int) < ((ss.map dSlip).length : Int) := by rw [List.length_map]; omega
  rw [if_pos a1, if_pos a2]
  show (ss.map dSlip)[(n : Int).toNat]? = _
  rw [Int.toNat_natCast, List.getElem?_map, h]
  rfl
section
variable {cc : Cs} (ok : okBelow cc.length cc = true)
include ok
theorem s_meets_names {r : Rl} {s : Slip} (k : RlOk r) (ks : SlipOk s) : fn_meets_names [.d (dRules r), .d (dSlip s)] cc = .ok (.d (.bl (meetsNames r s))) cc := by
  obtain ⟨xs, run, aw, any⟩ := s_asked_of ok (name := s.name) k
  refine fnOf_rt (n := 3) (b := fn_meets_names_b) ok ((seq_to (put_ok (me_asked (r := r) rfl (args rfl args0) run))).trans ?_)
  have inA : ∀ c, okW c = true → Tells ((env0 3 [.d (dRules r), .d (dSlip s)]).set 2 (some (.d (dW xs)))) cc (mOp dIn (mC (.str c)) (mVar 2)) (.bl (asks r s.name c)) := by
    intro c hc
    have q := in_words ok hc aw
    rw [any] at q
    exact op_ok rfl rfl q
  have ninA : ∀ c, okW c = true → Tells ((env0 3 [.d (dRules r), .d (dSlip s)]).set 2 (some (.d (dW xs)))) cc (mOp dNotIn (mC (.str c)) (mVar 2)) (.bl (!asks r s.name c)) := by
    intro c hc
    have q := nin_words ok hc aw
    rw [any] at q
    exact op_ok rfl rfl q
  refine seq_if (or_ok (and_ok (t_ok (inA "own" (by decide +kernel))) fun _ => (rfl : Holds _ cc (mT (mIx (mVar 1) (mC (.int 3)))) s.wide)) fun _ => and_ok (t_ok (inA "whole" (by decide +kernel))) fun _ => t_ok (op_ok rfl (tup_ok (ds := []) rfl (Nat.zero_le _)) (ne_path (path_all ks.path)))) ?_ ?_ ⟨_, _, rfl⟩
  · intro q
    unfold meetsNames
    rw [if_pos q]
    rfl
  · intro q
    unfold meetsNames
    rw [if_neg (by rw [q]; exact Bool.false_ne_true)]
    exact ret_ok (orv_ok (ninA "closed" (by decide +kernel)) fun _ => op_ok rfl rfl (in_words ok (by decide +kernel) (of_all marks_words ks.marks)))
theorem closed_in {env : DL.Env} {m : ME} {s : Slip} (ks : SlipOk s) (h : Tells env cc m (dSlip s)) : Holds env cc (mT (mOp dIn (mC (.str "closed")) (mIx m (mC (.int 6))))) (hasMark s "closed") :=
  t_ok (op_ok rfl (ix_ok (z := dW s.marks) h rfl rfl) (in_words ok (by decide +kernel) (of_all marks_words ks.marks)))
theorem closed_nin {env : DL.Env} {m : ME} {s : Slip} (ks : SlipOk s) (h : Tells env cc m (dSlip s)) : Holds env cc (mT (mOp dNotIn (mC (.str "closed")) (mIx m (mC (.int 6))))) (isPlain s) :=
  t_ok (op_ok rfl (ix_ok (z := dW s.marks) h rfl rfl) (nin_words ok (by decide +kernel) (of_all marks_words ks.marks)))
theorem s_is_allowed {l : Ld} {r : Rl} {house : Words} {closed : Bool} {s : Slip} (L : LdOk l) (k : RlOk r) (hh : house.all okW = true) (ks : SlipOk s) : fn_is_allowed [.d (dLand l), .d (dRules r), .d (dW house), .d (.bl closed), .d (dSlip s)] cc = .ok (.d (.bl (allowed l r house closed s))) cc := by
  refine fnOf_rt (n := 5) (b := fn_is_allowed_b) ok (seq_if (or_ok (not_ok (t_ok (call_ok (args rfl (args rfl (args rfl args0))) rfl (s_has_right ok L ks hh)))) fun _ => and_ok (closed_in ok (s := s) ks rfl) fun _ => not_ok (t_ok (a := closed) rfl)) ?_ ?_ ⟨_, _, rfl⟩)
  · intro q
    unfold allowed
    rw [if_pos q]
    rfl
  · intro q
    unfold allowed
    rw [if_neg (by rw [q]; exact Bool.false_ne_true)]
    exact ret_ok (call_ok (args rfl (args rfl args0)) rfl (s_meets_names ok k ks))
theorem s_found_at {r : Rl} {ss : List Slip} {s : Slip} (hs : ∀ x ∈ ss, SlipOk x) (few : ss.length ≤ 1000) (ks : SlipOk s) : fn_found_at [.d (dRules r), .d (dSlips ss), .d (dSlip s)] cc = .ok (.d (dSpot (foundAt r ss s))) cc := by
  refine fnOf_rt (n := 7) (b := fn_found_at_b) ok ((seq_to (put_ok (me_key (r := r) rfl (args rfl args0) (s_plain_key ok)))).trans ?_)
  have lc := lc_ty (env := (env0 7 [.d (dRules r), .d (dSlips ss), .d (dSlip s)]).set 3 (some (.d (dKey r s)))) (cc := cc) (mi := mEnum (mVar 1)) (vs := [5, 6]) (G := gvTup 2 (gvCons (gvName 5) (gvCons (gvName 6) gvNil))) (t := mT (mOp dEq (mMeth "Rules" "plain_key" fn_Rules_plain_key 2 (mVar 0) (mCons (mVar 6) mNil) []) (mVar 3))) (m := mVar 5) (xs := ss.zipIdx)
    (fun q => .tup [.int q.2, dSlip q.1]) (fun q => sameKey r q.1 s) (fun q => .int q.2) (by
      have e := enum_ok (env := (env0 7 [.d (dRules r), .d (dSlips ss), .d (dSlip s)]).set 3 (some (.d (dKey r s)))) (cc := cc) (m := mVar 1) (ds := ss.map dSlip) rfl
      rw [enum_map] at e
      exact e) (by rw [List.length_zipIdx]; exact few) (by
    intro q mq
    have kq := hs q.1 (List.mem_of_getElem? (List.mem_zipIdx_iff_getElem?.mp mq))
    exact ⟨_, rfl, t_ok (op_ok (me_key (r := r) rfl (args rfl args0) (s_plain_key ok)) rfl (eq_key kq ks)), fun _ => rfl⟩)
  have e1 : (ss.zipIdx.filter fun q => sameKey r q.1 s).map (fun q => D.int q.2) = (spots (fun x => sameKey r x s) ss).map fun n : Nat => .int (n : Int) := by
    unfold spots
    rw [List.map_map]
    rfl
  rw [e1] at lc
  refine (seq_to (put_ok lc)).trans (ret_ok ?_)
  unfold foundAt
  generalize spots (fun x => sameKey r x s) ss = ns
  refine ifv_ok (t_ok (op_ok (b1_ok (m := mVar 4) rfl (len_L (fun n : Nat => .int (n : Int)) ns)) rfl (gt_int _ 0))) ?_ ?_
  · intro q
    cases ns with
    | nil => exact absurd q (by decide)
    | cons n ns => exact ix_ok (m := mVar 4) rfl rfl (at_0 (.int (n : Int)) (ns.map fun n : Nat => .int (n : Int)))
  · intro q
    cases ns with
    | nil => rfl
    | cons s ss =>
      have z := of_decide_eq_false q
      simp only [List.length_cons] at z
      omega
theorem s_exchanged {r : Rl} {ss : List Slip} {n : Nat} {s : Slip} (few : ss.length ≤ 999) (lt : n < ss.length) : fn_exchanged [.d (dRules r), .d (dSlips ss), .d (.int (n : Int)), .d (dSlip s)] cc = .ok (.d (dSlips (exchanged r ss n s))) cc := by
  have l1 : (ss.take n).length = n := List.length_take_of_le (Nat.le_of_lt lt)
  have l2 : (ss.drop (n + 1)).length = ss.length - (n + 1) := List.length_drop
  have one : Tells (env0 4 [.d (dRules r), .d (dSlips ss), .d (.int (n : Int)), .d (dSlip s)]) cc (mTup (mCons (mVar 3) mNil)) (dSlips [s]) := tup_ok (ds := [dSlip s]) rfl (few_cap (Nat.le_of_ble_eq_true rfl))
  have tk : Tells (env0 4 [.d (dRules r), .d (dSlips ss), .d (.int (n : Int)), .d (dSlip s)]) cc (mSl (mVar 1) oNone (oSome (mVar 2))) (dSlips (ss.take n)) := sl_to rfl rfl (take_S ss n)
  have dr : Tells (env0 4 [.d (dRules r), .d (dSlips ss), .d (.int (n : Int)), .d (dSlip s)]) cc (mSl (mVar 1) (oSome (mOp dAdd (mVar 2) (mC (.int 1)))) oNone) (dSlips (ss.drop (n + 1))) := sl_from (i := ((n + 1 : Nat) : Int)) rfl rfl (drop_S ss (n + 1))
  refine fnOf_rt (n := 4) (b := fn_exchanged_b) ok (seq_if (t_ok (f_renewed (r := r) rfl)) ?_ ?_ ⟨_, _, rfl⟩)
  · intro q
    unfold exchanged
    rw [if_pos q, List.eraseIdx_eq_take_drop_succ]
    exact ret_ok (op_ok (op_ok tk dr (add_S _ _ (by omega))) one (add_S _ _ (by simp only [List.length_append, l1, l2, List.length_cons, List.length_nil]; omega)))
  · intro q
    unfold exchanged
    rw [if_neg (by rw [q]; exact Bool.false_ne_true), List.set_eq_take_append_cons_drop, if_pos lt]
    have e : ss.take n ++ s :: ss.drop (n + 1) = (ss.take n ++ [s]) ++ ss.drop (n + 1) := by simp
    rw [e]
    exact ret_ok (op_ok (op_ok tk one (add_S _ _ (by simp only [l1, List.length_cons, List.length_nil]; omega))) dr (add_S _ _ (by simp only [List.length_append, l1, l2, List.length_cons, List.length_nil]; omega)))
theorem spots_lc {l : Ld} {ss : List Slip} {one : Words} {env : DL.Env} {i j k : Nat} {mi : DL.Env → M (List D)} {m : ME} (L : LdOk l) (hs : ∀ x ∈ ss, SlipOk x) (few : ss.length ≤ 1000) (ho : one.all okW = true)
    (hi : mi env cc = .ok (ss.zipIdx.map fun q => .tup [.int q.2, dSlip q.1]) cc) {G : Tg} {vs : List Nat} {t : DL.Env → M Bool}
    (h : ∀ q : Slip × Nat, ∃ env', G (.d (.tup [.int q.2, dSlip q.1])) (wipeE env vs) cc = some env' ∧ (q.1 ∈ ss → Holds env' cc t (eqH (roundOf l q.1.host) one)) ∧ Tells env' cc m (.int q.2)) :
    Tells env cc (mLc mi vs G t m) (.lst ((spots (fun s => eqH (roundOf l s.host) one) ss).map fun n : Nat => .int (n : Int))) := by
  have lc := lc_ty (env := env) (cc := cc) (mi := mi) (vs := vs) (G := G) (t := t) (m := m) (xs := ss.zipIdx) (fun q => .tup [.int q.2, dSlip q.1]) (fun q => eqH (roundOf l q.1.host) one) (fun q => .int q.2) hi (by rw [List.length_zipIdx]; exact few) (by
    intro q mq
    obtain ⟨env', a, b, c⟩ := h q
    exact ⟨env', a, b (List.mem_of_getElem? (List.mem_zipIdx_iff_getElem?.mp mq)), fun _ => c⟩)
  unfold spots
  rw [List.map_map]
  exact lc
theorem spots_and (p q : Slip → Bool) (ss : List Slip) : ((spots p ss).filter fun n => (ss[n]?.map q).getD false) = spots (fun s => p s && q s) ss := by
  unfold spots
  rw [List.filter_map, List.filter_filter]
  congr 1
  apply List.filter_congr
  intro x mx
  have e := List.mem_zipIdx_iff_getElem?.mp mx
  show (((ss[x.2]?).map q).getD false && p x.1) = _
  rw [e, Bool.and_comm]
  rfl
theorem s_drop_spot {l : Ld} {r : Rl} {ss : List Slip} {one : Words} (L : LdOk l) (k : RlOk r) (hs : ∀ x ∈ ss, SlipOk x) (few : ss.length ≤ 500) (ho : one.all okW = true) (some1 : ∃ x ∈ ss, roundOf l x.host = one) :
    fn_drop_spot [.d (dLand l), .d (dRules r), .d (dSlips ss), .d (dW one)] cc = .ok (.d (.int (dropSpot l r ss one : Nat))) cc := by
  have hi : mEnum (mVar 2) (env0 8 [.d (dLand l), .d (dRules r), .d (dSlips ss), .d (dW one)]) cc = .ok (ss.zipIdx.map fun q => .tup [.int q.2, dSlip q.1]) cc := by
    have e := enum_ok (env := env0 8 [.d (dLand l), .d (dRules r), .d (dSlips ss), .d (dW one)]) (cc := cc) (m := mVar 2) (ds := ss.map dSlip) rfl
    rw [enum_map] at e
    exact e
  have sp := spots_lc ok (l := l) (one := one) (vs := [6, 7]) (G := gvTup 2 (gvCons (gvName 6) (gvCons (gvName 7) gvNil))) (t := mT (mOp dEq (mMeth "Land" "round_of" fn_Land_round_of 2 (mVar 0) (mCons (mIx (mVar 7) (mC (.int 2))) mNil) []) (mVar 3))) (m := mVar 6) (i := 0) (j := 0) (k := 0) L hs (by omega) ho hi (fun q => ⟨_, rfl, fun mq => by
    have kq := hs q.1 mq
    have hh := host_all kq.host
    have fh : q.1.host.length ≤ 1000 := by
      have a := kq.host
      simp only [okHost, okWs, Bool.and_eq_true, Nat.ble_eq] at a
      omega
    exact t_ok (op_ok (me_round (l := l) rfl (args rfl args0) (s_round_of ok L hh fh)) rfl (eq_W (round_all hh) ho)), rfl⟩)
  have len : (spots (fun s => eqH (roundOf l s.host) one) ss).length ≤ 500 := by
    unfold spots
    rw [List.length_map]
    exact Nat.le_trans (List.length_filter_le _ _) (by rw [List.length_zipIdx]; exact few)
  have ne : ∃ n ns, spots (fun s => eqH (roundOf l s.host) one) ss = n :: ns := by
    obtain ⟨x, mx, e⟩ := some1
    obtain ⟨n, e2⟩ := List.getElem?_of_mem mx
    have m := spot_of (p := fun s => eqH (roundOf l s.host) one) e2 (eqH_iff.mpr e)
    cases q : spots (fun s => eqH (roundOf l s.host) one) ss with
    | nil => rw [q] at m; exact nomatch m
    | cons n ns => exact ⟨n, ns, rfl⟩
  refine fnOf_rt (n := 8) (b := fn_drop_spot_b) ok ((seq_to (put_ok sp)).trans (seq_if (t_ok (op_ok (f_drop (r := r) rfl) rfl (show dEq (.str r.drop) (.str "plain") = some (.bl (eqS r.drop "plain")) from ?_))) ?_ ?_ ⟨_, _, rfl⟩))
  · rcases k.drop with e | e <;> rw [e] <;> rfl
  · intro q
    have pl := lc_ty (env := (env0 8 [.d (dLand l), .d (dRules r), .d (dSlips ss), .d (dW one)]).set 4 (some (.d (.lst ((spots (fun s => eqH (roundOf l s.host) one) ss).map fun n : Nat => .int (n : Int)))))) (cc := cc) (mi := mIt (mVar 4)) (vs := [6]) (G := gvName 6) (t := mT (mOp dNotIn (mC (.str "closed")) (mIx (mIx (mVar 2) (mVar 6)) (mC (.int 6))))) (m := mVar 6) (xs := spots (fun s => eqH (roundOf l s.host) one) ss) (fun n : Nat => .int (n : Int)) (fun n => (ss[n]?.map isPlain).getD false) (fun n : Nat => .int (n : Int)) rfl (by omega) (by
      intro n mn
      obtain ⟨x, ex, _⟩ := spot_at mn
      refine ⟨_, rfl, ?_, fun _ => rfl⟩
      rw [ex]
      exact closed_nin ok (hs x (List.mem_of_getElem? ex)) (ix_ok rfl rfl (at_S ex)))
    rw [spots_and ok] at pl
    unfold dropSpot
    simp only [q, if_true]
    have both : Tells (((env0 8 [.d (dLand l), .d (dRules r), .d (dSlips ss), .d (dW one)]).set 4 (some (.d (.lst ((spots (fun s => eqH (roundOf l s.host) one) ss).map fun n : Nat => .int (n : Int)))))).set 5 (some (.d (.lst ((spots (fun s => eqH (roundOf l s.host) one && isPlain s) ss).map fun n : Nat => .int (n : Int)))))) cc (mLst (mStar (mVar 5) (mStar (mVar 4) mNil))) (.lst ((spots (fun s => eqH (roundOf l s.host) one && isPlain s) ss ++ spots (fun s => eqH (roundOf l s.host) one) ss).map fun n : Nat => .int (n : Int))) := by
      refine lst_ok ?_ ?_
      · rw [List.map_append]
        refine star_ok rfl rfl ?_
        have s2 := star_ok (env := ((env0 8 [.d (dLand l), .d (dRules r), .d (dSlips ss), .d (dW one)]).set 4 (some (.d (.lst ((spots (fun s => eqH (roundOf l s.host) one) ss).map fun n : Nat => .int (n : Int)))))).set 5 (some (.d (.lst ((spots (fun s => eqH (roundOf l s.host) one && isPlain s) ss).map fun n : Nat => .int (n : Int)))))) (cc := cc) (m := mVar 4) (r := mNil) (ds := []) (xs := (spots (fun s => eqH (roundOf l s.host) one) ss).map fun n : Nat => .int (n : Int)) rfl rfl rfl
        rw [List.append_nil] at s2
        exact s2
      · rw [List.length_map, List.length_append]
        refine few_cap ?_
        have l2 : (spots (fun s => eqH (roundOf l s.host) one && isPlain s) ss).length ≤ 500 := by
          unfold spots
          rw [List.length_map]
          exact Nat.le_trans (List.length_filter_le _ _) (by rw [List.length_zipIdx]; exact few)
        omega
    refine (seq_to (put_ok pl)).trans (ret_ok (ix_ok both rfl ?_))
    obtain ⟨n, ns, e⟩ := ne
    rw [e]
    cases spots (fun s => eqH (roundOf l s.host) one && isPlain s) ss with
    | nil => exact at_0 _ _
    | cons a as => exact at_0 _ _
  · intro q
    obtain ⟨n, ns, e⟩ := ne
    unfold dropSpot
    simp only [q, Bool.false_eq_true, if_false]
    rw [e]
    exact ret_ok (ix_ok rfl rfl (at_0 _ _))
end
end Lw
set_option Elab.async false
set_option linter.all false
set_option maxRecDepth 100000
set_option maxHeartbeats 3900000
/-! S5: a store behind a deed. -/
namespace Lw
open PySem PySem.Spec PyProof.Rows L2 DL Ty
theorem asg_ok {env env' : DL.Env} {cc : Cs} {G : Tg} {m : ME} {w : W} (h : m env cc = .ok w cc) (g : G w env cc = some env') : sAsg G m env cc = .nx env' cc := by
  unfold sAsg
  rw [h]
  simp only [R.thenS, g]
theorem asgT_ok {env env' : DL.Env} {cc : Cs} {n : Nat} {G : Tgs} {r : DL.Env → M (List W)} {ws : List W} (h : r env cc = .ok ws cc) (hl : ws.length = n) (few : n ≤ 1000) (g : G ws env cc = some env') : sAsgT n G r env cc = .nx env' cc := by
  unfold sAsgT
  rw [h]
  have c : ws.length = n ∧ n ≤ CAP := ⟨hl, few_cap few⟩
  simp only [R.thenS, g]
  rw [if_pos c]
theorem host_few {h : Words} (k : okHost h = true) : h.length ≤ 1000 := by
  simp only [okHost, okWs, Bool.and_eq_true, Nat.ble_eq] at k
  omega
section
variable {cc : Cs} (ok : okBelow cc.length cc = true)
include ok
theorem s_round {l : Ld} {h : Words} (L : LdOk l) (k : okHost h = true) : fn_Land_round_of [.d (dLand l), .d (dW h)] cc = .ok (.d (dW (roundOf l h))) cc := s_round_of ok L (host_all k) (host_few k)
theorem s_with_new {l : Ld} {r : Rl} {ss : List Slip} {s : Slip} (L : LdOk l) (k : RlOk r) (hs : ∀ x ∈ ss, SlipOk x) (few : ss.length ≤ 400) (ks : SlipOk s) :
    fn_with_new [.d (dLand l), .d (dRules r), .d (dSlips ss), .d (dSlip s)] cc = .ok (.d (dSlips (withNew l r ss s))) cc := by
  have hl : ∀ x ∈ ss ++ [s], SlipOk x := by
    intro x mx
    rcases List.mem_append.mp mx with m | m
    · exact hs x m
    · exact List.mem_singleton.mp m ▸ ks
  have ll : (ss ++ [s]).length = ss.length + 1 := by simp
  have later : Tells (env0 8 [.d (dLand l), .d (dRules r), .d (dSlips ss), .d (dSlip s)]) cc (mTup (mStar (mVar 2) (mCons (mVar 3) mNil))) (dSlips (ss ++ [s])) := by
    have e : dSlips (ss ++ [s]) = .tup (ss.map dSlip ++ [dSlip s]) := by unfold dSlips; rw [List.map_append]; rfl
    rw [e]
    exact tup_ok (star_ok rfl rfl (ds := [dSlip s]) rfl) (few_cap (by rw [List.length_append, List.length_map]; simp only [List.length_cons, List.length_nil]; omega))
  refine fnOf_rt (n := 8) (b := fn_with_new_b) ok ((seq_to (asgT_ok (args later (args (me_round (l := l) rfl (args rfl args0) (s_round ok L ks.host)) args0)) rfl (show 2 ≤ 1000 by decide) rfl)).trans ?_)
  have lc := lc_ty (env := ((env0 8 [.d (dLand l), .d (dRules r), .d (dSlips ss), .d (dSlip s)]).set 4 (some (.d (dSlips (ss ++ [s]))))).set 5 (some (.d (dW (roundOf l s.host))))) (cc := cc) (mi := mIt (mVar 4)) (vs := [7]) (G := gvName 7) (t := mT (mOp dEq (mMeth "Land" "round_of" fn_Land_round_of 2 (mVar 0) (mCons (mIx (mVar 7) (mC (.int 2))) mNil) []) (mVar 5))) (m := mVar 7) (xs := ss ++ [s]) dSlip (fun x => eqH (roundOf l x.host) (roundOf l s.host)) dSlip rfl (by omega) (by
    intro x mx
    have kx := hl x mx
    exact ⟨_, rfl, t_ok (op_ok (me_round (l := l) rfl (args rfl args0) (s_round ok L kx.host)) rfl (eq_W (round_all (host_all kx.host)) (round_all (host_all ks.host)))), fun _ => rfl⟩)
  have many := b1_ok lc (len_L dSlip _)
  rw [← List.countP_eq_length_filter] at many
  refine seq_if (t_ok (op_ok many (f_most (r := r) rfl) (show dLe (.int _) (.int r.most) = some (.bl (decide (_ ≤ r.most))) from rfl))) ?_ ?_ ⟨_, _, rfl⟩
  · intro q
    unfold withNew
    simp only [of_decide_eq_true q, if_true]
    rfl
  · intro q
    have drop := s_drop_spot ok (ss := ss ++ [s]) (one := roundOf l s.host) L k hl (by omega) (round_all (host_all ks.host)) ⟨s, List.mem_append.mpr (.inr List.mem_cons_self), rfl⟩
    refine (seq_to (put_ok (call_ok (args rfl (args rfl (args rfl (args rfl args0)))) rfl drop))).trans ?_
    unfold withNew
    simp only [of_decide_eq_false q, if_false]
    rw [List.eraseIdx_eq_take_drop_succ]
    generalize dropSpot l r (ss ++ [s]) (roundOf l s.host) = n
    have l1 : ((ss ++ [s]).take n).length ≤ ss.length + 1 := by rw [← ll]; exact List.length_take_le' ..
    have l2 : ((ss ++ [s]).drop (n + 1)).length ≤ ss.length + 1 := by rw [← ll, List.length_drop]; omega
    exact ret_ok (op_ok (sl_to (i := (n : Int)) rfl rfl (take_S _ n)) (sl_from (i := ((n + 1 : Nat) : Int)) rfl rfl (drop_S _ (n + 1))) (add_S _ _ (by omega)))
theorem cut_out {env : DL.Env} {m i : ME} {ss : List Slip} {n : Nat} (few : ss.length ≤ 400) (h : Tells env cc m (dSlips ss)) (hi : Tells env cc i (.int (n : Int))) : Tells env cc (mOp dAdd (mSl m oNone (oSome i)) (mSl m (oSome (mOp dAdd i (mC (.int 1)))) oNone)) (dSlips (ss.eraseIdx n)) := by
  have l1 : (ss.take n).length ≤ ss.length := List.length_take_le' ..
  have l2 : (ss.drop (n + 1)).length ≤ ss.length := by rw [List.length_drop]; omega
  rw [List.eraseIdx_eq_take_drop_succ]
  exact op_ok (sl_to h hi (take_S _ n)) (sl_from (i := ((n + 1 : Nat) : Int)) h (op_ok hi rfl rfl) (drop_S _ (n + 1))) (add_S _ _ (by omega))
theorem pair_tup {env : DL.Env} {m n : ME} {x y : D} (h : Tells env cc m x) (k : Tells env cc n y) : Tells env cc (mTup (mCons m (mCons n mNil))) (.tup [x, y]) := tup_ok (ds := [x, y]) (args h (args k args0)) (few_cap (show 2 ≤ 1000 by decide))
theorem s_put_in {l : Ld} {r : Rl} {st : Store} {house : Words} {closed : Bool} {s : Slip} (L : LdOk l) (k : RlOk r) (hs : ∀ x ∈ st.slips, SlipOk x) (few : st.slips.length ≤ 400) (hh : house.all okW = true) (ks : SlipOk s) :
    fn_put_in [.d (dLand l), .d (dRules r), .d (dStore st), .d (dDeed (.put house closed s))] cc = .ok (.d (dStore (Ty.putIn l r st house closed s))) cc := by
  refine fnOf_rt (n := 11) (b := fn_put_in_b) ok ((seq_to (asg_ok rfl rfl)).trans ((seq_to (asg_ok rfl rfl)).trans (seq_if (not_ok (t_ok (call_ok (args rfl (args rfl (args rfl (args rfl (args rfl args0))))) rfl (s_is_allowed ok L k hh ks)))) ?_ ?_ ⟨_, _, rfl⟩)))
  · intro q
    unfold Ty.putIn
    rw [if_pos q]
    rfl
  · intro q
    unfold Ty.putIn
    rw [if_neg (by rw [q]; exact Bool.false_ne_true)]
    refine (seq_to (put_ok (call_ok (args rfl (args rfl (args rfl args0))) rfl (s_found_at ok hs (by omega) ks)))).trans ?_
    cases f : foundAt r st.slips s with
    | none =>
      refine (seq_if_no (and_ok (a := false) (b := false) (t_ok (op_ok rfl rfl rfl)) (fun z => nomatch z))).trans (seq_if (t_ok (call_ok (args rfl (args rfl args0)) rfl (s_over_on ok (s := s) (day := st.day)))) ?_ ?_ ⟨_, _, rfl⟩)
      · intro o
        simp only [o, if_true]
        exact ret_ok (ifv_ok (a := true) (t_ok (op_ok rfl rfl rfl)) (fun _ => rfl) (fun z => nomatch z))
      · intro o
        simp only [o, Bool.false_eq_true, if_false]
        exact (seq_if_no (t_ok (op_ok rfl rfl rfl))).trans (ret_ok (pair_tup ok rfl (call_ok (args rfl (args rfl (args rfl (args rfl args0)))) rfl (s_with_new ok L k hs few ks))))
    | some n =>
      obtain ⟨x, ex, _⟩ := found_some f
      have kx := hs x (List.mem_of_getElem? ex)
      have lt := (List.getElem?_eq_some_iff.mp ex).1
      simp only [ex, Option.map_some, Option.getD_some]
      refine seq_if (and_ok (a := true) (t_ok (op_ok rfl rfl rfl)) fun _ => and_ok (t_ok (f_guarded (r := r) rfl)) fun _ => and_ok (closed_in ok kx (ix_ok rfl rfl (at_S ex))) fun _ => not_ok (t_ok (a := closed) rfl)) ?_ ?_ ⟨_, _, rfl⟩
      · intro g
        rw [Bool.true_and] at g
        rw [if_pos g]
        rfl
      · intro g
        rw [Bool.true_and] at g
        rw [if_neg (by rw [g]; exact Bool.false_ne_true)]
        refine seq_if (t_ok (call_ok (args rfl (args rfl args0)) rfl (s_over_on ok (s := s) (day := st.day)))) ?_ ?_ ⟨_, _, rfl⟩
        · intro o
          simp only [o, if_true]
          exact ret_ok (ifv_ok (a := false) (t_ok (op_ok rfl rfl rfl)) (fun z => nomatch z) fun _ => pair_tup ok rfl (cut_out ok (n := n) few rfl rfl))
        · intro o
          simp only [o, Bool.false_eq_true, if_false]
          exact seq_rt ((if_yes (t_ok (op_ok rfl rfl rfl))).trans (ret_ok (pair_tup ok rfl (call_ok (args rfl (args rfl (args rfl (args rfl args0)))) rfl (s_exchanged ok (by omega) lt)))))
theorem s_behind {l : Ld} {r : Rl} {st : Store} {d : Deed} (L : LdOk l) (k : RlOk r) (hs : ∀ x ∈ st.slips, SlipOk x) (few : st.slips.length ≤ 400) (kd : DeedOk d) :
    fn_behind [.d (dLand l), .d (dRules r), .d (dStore st), .d (dDeed d)] cc = .ok (.d (dStore (behind l r st d))) cc := by
  refine fnOf_rt (n := 6) (b := fn_behind_b) ok ?_
  cases d with
  | put h c s => exact seq_rt ((if_yes (t_ok (op_ok rfl rfl rfl))).trans (ret_ok (call_ok (args rfl (args rfl (args rfl (args rfl args0)))) rfl (s_put_in ok L k hs few (host_all kd.1) kd.2))))
  | wait n =>
    refine (seq_if_no (t_ok (op_ok rfl rfl rfl))).trans ((seq_to (put_ok (b2_ok (z := .int (if st.day + n < 9999 then st.day + n else 9999)) rfl rfl rfl))).trans (ret_ok ?_))
    show Tells _ _ _ (dStore ⟨if st.day + n < 9999 then st.day + n else 9999, st.slips.filter fun s => !overOn s (if st.day + n < 9999 then st.day + n else 9999)⟩)
    generalize (if st.day + n < 9999 then st.day + n else 9999) = day
    refine pair_tup ok rfl (b1_ok (x := .lst ((st.slips.filter fun s => !overOn s day).map dSlip)) ?_ rfl)
    refine lc_ty dSlip (fun s => !overOn s day) dSlip (it_ok (ix_ok (z := dSlips st.slips) rfl rfl rfl) rfl) (by omega) (by
      intro x mx
      exact ⟨_, rfl, not_ok (t_ok (call_ok (args rfl (args rfl args0)) rfl (s_over_on ok (s := x) (day := day)))), fun _ => rfl⟩)
end
end Lw
set_option Elab.async false
set_option linter.all false
set_option maxRecDepth 100000
set_option maxHeartbeats 3900000
/-! S6: stores and deeds looked at; rows of deeds. -/
namespace Lw
open PySem PySem.Spec PyProof.Rows L2 DL Ty
/-! ### keys as nested keys -/
def kW (xs : Words) : NestedKey := .tup (xs.map .text)
def kKey (r : Rl) (s : Slip) : NestedKey := if r.wideKey = true then .tup [.text s.name, kW s.host, .num (if s.wide = true then 1 else 0), kW s.path] else .tup [.text s.name, kW s.host, kW s.path]
theorem nks_words : ∀ xs : Words, nks (xs.map .str) = some (xs.map .text)
  | [] => rfl
  | x :: xs => by
    simp only [List.map_cons, nks, nk, nks_words xs]
theorem nk_W (xs : Words) : nk (dW xs) = some (kW xs) := by
  unfold dW
  simp only [nk, nks_words, Option.map_some]
  rfl
theorem nk_key (r : Rl) (s : Slip) : nk (dKey r s) = some (kKey r s) := by
  unfold dKey kKey
  split <;> simp only [nk, nks, nk_W, Option.map_some]
theorem depth_words : ∀ xs : Words, NestedKey.depthAll (xs.map .text) = 0
  | [] => rfl
  | x :: xs => by simp only [List.map_cons, NestedKey.depthAll, NestedKey.depth, depth_words xs, Nat.max_self]
theorem depth_W (xs : Words) : (kW xs).depth = 1 := by simp only [kW, NestedKey.depth, depth_words]
theorem depth_key (r : Rl) (s : Slip) : (kKey r s).depth ≤ 8 := by
  unfold kKey
  split <;> simp only [NestedKey.depth, NestedKey.depthAll, depth_W] <;> decide
theorem tk_key (r : Rl) (s : Slip) : tk (dKey r s) = some (kKey r s) := by
  have e : ∃ ds, dKey r s = .tup ds := by
    unfold dKey
    split
    · exact ⟨_, rfl⟩
    · exact ⟨_, rfl⟩
  obtain ⟨ds, e⟩ := e
  have n := nk_key r s
  rw [e] at n ⊢
  simp only [tk, n]
  exact if_pos (depth_key r s)
theorem tks_keys (r : Rl) : ∀ ss : List Slip, tks (ss.map (dKey r)) = some (ss.map (kKey r))
  | [] => rfl
  | s :: ss => by simp only [List.map_cons, tks, tk_key, tks_keys r ss]
theorem kW_inj {a b : Words} (h : kW a = kW b) : a = b := by
  have h2 : a.map NestedKey.text = b.map .text := by injection h
  exact (List.map_inj_right fun x y e => by injection e).mp h2
theorem key_same {r : Rl} {a b : Slip} (h : kKey r a = kKey r b) : sameKey r a b = true := by
  rw [sameKey_iff]
  unfold kKey at h
  split at h
  · rename_i w
    injection h with h
    injection h with h1 h
    injection h with h2 h
    injection h with h3 h
    injection h with h4 h
    injection h1 with h1
    refine ⟨h1, kW_inj h2, fun _ => ?_, kW_inj h4⟩
    injection h3 with h3
    revert h3
    cases a.wide <;> cases b.wide <;> simp
  · rename_i w
    injection h with h
    injection h with h1 h
    injection h with h2 h
    injection h with h3 h
    injection h1 with h1
    exact ⟨h1, kW_inj h2, fun z => absurd z w, kW_inj h3⟩
theorem foldN_all : ∀ {ks acc : List NestedKey}, (acc ++ ks).Nodup → ks.foldl addK acc = acc ++ ks
  | [], acc, _ => (List.append_nil acc).symm
  | k :: ks, acc, h => by
    have out : ¬ k ∈ acc := fun m => (List.nodup_append.mp h).2.2 k m k List.mem_cons_self rfl
    rw [List.foldl_cons]
    unfold addK
    rw [if_neg out]
    have e : acc ++ k :: ks = (acc ++ [k]) ++ ks := by simp
    rw [e] at h
    rw [e]
    exact foldN_all h
theorem lk_ok {env : DL.Env} {cc : Cs} {g : D → D → Option D} {m n : ME} {ds : List D} {y z : D} (h : Tells env cc m (.lst ds)) (k : Tells env cc n y) (q : g (.lst ds) y = some z) : Tells env cc (mLk g m n) z := by
  unfold Tells mLk
  rw [h]
  simp only [R.bind, isLstD, see, if_true]
  rw [k]
  simp only [R.bind, see, q]
theorem cks_any {hs : List Words} (h : ∀ x ∈ hs, x.all okW = true) (n : Nat) : cks (hs.map dW) (n + 1) = true := by
  induction hs with
  | nil => rfl
  | cons x xs ih =>
    simp only [List.map_cons, cks, Bool.and_eq_true]
    exact ⟨ck_W (h x List.mem_cons_self) n, ih fun y m => h y (List.mem_cons_of_mem _ m)⟩
theorem count_W {hs : List Words} {h : Words} (a : ∀ x ∈ hs, x.all okW = true) (b : h.all okW = true) : gCount (.lst (hs.map dW)) (dW h) = some (.int ((hs.countP fun z => eqH z h : Nat) : Int)) := by
  have c : cmpD (.lst (hs.map dW)) = true := by
    show (Nat.blt 0 64 && cks (hs.map dW) 63) = true
    rw [cks_any a 62]
    rfl
  show (if cmpD (.lst (hs.map dW)) = true ∧ cmpD (dW h) = true then some (D.int (((hs.map dW).countP fun z => eqD z (dW h) : Nat) : Int)) else none) = _
  rw [if_pos ⟨c, cmp_W b⟩, List.countP_map]
  congr 4
  funext z
  exact eqD_W z h
section
variable {cc : Cs} (ok : okBelow cc.length cc = true)
include ok
theorem s_are_kept {l : Ld} {r : Rl} {ss : List Slip} (L : LdOk l) (few : ss.length ≤ 400) (k : Kept l r ss) : fn_are_kept [.d (dLand l), .d (dRules r), .d (dSlips ss)] cc = .ok (.d (.bl true)) cc := by
  have keys : Tells (env0 7 [.d (dLand l), .d (dRules r), .d (dSlips ss)]) cc (mDcN (mIt (mVar 2)) [5] (gvName 5) tvYes (mMeth "Rules" "plain_key" fn_Rules_plain_key 2 (mVar 1) (mCons (mVar 5) mNil) [])) (.dkn ss.length) := by
    refine comp_ty dSlip (fun _ => true) (fun s => [dKey r s]) (it_ok (x := dSlips ss) rfl rfl) (fun s _ => ⟨_, rfl, rfl, fun _ => key_ok (me_key (r := r) rfl (args rfl args0) (s_plain_key ok))⟩) ?_
    rw [List.filter_eq_self.mpr fun _ _ => rfl]
    have e : (ss.flatMap fun s => [dKey r s]) = ss.map (dKey r) := by
      clear k few
      induction ss with
      | nil => rfl
      | cons a b ih => rw [List.flatMap_cons, ih]; rfl
    rw [e]
    unfold dnOf
    rw [if_pos (by rw [List.length_map]; exact few_cap (by omega)), tks_keys]
    have once : ([] ++ ss.map (kKey r)).Nodup := by
      rw [List.nil_append]
      refine List.pairwise_map.mpr (k.keys.imp fun {a b} h e => ?_)
      rw [key_same e] at h
      cases h
    have f : foldN (ss.map (kKey r)) = ss.map (kKey r) := foldN_all once
    simp only [f, List.length_map]
  refine fnOf_rt (n := 7) (b := fn_are_kept_b) ok ((seq_to (put_ok keys)).trans ((seq_if_no (t_ok (op_ok (b1_ok (x := .dkn ss.length) rfl rfl) (b1_ok (x := dSlips ss) rfl (len_T dSlip ss)) ?_))).trans ?_))
  · show some (D.bl (decide ((ss.length : Int) < (ss.length : Int)))) = some (.bl false)
    rw [decide_eq_false (Int.lt_irrefl _)]
  · have lc := lc_all (env := (env0 7 [.d (dLand l), .d (dRules r), .d (dSlips ss)]).set 3 (some (.d (.dkn ss.length)))) (cc := cc) (mi := mIt (mVar 2)) (vs := [5]) (G := gvName 5) (m := mMeth "Land" "round_of" fn_Land_round_of 2 (mVar 0) (mCons (mIx (mVar 5) (mC (.int 2))) mNil) []) (xs := ss) dSlip (fun s => dW (roundOf l s.host)) (it_ok (x := dSlips ss) rfl rfl) (by omega) (fun s m => ⟨_, rfl, me_round (l := l) rfl (args rfl args0) (s_round ok L (k.slips s m).host)⟩)
    have e : (ss.map fun s => dW (roundOf l s.host)) = (ss.map fun s => roundOf l s.host).map dW := by
      rw [List.map_map]
      rfl
    rw [e] at lc
    refine (seq_to (put_ok lc)).trans (ret_ok ?_)
    have good : ∀ x ∈ ss.map fun s => roundOf l s.host, x.all okW = true := by
      intro x m
      obtain ⟨s, ms, rfl⟩ := List.mem_map.mp m
      exact round_all (host_all (k.slips s ms).host)
    have all := all_ty (env := ((env0 7 [.d (dLand l), .d (dRules r), .d (dSlips ss)]).set 3 (some (.d (.dkn ss.length)))).set 4 (some (.d (.lst ((ss.map fun s => roundOf l s.host).map dW))))) (cc := cc) (mi := mIt (mVar 4)) (vs := [6]) (G := gvName 6) (m := mOp dLe (mLk gCount (mVar 4) (mVar 6)) (mFld "Rules" "most" (mVar 1))) (xs := ss.map fun s => roundOf l s.host) dW (fun _ => true) rfl (by rw [List.length_map]; omega) (by
      intro x m
      refine ⟨_, rfl, op_ok (lk_ok rfl rfl (count_W good (good x m))) (f_most (r := r) rfl) ?_⟩
      obtain ⟨s, ms, rfl⟩ := List.mem_map.mp m
      rw [List.countP_map]
      exact congrArg some (congrArg D.bl (decide_eq_true (k.rounds s ms))))
    have t : ((ss.map fun s => roundOf l s.host).all fun _ => true) = true := by simp
    rw [t] at all
    exact all
theorem s_is_store {l : Ld} {r : Rl} {st : Store} (L : LdOk l) (few : st.slips.length ≤ 400) (k : StoreOk l r st) : fn_is_store [.d (dLand l), .d (dRules r), .d (dStore st)] cc = .ok (.d (.bl true)) cc := by
  refine fnOf_rt (n := 6) (b := fn_is_store_b) ok ((seq_if_no (or_ok (a := false) (b := false) rfl fun _ => or_ok (a := false) (b := false) rfl fun _ => not_ok (t_ok (call_ok (args rfl (args rfl (args rfl args0))) rfl (s_is_number ok k.day.1 k.day.2))))).trans ((seq_to (asg_ok rfl rfl)).trans ((seq_if_no (or_ok (a := false) (b := false) rfl fun _ => not_ok (a := true) (t_ok ?_))).trans (ret_ok (call_ok (args rfl (args rfl (args rfl args0))) rfl (s_are_kept ok L few k.kept))))))
  have all := all_ty (env := [some (.d (dLand l)), some (.d (dRules r)), some (.d (dStore st)), some (.d (.int st.day)), some (.d (dSlips st.slips)), none]) (cc := cc) (mi := mIt (mVar 4)) (vs := [5]) (G := gvName 5) (m := mAndV (mCall fn_is_slip 1 (mCons (mVar 5) mNil) []) (mOfT (mNot (mT (mCall fn_over_on 2 (mCons (mVar 5) (mCons (mVar 3) mNil)) []))))) (xs := st.slips) dSlip (fun _ => true) (it_ok (x := dSlips st.slips) rfl rfl) (by omega) (by
    intro x m
    have o := t_ok (call_ok (args rfl (args rfl args0)) rfl (s_over_on ok (s := x) (day := st.day))) (env := [some (.d (dLand l)), some (.d (dRules r)), some (.d (dStore st)), some (.d (.int st.day)), some (.d (dSlips st.slips)), some (.d (dSlip x))]) (m := mCall fn_over_on 2 (mCons (mVar 5) (mCons (mVar 3) mNil)) [])
    rw [k.live x m] at o
    exact ⟨_, rfl, andv_ok (a := true) (b := true) (call1 rfl (s_is_slip ok (okSlip_of (k.kept.slips x m)))) fun _ => oft_ok (not_ok o)⟩)
  have t : (st.slips.all fun _ => true) = true := by simp
  rw [t] at all
  exact all
end
end Lw
set_option Elab.async false
set_option linter.all false
set_option maxRecDepth 100000
set_option maxHeartbeats 3900000
/-! S7: rows of deeds. -/
namespace Lw
open PySem PySem.Spec PyProof.Rows L2 DL Ty
theorem for_all {α : Type} {G : Tg} {b : MS} {cc : Cs} (e : α → D) (I : DL.Env → Prop) : ∀ {xs : List α} {env : DL.Env}, I env → (∀ x ∈ xs, ∀ env, I env → ∃ e1 e2, G (.d (e x)) env cc = some e1 ∧ b e1 cc = .nx e2 cc ∧ I e2) → ∃ env', I env' ∧ forL G b (xs.map e) env cc = .nx env' cc
  | [], env, i, _ => ⟨env, i, rfl⟩
  | x :: xs, env, i, h => by
    obtain ⟨e1, e2, g, r, i2⟩ := h x List.mem_cons_self env i
    obtain ⟨e3, i3, r3⟩ := for_all e I i2 fun y m => h y (List.mem_cons_of_mem _ m)
    refine ⟨e3, i3, ?_⟩
    rw [List.map_cons, forL, g]
    simp only
    rw [r]
    exact r3
theorem for_ok {env env' : DL.Env} {cc : Cs} {mi : DL.Env → M (List D)} {G : Tg} {b : MS} {xs : List D} (h : mi env cc = .ok xs cc) (r : forL G b xs env cc = .nx env' cc) : sFor mi G b env cc = .nx env' cc := by
  unfold sFor
  rw [h]
  exact r
section
variable {cc : Cs} (ok : okBelow cc.length cc = true)
include ok
theorem s_is_put {h : Words} {c : Bool} {s : Slip} (kh : okHost h = true) (ks : SlipOk s) : fn_is_put [.d (dDeed (.put h c s))] cc = .ok (.d (.bl true)) cc := by
  refine fnOf_rt (n := 1) (b := fn_is_put_b) ok ((seq_if_no (or_ok (a := false) (b := false) rfl fun _ => or_ok (a := false) (b := false) rfl fun _ => t_ok (op_ok rfl rfl rfl))).trans (ret_ok ?_))
  exact andv_ok (a := true) (b := true) (call1 rfl (s_is_host ok kh)) fun _ => andv_ok (a := true) (b := true) rfl fun _ => call1 rfl (s_is_slip ok (okSlip_of ks))
theorem s_is_deed {d : Deed} (k : DeedOk d) : fn_is_deed [.d (dDeed d)] cc = .ok (.d (.bl true)) cc := by
  refine fnOf_rt (n := 1) (b := fn_is_deed_b) ok ?_
  cases d with
  | put h c s => exact (seq_if_no (or_ok (a := false) (b := false) rfl fun _ => or_ok (a := false) (b := false) rfl fun _ => rfl)).trans ((seq_if_no (t_ok (op_ok rfl rfl rfl))).trans (ret_ok (call1 rfl (s_is_put ok k.1 k.2))))
  | wait n => exact (seq_if_no (or_ok (a := false) (b := false) rfl fun _ => or_ok (a := false) (b := false) rfl fun _ => rfl)).trans (seq_rt ((if_yes (t_ok (op_ok rfl rfl rfl))).trans (ret_ok (andv_ok (a := true) (b := true) (op_ok rfl rfl rfl) fun _ => call_ok (args rfl (args rfl (args rfl args0))) rfl (s_is_number ok k.1 k.2)))))
theorem s_look_store {l : Ld} {r : Rl} {st : Store} (L : LdOk l) (few : st.slips.length ≤ 400) (k : StoreOk l r st) : ∃ w, fn_look_at_store [.d (dLand l), .d (dRules r), .d (dStore st)] cc = .ok w cc :=
  ⟨_, fnOf_nx (n := 3) (b := fn_look_at_store_b) ok (if_no (not_ok (a := true) (t_ok (call_ok (args rfl (args rfl (args rfl args0))) rfl (s_is_store ok L few k)))))⟩
theorem s_look_deeds {ds : List Deed} (k : ∀ d ∈ ds, DeedOk d) : ∃ w, fn_look_at_deeds [.d (.lst (ds.map dDeed))] cc = .ok w cc := by
  obtain ⟨env', _, run⟩ := for_all (G := gvName 1) (b := sIf (mNot (mT (mCall fn_is_deed 1 (mCons (mVar 1) mNil) []))) sStuck sNext) (cc := cc) (xs := ds) (env := env0 2 [.d (.lst (ds.map dDeed))]) dDeed (fun env => ∃ o, env = [some (.d (.lst (ds.map dDeed))), o]) ⟨_, rfl⟩ (by
    rintro d md env ⟨o, rfl⟩
    exact ⟨_, _, rfl, if_no (not_ok (a := true) (t_ok (call1 rfl (s_is_deed ok (k d md))))), ⟨_, rfl⟩⟩)
  exact ⟨_, fnOf_nx (n := 2) (b := fn_look_at_deeds_b) ok ((seq_if_no (not_ok (a := true) (t_ok (call1 (w2 := .d (.lst (ds.map dDeed))) rfl (fnOf_rt (n := 1) (b := fn_is_row_b) ok rfl))))).trans (for_ok rfl run))⟩
theorem after_loop {l : Ld} {r : Rl} {x : D} (L : LdOk l) (k : RlOk r) : ∀ {ds : List Deed} {st : Store} {o : Option W}, (∀ d ∈ ds, DeedOk d) → StoreOk l r st → st.slips.length + ds.length ≤ 400 →
    ∃ o', forL (gvName 4) (sSet 2 (mCall fn_behind 4 (mCons (mVar 0) (mCons (mVar 1) (mCons (mVar 2) (mCons (mVar 4) mNil)))) [])) (ds.map dDeed) [some (.d (dLand l)), some (.d (dRules r)), some (.d (dStore st)), some (.d x), o] cc = .nx [some (.d (dLand l)), some (.d (dRules r)), some (.d (dStore (afterAll l r st ds))), some (.d x), o'] cc
  | [], st, o, _, _, _ => ⟨o, rfl⟩
  | d :: ds, st, o, kd, S, few => by
    rw [List.length_cons] at few
    have len := behind_len (l := l) (r := r) (st := st) (d := d)
    obtain ⟨o', run⟩ := after_loop (x := x) L k (ds := ds) (st := behind l r st d) (o := some (.d (dDeed d))) (fun e m => kd e (List.mem_cons_of_mem _ m)) (behind_ok S k.low (kd d List.mem_cons_self)) (by omega)
    refine ⟨o', ?_⟩
    have one : (sSet 2 (mCall fn_behind 4 (mCons (mVar 0) (mCons (mVar 1) (mCons (mVar 2) (mCons (mVar 4) mNil)))) [])) [some (.d (dLand l)), some (.d (dRules r)), some (.d (dStore st)), some (.d x), some (.d (dDeed d))] cc = .nx [some (.d (dLand l)), some (.d (dRules r)), some (.d (dStore (behind l r st d))), some (.d x), some (.d (dDeed d))] cc :=
      put_ok (call_ok (args rfl (args rfl (args rfl (args rfl args0)))) rfl (s_behind ok L k S.kept.slips (by omega) (kd d List.mem_cons_self)))
    rw [List.map_cons, forL]
    show (match (sSet 2 (mCall fn_behind 4 (mCons (mVar 0) (mCons (mVar 1) (mCons (mVar 2) (mCons (mVar 4) mNil)))) [])) [some (.d (dLand l)), some (.d (dRules r)), some (.d (dStore st)), some (.d x), some (.d (dDeed d))] cc with
      | .nx e c => forL (gvName 4) (sSet 2 (mCall fn_behind 4 (mCons (mVar 0) (mCons (mVar 1) (mCons (mVar 2) (mCons (mVar 4) mNil)))) [])) (ds.map dDeed) e c
      | .ct e c => forL (gvName 4) (sSet 2 (mCall fn_behind 4 (mCons (mVar 0) (mCons (mVar 1) (mCons (mVar 2) (mCons (mVar 4) mNil)))) [])) (ds.map dDeed) e c
      | .bk e c => SR.nx e c
      | .rt w c => .rt w c
      | .raise x e c => .raise x e c
      | .stuck => .stuck) = _
    rw [one]
    exact run
theorem s_after_all {l : Ld} {r : Rl} {st : Store} {ds : List Deed} (L : LdOk l) (k : RlOk r) (S : StoreOk l r st) (kd : ∀ d ∈ ds, DeedOk d) (few : st.slips.length + ds.length ≤ 400) :
    fn_after_all [.d (dLand l), .d (dRules r), .d (dStore st), .d (.lst (ds.map dDeed))] cc = .ok (.d (dStore (afterAll l r st ds))) cc := by
  obtain ⟨w1, look1⟩ := s_look_store ok L (by omega) S
  obtain ⟨w2, look2⟩ := s_look_deeds ok kd
  obtain ⟨o', loop⟩ := after_loop ok (x := .lst (ds.map dDeed)) (o := none) L k kd S few
  exact fnOf_rt (n := 5) (b := fn_after_all_b) ok ((seq_to (exp_ok (call_ok (args rfl (args rfl (args rfl args0))) rfl look1))).trans ((seq_to (exp_ok (call1 rfl look2))).trans ((seq_to (for_ok (it_ok rfl rfl) loop)).trans (ret_ok rfl))))
end
end Lw
set_option Elab.async false
set_option linter.all false
set_option maxRecDepth 100000
set_option maxHeartbeats 3900000
/-! LR: lands and rules made. -/
namespace Lw
open PySem PySem.Spec PyProof.Rows L2 DL Ty
theorem chain_ok {env : DL.Env} {cc : Cs} {g g' : D → D → Option D} {m n k : ME} {x y z r : D} (h : Tells env cc m x) (h2 : Tells env cc n y) (h3 : Tells env cc k z) (q : g x y = some (.bl true)) (q2 : g' y z = some r) : Tells env cc (mChain g g' m n k) r := by
  unfold Tells mChain
  rw [h]
  simp only [R.bind]
  rw [h2]
  simp only [see, q]
  rw [h3]
  simp only [q2]
theorem at_end {cc : Cs} {c : C} : (cc ++ [some c])[cc.length]? = some (some c) := by
  rw [List.getElem?_append_right (Nat.le_refl _), Nat.sub_self]
  rfl
theorem set_end {cc : Cs} {c : C} {o : Option C} : (cc ++ [some c]).set cc.length o = cc ++ [o] := by
  rw [List.set_append_right _ _ (Nat.le_refl _), Nat.sub_self]
  rfl
theorem fset_ok {env : DL.Env} {cc : Cs} {c f : PySem.Str} {mv mo : ME} {w : W} {ns ns' : List PySem.Str} {ws ws' : List W} (h : mv env (cc ++ [some (.obj c ns ws)]) = .ok w (cc ++ [some (.obj c ns ws)])) (ho : mo env (cc ++ [some (.obj c ns ws)]) = .ok (.cell cc.length) (cc ++ [some (.obj c ns ws)])) (few : ns.length < 1000) (q : putS f w ns ws = (ns', ws')) :
    sFldSet c f mv mo env (cc ++ [some (.obj c ns ws)]) = .nx env (cc ++ [some (.obj c ns' ws')]) := by
  have e : eqS c c = true := eqS_iff.mpr rfl
  unfold sFldSet
  rw [h]
  simp only [R.thenS]
  rw [ho]
  simp only [at_end, e, few, and_self, if_true, set_end, q]
theorem below_more {n : Nat} {c : C} : ∀ {cs : Cs}, okBelow n cs = true → okBelow (n + 1) [some c] = true → okBelow (n + 1) (cs ++ [some c]) = true
  | [], _, h => h
  | none :: cs, h, k => below_more (cs := cs) h k
  | some (.lst _) :: cs, h, k => below_more (cs := cs) h k
  | some (.dct _ ws) :: cs, h, k => by
    have q := Bool.and_eq_true_iff.mp h
    refine Bool.and_eq_true_iff.mpr ⟨?_, below_more (cs := cs) q.2 k⟩
    rw [List.all_eq_true] at q ⊢
    intro w mw
    have one := q.1 w mw
    cases w with
    | d _ => rfl
    | cell j => exact decide_eq_true (Nat.lt_succ_of_lt (of_decide_eq_true one))
  | some (.obj _ _ ws) :: cs, h, k => by
    have q := Bool.and_eq_true_iff.mp h
    refine Bool.and_eq_true_iff.mpr ⟨?_, below_more (cs := cs) q.2 k⟩
    rw [List.all_eq_true] at q ⊢
    intro w mw
    have one := q.1 w mw
    cases w with
    | d _ => rfl
    | cell j => exact decide_eq_true (Nat.lt_succ_of_lt (of_decide_eq_true one))
section
variable {cc : Cs} (ok : okBelow cc.length cc = true)
include ok
theorem s_are_hosts {lo hi : Nat} {hs : List Words} (good : hs.all okHost = true) (once : hs.Nodup) (h1 : lo ≤ hs.length) (h2 : hs.length ≤ hi) (few : hi ≤ 1000) : fn_are_hosts [.d (.lst (hs.map dW)), .d (.int lo), .d (.int hi)] cc = .ok (.d (.bl true)) cc := by
  have row : fn_is_row [.d (.lst (hs.map dW))] cc = .ok (.d (.bl true)) cc := fnOf_rt (n := 1) (b := fn_is_row_b) ok rfl
  have t1 : dLe (.int (lo : Int)) (.int (hs.length : Int)) = some (.bl true) := congrArg some (congrArg D.bl (decide_eq_true (by omega)))
  have t2 : dLe (.int (hs.length : Int)) (.int (hi : Int)) = some (.bl true) := congrArg some (congrArg D.bl (decide_eq_true (by omega)))
  have all := all_ty (env := env0 4 [.d (.lst (hs.map dW)), .d (.int (lo : Int)), .d (.int (hi : Int))]) (cc := cc) (mi := mIt (mVar 0)) (vs := [3]) (G := gvName 3) (m := mCall fn_is_host 1 (mCons (mVar 3) mNil) []) (xs := hs) dW (fun _ => true) rfl (by omega) (fun h m => ⟨_, rfl, call1 rfl (s_is_host ok (List.all_eq_true.mp good h m))⟩)
  have t : (hs.all fun _ => true) = true := by simp
  rw [t] at all
  have keys : Tells (env0 4 [.d (.lst (hs.map dW)), .d (.int (lo : Int)), .d (.int (hi : Int))]) cc (mDcN (mIt (mVar 0)) [3] (gvName 3) tvYes (mVar 3)) (.dkn hs.length) := by
    refine comp_ty dW (fun _ => true) (fun h => [dW h]) rfl (fun h _ => ⟨_, rfl, rfl, fun _ => key_ok rfl⟩) ?_
    rw [List.filter_eq_self.mpr fun _ _ => rfl]
    have e : (hs.flatMap fun h => [dW h]) = hs.map dW := by
      clear t all once good h1 h2 t1 t2 row
      induction hs with
      | nil => rfl
      | cons a b ih => rw [List.flatMap_cons, ih]; rfl
    rw [e]
    unfold dnOf
    have tkW : ∀ h : Words, tk (dW h) = some (kW h) := by
      intro h
      have n := nk_W h
      have dp : (kW h).depth ≤ 8 := by rw [depth_W]; decide
      unfold dW at n ⊢
      simp only [tk, n]
      exact if_pos dp
    have all_k : ∀ hs : List Words, tks (hs.map dW) = some (hs.map kW) := by
      intro hs
      induction hs with
      | nil => rfl
      | cons a b ih => simp only [List.map_cons, tks, tkW, ih]
    rw [if_pos (by rw [List.length_map]; exact few_cap (by omega)), all_k]
    have nd : ([] ++ hs.map kW).Nodup := by
      rw [List.nil_append]
      exact List.pairwise_map.mpr (once.imp fun {a b} ne e => ne (kW_inj e))
    have f : foldN (hs.map kW) = hs.map kW := foldN_all nd
    simp only [f, List.length_map]
  refine fnOf_rt (n := 4) (b := fn_are_hosts_b) ok ((seq_if_no (or_ok (a := false) (b := false) (not_ok (a := true) (t_ok (call1 rfl row))) fun _ => or_ok (a := false) (b := false) (not_ok (a := true) (t_ok (chain_ok rfl (b1_ok rfl (len_L dW hs)) rfl t1 t2))) fun _ => not_ok (a := true) (t_ok all))).trans (ret_ok (op_ok (b1_ok keys rfl) (b1_ok rfl (len_L dW hs)) ?_)))
  show some (D.bl (decide ((hs.length : Int) = (hs.length : Int)))) = some (.bl true)
  rw [decide_eq_true rfl]
theorem s_land {env : DL.Env} {r : DL.Env → M (List W)} {c0 : Cs} {l : Ld} (h : r env c0 = .ok [.d (.lst (l.houses.map dW)), .d (.lst (l.common.map dW))] cc) (L : LdOk l) (n1 : l.houses.Nodup) (n2 : l.common.Nodup) (h1 : 1 ≤ l.houses.length) (h2 : l.houses.length ≤ 6) (h3 : l.common.length ≤ 4) :
    mMake "Land" false fn_Land_init 3 r [] env c0 = .ok (.d (dLand l)) cc := by
  have lenO : (cc ++ [some (C.obj "Land" [] [])]).length = cc.length + 1 := by simp
  have ok2 : okBelow (cc ++ [some (C.obj "Land" [] [])]).length (cc ++ [some (C.obj "Land" [] [])]) = true := by
    rw [lenO]
    exact below_more ok rfl
  have a1 := s_are_hosts ok2 (lo := 1) (hi := 6) L.houses n1 h1 h2 (by decide)
  have a2 := s_are_hosts ok2 (lo := 0) (hi := 4) L.common n2 (Nat.zero_le _) h3 (by decide)
  have init : fn_Land_init [.cell cc.length, .d (.lst (l.houses.map dW)), .d (.lst (l.common.map dW))] (cc ++ [some (.obj "Land" [] [])]) = .ok (.d .non) (cc ++ [some (.obj "Land" ["own_houses", "own_common"] [.d (.lst (l.houses.map dW)), .d (.lst (l.common.map dW))])]) := by
    have body : fn_Land_init_b (env0 3 [.cell cc.length, .d (.lst (l.houses.map dW)), .d (.lst (l.common.map dW))]) (cc ++ [some (.obj "Land" [] [])]) = .nx (env0 3 [.cell cc.length, .d (.lst (l.houses.map dW)), .d (.lst (l.common.map dW))]) (cc ++ [some (.obj "Land" ["own_houses", "own_common"] [.d (.lst (l.houses.map dW)), .d (.lst (l.common.map dW))])]) :=
      (seq_if_no (not_ok (a := true) (t_ok (call_ok (args rfl (args rfl (args rfl args0))) rfl a1)))).trans ((seq_if_no (not_ok (a := true) (t_ok (call_ok (args rfl (args rfl (args rfl args0))) rfl a2)))).trans ((seq_to (fset_ok (ns' := ["own_houses"]) (ws' := [.d (.lst (l.houses.map dW))]) (b1_ok (x := .lst (l.houses.map dW)) rfl rfl) rfl (by decide) rfl)).trans (fset_ok (b1_ok (x := .lst (l.common.map dW)) rfl rfl) rfl (by decide) rfl)))
    unfold fn_Land_init fnOf
    rw [body]
    simp only [endFn, cut, lenO]
    rw [List.take_of_length_le (Nat.le_of_eq (by simp))]
    exact if_pos ⟨below_more ok rfl, rfl⟩
  unfold mMake
  rw [h]
  simp only [R.bind, List.append_nil]
  rw [init]
  have three : ([.cell cc.length, .d (.lst (l.houses.map dW)), .d (.lst (l.common.map dW))] : List W).length = 3 := rfl
  simp only [three, if_true]
  show mkEnd cc.length false (.d .non) (cc ++ [some (.obj "Land" ["own_houses", "own_common"] [.d (.lst (l.houses.map dW)), .d (.lst (l.common.map dW))])]) = _
  unfold mkEnd
  simp only [frz, at_end, set_end, frzL, frz0, Bool.false_eq_true, if_false, cut]
  have tk : (cc ++ [none]).take cc.length = cc := by simp
  rw [tk]
  exact if_pos ⟨ok, rfl⟩
def dctR (r : Rl) : D := .dct [.str "most", .str "wide_key", .str "renewed", .str "guarded", .str "drop", .str "first", .str "names"] [.int r.most, .bl r.wideKey, .bl r.renewed, .bl r.guarded, .str r.drop, .str r.first, dNames r.names]
theorem s_one_of {x : PySem.Str} {xs : Words} (hx : okW x = true) (h : xs.all okW = true) (m : (xs.any fun y => eqS y x) = true) : fn_is_one_of [.d (.str x), .d (dW xs)] cc = .ok (.d (.bl true)) cc := by
  have q := andv_ok (env := env0 2 [.d (.str x), .d (dW xs)]) (cc := cc) (a := true) (m := mB dIsi (mCons (mVar 0) (mCons (mC (.ty "str")) mNil))) (n := mOp dIn (mVar 0) (mVar 1)) rfl (fun _ => op_ok rfl rfl (in_words ok hx h))
  rw [m] at q
  exact fnOf_rt (n := 2) (b := fn_is_one_of_b) ok (ret_ok q)
theorem s_are_names {ns : List (PySem.Str × Words)} (h : ∀ p ∈ ns, okW p.1 = true ∧ okOf condsW p.2 = true) (some1 : ∀ p ∈ ns, p.2 ≠ []) (few : ns.length ≤ 6) : fn_are_names [.d (dNames ns)] cc = .ok (.d (.bl true)) cc := by
  have row : fn_is_row [.d (dNames ns)] cc = .ok (.d (.bl true)) cc := fnOf_rt (n := 1) (b := fn_is_row_b) ok rfl
  have t1 : dLe (.int (ns.length : Int)) c_MOST_NAMES = some (.bl true) := congrArg some (congrArg D.bl (decide_eq_true (show (ns.length : Int) ≤ 6 by omega)))
  have one : ∀ p ∈ ns, fn_is_name_rule [.d (.tup [.str p.1, dW p.2])] cc = .ok (.d (.bl true)) cc := by
    intro p m
    have aw := of_all conds_words (h p m).2
    have ne : (!p.2.isEmpty) = true := by
      cases q : p.2 with
      | nil => exact absurd q (some1 p m)
      | cons a b => rfl
    have q := ne_path aw
    rw [ne] at q
    exact fnOf_rt (n := 1) (b := fn_is_name_rule_b) ok ((seq_if_no (or_ok (a := false) (b := false) rfl fun _ => or_ok (a := false) (b := false) rfl fun _ => not_ok (a := true) (t_ok (call1 (w2 := .d (.str p.1)) rfl (s_is_word (h p m).1 cc))))).trans (ret_ok (andv_ok (a := true) (b := true) (call_ok (args (w := .d (dW p.2)) rfl (args (w := .d (dW condsW)) rfl args0)) rfl (s_are_of ok (ws := condsW) conds_words (by decide) (h p m).2)) fun _ => op_ok (x := dW p.2) rfl (tup_ok (ds := []) rfl (Nat.zero_le _)) q)))
  have all := all_ty (env := env0 2 [.d (dNames ns)]) (cc := cc) (mi := mIt (mVar 0)) (vs := [1]) (G := gvName 1) (m := mCall fn_is_name_rule 1 (mCons (mVar 1) mNil) []) (xs := ns) (fun p : PySem.Str × Words => D.tup [.str p.1, dW p.2]) (fun _ => true) rfl (by omega) (fun p m => ⟨_, rfl, call1 rfl (one p m)⟩)
  have t : (ns.all fun _ => true) = true := by simp
  rw [t] at all
  exact fnOf_rt (n := 2) (b := fn_are_names_b) ok (ret_ok (andv_ok (a := true) (b := true) (call1 rfl row) fun _ => andv_ok (a := true) (b := true) (op_ok (b1_ok (x := dNames ns) rfl (len_T (fun p : PySem.Str × Words => D.tup [.str p.1, dW p.2]) ns)) rfl t1) fun _ => all))
def dropsW : Words := ["eldest", "plain"]
def firstsW : Words := ["elder", "younger"]
theorem s_look_parts {r : Rl} (k : RlOk r) (some1 : ∀ p ∈ r.names, p.2 ≠ []) : ∃ w, fn_look_at_parts [.d (dctR r)] cc = .ok w cc := by
  have d1 : okW r.drop = true := by rcases k.drop with e | e <;> rw [e] <;> decide +kernel
  have f1 : okW r.first = true := by rcases k.first with e | e <;> rw [e] <;> decide +kernel
  have d2 : (dropsW.any fun y => eqS y r.drop) = true := by rcases k.drop with e | e <;> rw [e] <;> decide +kernel
  have f2 : (firstsW.any fun y => eqS y r.first) = true := by rcases k.first with e | e <;> rw [e] <;> decide +kernel
  have loop : (sFor (mIt (mSl (mC c_PARTS) (oSome (mC (.int 1))) (oSome (mC (.int 4))))) (gvName 1) (sIf (mNot (mT (mB dIsi (mCons (mIx (mVar 0) (mVar 1)) (mCons (mC (.ty "bool")) mNil))))) sStuck sNext)) (env0 2 [.d (dctR r)]) cc = .nx [some (.d (dctR r)), some (.d (.str "guarded"))] cc := rfl
  refine ⟨_, fnOf_nx (n := 2) (b := fn_look_at_parts_b) ok ((seq_if_no (not_ok (a := true) (t_ok (call_ok (args (w := .d (.int r.most)) rfl (args rfl (args rfl args0))) rfl (s_is_number ok k.low k.high))))).trans ((seq_to loop).trans ((seq_if_no (not_ok (a := true) (t_ok (call_ok (args (w := .d (.str r.drop)) rfl (args (w := .d (dW dropsW)) rfl args0)) rfl (s_one_of ok d1 (by decide +kernel) d2))))).trans ((seq_if_no (not_ok (a := true) (t_ok (call_ok (args (w := .d (.str r.first)) rfl (args (w := .d (dW firstsW)) rfl args0)) rfl (s_one_of ok f1 (by decide +kernel) f2))))).trans (if_no (not_ok (a := true) (t_ok (call1 (w2 := .d (dNames r.names)) rfl (s_are_names ok k.names some1 k.few))))))))) ⟩
theorem s_rules_init {r : Rl} (k : RlOk r) (some1 : ∀ p ∈ r.names, p.2 ≠ []) : ∃ ns ws, fn_Rules_init [.cell cc.length, .d (.int r.most), .d (.bl r.wideKey), .d (.bl r.renewed), .d (.bl r.guarded), .d (.str r.drop), .d (.str r.first), .d (dNames r.names)] (cc ++ [some (.obj "Rules" [] [])]) = .ok (.d .non) (cc ++ [some (.obj "Rules" ns (ws.map .d))]) ∧ D.obj "Rules" ns ws = dRules r := by
  have lenO : (cc ++ [some (C.obj "Rules" [] [])]).length = cc.length + 1 := by simp
  have ok2 : okBelow (cc ++ [some (C.obj "Rules" [] [])]).length (cc ++ [some (C.obj "Rules" [] [])]) = true := by
    rw [lenO]
    exact below_more ok rfl
  obtain ⟨w, look⟩ := s_look_parts ok2 k some1
  refine ⟨_, _, ?_, show D.obj "Rules" ["most", "wide_key", "renewed", "guarded", "drop", "first", "names", "record"] [.int r.most, .bl r.wideKey, .bl r.renewed, .bl r.guarded, .str r.drop, .str r.first, dNames r.names, .tup [.int r.most, .bl r.wideKey, .bl r.renewed, .bl r.guarded, .str r.drop, .str r.first, dNames r.names]] = dRules r from rfl⟩
  have body : fn_Rules_init_b (env0 8 [.cell cc.length, .d (.int r.most), .d (.bl r.wideKey), .d (.bl r.renewed), .d (.bl r.guarded), .d (.str r.drop), .d (.str r.first), .d (dNames r.names)]) (cc ++ [some (.obj "Rules" [] [])]) = .nx (env0 8 [.cell cc.length, .d (.int r.most), .d (.bl r.wideKey), .d (.bl r.renewed), .d (.bl r.guarded), .d (.str r.drop), .d (.str r.first), .d (dNames r.names)]) (cc ++ [some (.obj "Rules" ["most", "wide_key", "renewed", "guarded", "drop", "first", "names", "record"] (([.int r.most, .bl r.wideKey, .bl r.renewed, .bl r.guarded, .str r.drop, .str r.first, dNames r.names, .tup [.int r.most, .bl r.wideKey, .bl r.renewed, .bl r.guarded, .str r.drop, .str r.first, dNames r.names]] : List D).map .d))]) := by
    refine (seq_to (exp_ok (call1 (w2 := .d (dctR r)) (b2_ok (x := c_PARTS) (y := .tup [.int r.most, .bl r.wideKey, .bl r.renewed, .bl r.guarded, .str r.drop, .str r.first, dNames r.names]) rfl (tup_ok rfl (few_cap (show 7 ≤ 1000 by decide))) ?_) look))).trans ?_
    · rfl
    refine (seq_to (fset_ok (ns' := ["most"]) (ws' := [.d (.int r.most)]) rfl rfl (by decide) rfl)).trans ?_
    refine (seq_to (fset_ok (ns' := ["most", "wide_key"]) (ws' := [.d (.int r.most), .d (.bl r.wideKey)]) rfl rfl (by decide) rfl)).trans ?_
    refine (seq_to (fset_ok (ns' := ["most", "wide_key", "renewed"]) (ws' := [.d (.int r.most), .d (.bl r.wideKey), .d (.bl r.renewed)]) rfl rfl (by decide) rfl)).trans ?_
    refine (seq_to (fset_ok (ns' := ["most", "wide_key", "renewed", "guarded"]) (ws' := [.d (.int r.most), .d (.bl r.wideKey), .d (.bl r.renewed), .d (.bl r.guarded)]) rfl rfl (by decide) rfl)).trans ?_
    refine (seq_to (fset_ok (ns' := ["most", "wide_key", "renewed", "guarded", "drop"]) (ws' := [.d (.int r.most), .d (.bl r.wideKey), .d (.bl r.renewed), .d (.bl r.guarded), .d (.str r.drop)]) rfl rfl (by decide) rfl)).trans ?_
    refine (seq_to (fset_ok (ns' := ["most", "wide_key", "renewed", "guarded", "drop", "first"]) (ws' := [.d (.int r.most), .d (.bl r.wideKey), .d (.bl r.renewed), .d (.bl r.guarded), .d (.str r.drop), .d (.str r.first)]) rfl rfl (by decide) rfl)).trans ?_
    refine (seq_to (fset_ok (ns' := ["most", "wide_key", "renewed", "guarded", "drop", "first", "names"]) (ws' := [.d (.int r.most), .d (.bl r.wideKey), .d (.bl r.renewed), .d (.bl r.guarded), .d (.str r.drop), .d (.str r.first), .d (dNames r.names)]) (b1_ok (x := dNames r.names) rfl rfl) rfl (by decide) rfl)).trans ?_
    refine fset_ok (w := .d (.tup [.int r.most, .bl r.wideKey, .bl r.renewed, .bl r.guarded, .str r.drop, .str r.first, dNames r.names])) (tup_ok (args rfl (args rfl (args rfl (args rfl (args rfl (args rfl (args (fld_ok (w := .cell cc.length) (ns := ["most", "wide_key", "renewed", "guarded", "drop", "first", "names"]) (ws := [.d (.int r.most), .d (.bl r.wideKey), .d (.bl r.renewed), .d (.bl r.guarded), .d (.str r.drop), .d (.str r.first), .d (dNames r.names)]) rfl (show objOf _ (.cell cc.length) = some _ from ?_) rfl) args0))))))) (few_cap (show 7 ≤ 1000 by decide))) rfl (by decide) rfl
    show (match (cc ++ [some _])[cc.length]? with | some (some (.obj c ns ws)) => some (c, ns, ws) | _ => none) = _
    rw [at_end]
  unfold fn_Rules_init fnOf
  rw [body]
  simp only [endFn, cut, lenO]
  rw [List.take_of_length_le (Nat.le_of_eq (by simp))]
  exact if_pos ⟨below_more ok rfl, rfl⟩
theorem s_rules {env : DL.Env} {r rk : DL.Env → M (List W)} {g : List W → List W → List W} {np nk : Nat} {ws zs : List W} {c0 c1 : Cs} {q : Rl} (h : r env c0 = .ok ws c1) (h2 : rk env c1 = .ok zs cc) (l1 : ws.length = np) (l2 : zs.length = nk)
    (hg : g ws zs = [.d (.int q.most), .d (.bl q.wideKey), .d (.bl q.renewed), .d (.bl q.guarded), .d (.str q.drop), .d (.str q.first), .d (dNames q.names)]) (k : RlOk q) (some1 : ∀ p ∈ q.names, p.2 ≠ []) :
    mMakeK "Rules" false fn_Rules_init 8 np nk g r rk env c0 = .ok (.d (dRules q)) cc := by
  obtain ⟨ns, ds, init, e⟩ := s_rules_init ok k some1
  unfold mMakeK
  rw [h]
  simp only [R.bind]
  rw [h2]
  simp only [hg]
  have c8 : ws.length = np ∧ zs.length = nk ∧ ([.cell cc.length, .d (.int q.most), .d (.bl q.wideKey), .d (.bl q.renewed), .d (.bl q.guarded), .d (.str q.drop), .d (.str q.first), .d (dNames q.names)] : List W).length = 8 := ⟨l1, l2, rfl⟩
  rw [if_pos c8, init]
  show mkEnd cc.length false (.d .non) (cc ++ [some (.obj "Rules" ns (ds.map .d))]) = _
  have fr : ∀ (xs : List D) (c : Cs), frzL c (xs.map .d) = some (xs, c) := by
    intro xs c
    induction xs with
    | nil => rfl
    | cons x xs ih => simp only [List.map_cons, frzL, frz0, ih]
  unfold mkEnd
  simp only [frz, at_end, set_end, fr, Bool.false_eq_true, if_false, cut, e]
  have tk : (cc ++ [none]).take cc.length = cc := by simp
  rw [tk]
  exact if_pos ⟨ok, rfl⟩
end
end Lw
set_option Elab.async false
set_option linter.all false
set_option maxRecDepth 100000
set_option maxHeartbeats 3900000
/-! SM: after, met, may_put. -/
namespace Lw
open PySem PySem.Spec PyProof.Rows L2 DL Ty
def metOf (r : Rl) (ss : List Slip) (s : Slip) : Option Slip := (foundAt r ss s).bind fun n => ss[n]?
def dMaySlip : Option Slip → D
  | none => .non
  | some s => dSlip s
section
variable {cc : Cs} (ok : okBelow cc.length cc = true)
include ok
theorem s_met {l : Ld} {r : Rl} {st : Store} {s : Slip} (L : LdOk l) (S : StoreOk l r st) (ks : SlipOk s) (few : st.slips.length ≤ 400) : fn_met [.d (dLand l), .d (dRules r), .d (dStore st), .d (dSlip s)] cc = .ok (.d (dMaySlip (metOf r st.slips s))) cc := by
  obtain ⟨w1, look1⟩ := s_look_store ok L few S
  refine fnOf_rt (n := 5) (b := fn_met_b) ok ((seq_to (exp_ok (call_ok (args rfl (args rfl (args rfl args0))) rfl look1))).trans ((seq_if_no (not_ok (a := true) (t_ok (call1 rfl (s_is_slip ok (okSlip_of ks)))))).trans ((seq_to (put_ok (call_ok (args rfl (args (w := .d (dSlips st.slips)) rfl (args rfl args0))) rfl (s_found_at ok S.kept.slips (by omega) ks)))).trans (ret_ok ?_))))
  unfold metOf
  cases f : foundAt r st.slips s with
  | none => exact ifv_ok (a := true) (t_ok (op_ok rfl rfl rfl)) (fun _ => rfl) (fun z => nomatch z)
  | some n =>
    obtain ⟨x, ex, _⟩ := found_some f
    have e : ((some n).bind fun n => st.slips[n]?) = some x := ex
    rw [e]
    exact ifv_ok (a := false) (t_ok (op_ok rfl rfl rfl)) (fun z => nomatch z) (fun _ => ix_ok (x := dSlips st.slips) rfl rfl (at_S ex))
theorem s_may_put {l : Ld} {r : Rl} {house : Words} {closed : Bool} {s : Slip} (L : LdOk l) (k : RlOk r) (kh : okHost house = true) (ks : SlipOk s) : fn_may_put [.d (dLand l), .d (dRules r), .d (dW house), .d (.bl closed), .d (dSlip s)] cc = .ok (.d (.bl (allowed l r house closed s))) cc :=
  fnOf_rt (n := 5) (b := fn_may_put_b) ok ((seq_if_no (not_ok (a := true) (t_ok (call1 (w2 := .d (dDeed (.put house closed s))) (tup_ok (ds := [.str "put", dW house, .bl closed, dSlip s]) rfl (few_cap (show 4 ≤ 1000 by decide))) (s_is_put ok kh ks))))).trans (ret_ok (call_ok (args rfl (args rfl (args rfl (args rfl (args rfl args0))))) rfl (s_is_allowed ok L k (host_all kh) ks))))
end
end Lw
set_option Elab.async false
set_option linter.all false
set_option maxRecDepth 100000
set_option maxHeartbeats 0
noncomputable section NC
namespace Lw
open PySem PySem.Spec PyProof.Rows L2 DL
def fn__law_pool_b : MS := (sSeq (sSet 2 (mC (.int 0)))
    (sSeq (sIf (mT (mOp dLt (mVar 1) (mB dLen (mCons (mVar 0) mNil)))) (sSet 2 (mIx (mVar 0) (mVar 1))) sNext)
    (sSeq (sSet 3 (mB dMax (mCons (mB dInt (mCons (mVar 2) mNil)) (mCons (mB dInt (mCons (mOp dSub (mUn dNeg (mC (.int 1))) (mVar 2)) mNil)) mNil))))
    (sSeq (sSet 4 (mOp dMod (mB dInt (mCons (mOp dMul (mOp dAdd (mOp dAdd (mOp dAdd (mOp dMod (mB dInt (mCons (mVar 3) mNil)) (mC (.int 2147483629))) (mOp dMul (mOp dMul (mC (.int 7919)) (mVar 1)) (mVar 1))) (mOp dMul (mC (.int 31)) (mVar 1))) (mC (.int 17))) (mC (.int 48271))) mNil)) (mC (.int 2147483647))))
    (sRet (mLstC (mCons (mOp dMul (mVar 3) (mB dInt (mCons (mOp dGe (mVar 3) (mOp dPow (mC (.int 10)) (mC (.int 18)))) mNil))) (mCons (mVar 4) mNil))))))))
def fn__law_pool : Fn := fnOfC 5 fn__law_pool_b
def fn__law_take_b : MS := (sSeq (sIf (mT (mOp dGt (mIx (mVar 0) (mC (.int 0))) (mC (.int 0)))) (sSeq (sSet 2 (mOp dMod (mB dInt (mCons (mIx (mVar 0) (mC (.int 0))) mNil)) (mVar 1)))
    (sSeq (sPutI (mOp dFdiv (mIx (mVar 0) (mC (.int 0))) (mVar 1)) (mVar 0) (mC (.int 0)))
    (sRet (mVar 2)))) sNext)
    (sSeq (sPutI (mOp dMod (mB dInt (mCons (mOp dAdd (mOp dMul (mIx (mVar 0) (mC (.int 1))) (mC (.int 39373))) (mC (.int 7))) mNil)) (mC (.int 2147483647))) (mVar 0) (mC (.int 1)))
    (sRet (mOp dMod (mB dInt (mCons (mOp dFdiv (mOp dMod (mB dInt (mCons (mOp dMul (mIx (mVar 0) (mC (.int 1))) (mIx (mVar 0) (mC (.int 1)))) mNil)) (mC (.int 2147483629))) (mC (.int 32))) mNil)) (mVar 1)))))
def fn__law_take : Fn := fnOf 3 fn__law_take_b
def fn__law_turned_b : MS := (sSeq (sPar 2 3 (mCons (mListC (mCons (mVar 1) mNil)) (mCons (mLstC mNil) mNil)))
    (sSeq (sWhile (mT (mOp dNe (mVar 2) (mLst mNil))) (sExpr (mLm gApp (mVar 3) (mCons (mLm gPopAt (mVar 2) (mCons (mCall fn__law_take 2 (mCons (mVar 0) (mCons (mB dLen (mCons (mVar 2) mNil)) mNil)) []) mNil)) mNil))) 64)
    (sRet (mVar 3))))
def fn__law_turned : Fn := fnOf 4 fn__law_turned_b
def fn__law_one_b : MS := (sRet (mIx (mVar 1) (mCall fn__law_take 2 (mCons (mVar 0) (mCons (mB dLen (mCons (mVar 1) mNil)) mNil)) [])))
def fn__law_one : Fn := fnOf 2 fn__law_one_b
def fn__law_rules_b : MS := (sSeq (sSet 2 (mLstC mNil))
    (sSeq (sFor (mRng1 (mCall fn__law_take 2 (mCons (mVar 0) (mCons (mC (.int 3)) mNil)) [])) (gvName 3) (sSeq (sSet 4 (mB dTuple (mCons (mB dSorted (mCons (mSl (mCall fn__law_turned 2 (mCons (mVar 0) (mCons (mLst (mCons (mC (.str "closed")) (mCons (mC (.str "own")) (mCons (mC (.str "whole")) mNil)))) mNil)) []) oNone (oSome (mOp dAdd (mC (.int 1)) (mCall fn__law_take 2 (mCons (mVar 0) (mCons (mC (.int 2)) mNil)) [])))) mNil)) mNil)))
    (sExpr (mLm gApp (mVar 2) (mCons (mTup (mCons (mCall fn__law_one 2 (mCons (mVar 0) (mCons (mLst (mCons (mC (.str "s")) (mCons (mC (.str "sid")) (mCons (mC (.str "t")) (mCons (mC (.str "x")) mNil))))) mNil)) []) (mCons (mVar 4) mNil))) mNil)))))
    (sSeq (sSet 5 (mDctC [.inr "most", .inr "wide_key"] [(mOp dAdd (mC (.int 1)) (mCall fn__law_take 2 (mCons (mVar 0) (mCons (mVar 1) mNil)) [])), (mOp dEq (mCall fn__law_take 2 (mCons (mVar 0) (mCons (mC (.int 2)) mNil)) []) (mC (.int 0)))]))
    (sSeq (sPut2 (mCons (mOp dEq (mCall fn__law_take 2 (mCons (mVar 0) (mCons (mC (.int 3)) mNil)) []) (mC (.int 0))) (mCons (mOp dEq (mCall fn__law_take 2 (mCons (mVar 0) (mCons (mC (.int 2)) mNil)) []) (mC (.int 0))) mNil)) (mVar 5) (mC (.str "renewed")) (mVar 5) (mC (.str "guarded")))
    (sSeq (sPut2 (mCons (mCall fn__law_one 2 (mCons (mVar 0) (mCons (mLst (mCons (mC (.str "eldest")) (mCons (mC (.str "plain")) mNil))) mNil)) []) (mCons (mCall fn__law_one 2 (mCons (mVar 0) (mCons (mLst (mCons (mC (.str "elder")) (mCons (mC (.str "younger")) mNil))) mNil)) []) mNil)) (mVar 5) (mC (.str "drop")) (mVar 5) (mC (.str "first")))
    (sSeq (sPutI (mB dTuple (mCons (mVar 2) mNil)) (mVar 5) (mC (.str "names")))
    (sRet (mVar 5))))))))
def fn__law_rules : Fn := fnOf 6 fn__law_rules_b
def fn__law_words_b : MS := (sRet (mCall fn__law_one 2 (mCons (mVar 0) (mCons (mLst (mCons (mLst (mCons (mC (.str "town")) (mCons (mC (.str "mall")) (mCons (mC (.str "shop")) (mCons (mC (.str "inn")) mNil))))) (mCons (mLst (mCons (mC (.str "a")) (mCons (mC (.str "b")) (mCons (mC (.str "c")) (mCons (mC (.str "ab")) mNil))))) (mCons (mLst (mCons (mC (.str "ab")) (mCons (mC (.str "a")) (mCons (mC (.str "abcdefgh")) (mCons (mC (.str "b")) mNil))))) mNil)))) mNil)) []))
def fn__law_words : Fn := fnOf 1 fn__law_words_b
def fn__law_land_b : MS := (sSeq (sAsg (gvTup 4 (gvCons (gvName 2) (gvCons (gvName 3) (gvCons (gvName 4) (gvCons (gvName 5) gvNil))))) (mCall fn__law_words 1 (mCons (mVar 0) mNil) []))
    (sSeq (sSet 6 (mLst (mCons (mTup (mCons (mVar 2) (mCons (mVar 3) mNil))) (mCons (mTup (mCons (mVar 2) (mCons (mVar 4) mNil))) (mCons (mTup (mCons (mVar 2) (mCons (mVar 3) (mCons (mVar 4) mNil)))) (mCons (mTup (mCons (mVar 2) mNil)) (mCons (mTup (mCons (mVar 5) (mCons (mVar 3) mNil))) (mCons (mTup (mCons (mVar 5) mNil)) (mCons (mTup (mCons (mVar 2) (mCons (mVar 3) (mCons (mVar 5) mNil)))) (mCons (mTup (mCons (mVar 3) mNil)) mNil))))))))))
    (sSeq (sSet 7 (mSl (mCall fn__law_turned 2 (mCons (mVar 0) (mCons (mVar 6) mNil)) []) oNone (oSome (mOp dAdd (mC (.int 1)) (mCall fn__law_take 2 (mCons (mVar 0) (mCons (mVar 1) mNil)) [])))))
    (sSeq (sSet 8 (mSl (mCall fn__law_turned 2 (mCons (mVar 0) (mCons (mLst (mCons (mTup (mCons (mVar 2) mNil)) (mCons (mTup (mCons (mVar 5) mNil)) (mCons (mTup (mCons (mVar 2) (mCons (mVar 3) mNil))) (mCons (mTup (mCons (mVar 3) mNil)) mNil))))) mNil)) []) oNone (oSome (mCall fn__law_take 2 (mCons (mVar 0) (mCons (mC (.int 3)) mNil)) []))))
    (sRet (mDct [.inr "houses", .inr "common"] [(mVar 7), (mVar 8)]))))))
def fn__law_land : Fn := fnOf 9 fn__law_land_b
def fn__law_made_rules_b : MS := (sRet (mMakeK "Rules" false fn_Rules_init 8 1 6 bd_Rules_1_wide_key_renewed_guarded_drop_first_names_g (mCons (mIx (mVar 0) (mC (.str "most"))) mNil) (mCons (mIx (mVar 0) (mC (.str "wide_key"))) (mCons (mIx (mVar 0) (mC (.str "renewed"))) (mCons (mIx (mVar 0) (mC (.str "guarded"))) (mCons (mIx (mVar 0) (mC (.str "drop"))) (mCons (mIx (mVar 0) (mC (.str "first"))) (mCons (mIx (mVar 0) (mC (.str "names"))) mNil))))))))
def fn__law_made_rules : Fn := fnOf 1 fn__law_made_rules_b
def fn__law_made_land_b : MS := (sRet (mMake "Land" false fn_Land_init 3 (mCons (mIx (mVar 0) (mC (.str "houses"))) (mCons (mIx (mVar 0) (mC (.str "common"))) mNil)) []))
def fn__law_made_land : Fn := fnOf 1 fn__law_made_land_b
def fn__law_marks_b : MS := (sRet (mB dTuple (mCons (mB dSorted (mCons (mSl (mCall fn__law_turned 2 (mCons (mVar 0) (mCons (mLst (mCons (mC (.str "closed")) (mCons (mC (.str "hidden")) (mCons (mC (.str "near")) mNil)))) mNil)) []) oNone (oSome (mCall fn__law_one 2 (mCons (mVar 0) (mCons (mLst (mCons (mC (.int 0)) (mCons (mC (.int 0)) (mCons (mC (.int 1)) (mCons (mC (.int 1)) (mCons (mC (.int 2)) (mCons (mC (.int 3)) mNil))))))) mNil)) []))) mNil)) mNil)))
def fn__law_marks : Fn := fnOf 1 fn__law_marks_b
def fn__law_end_b : MS := (sRet (mIf (mT (mOp dEq (mCall fn__law_take 2 (mCons (mVar 0) (mCons (mC (.int 2)) mNil)) []) (mC (.int 0)))) (mC .non) (mOp dAdd (mC (.int 1)) (mCall fn__law_take 2 (mCons (mVar 0) (mCons (mC (.int 6)) mNil)) []))))
def fn__law_end : Fn := fnOf 1 fn__law_end_b
def fn__law_path_b : MS := (sRet (mB dTuple (mCons (mCall fn__law_one 2 (mCons (mVar 0) (mCons (mLst (mCons (mLst mNil) (mCons (mLst (mCons (mC (.str "p")) mNil)) (mCons (mLst (mCons (mC (.str "p")) (mCons (mC (.str "q")) mNil))) (mCons (mLst (mCons (mC (.str "p")) (mCons (mC (.str "q")) (mCons (mC (.str "p")) mNil)))) (mCons (mLst (mCons (mC (.str "q")) mNil)) (mCons (mLst (mCons (mC (.str "q")) (mCons (mC (.str "p")) mNil))) mNil))))))) mNil)) []) mNil)))
def fn__law_path : Fn := fnOf 1 fn__law_path_b
def fn__law_host_b : MS := (sSeq (sSet 2 (mCall fn__law_one 2 (mCons (mVar 0) (mCons (mIx (mVar 1) (mC (.str "houses"))) mNil)) []))
    (sSeq (sSet 3 (mCall fn__law_take 2 (mCons (mVar 0) (mCons (mC (.int 4)) mNil)) []))
    (sSeq (sIf (mT (mOp dEq (mVar 3) (mC (.int 0)))) (sRet (mSl (mVar 2) oNone (oSome (mOp dAdd (mC (.int 1)) (mCall fn__law_take 2 (mCons (mVar 0) (mCons (mB dLen (mCons (mVar 2) mNil)) mNil)) []))))) sNext)
    (sRet (mIf (mAnd (mT (mOp dEq (mVar 3) (mC (.int 1)))) (mT (mOp dLt (mB dLen (mCons (mVar 2) mNil)) (mC (.int 4))))) (mOp dAdd (mVar 2) (mTup (mCons (mC (.str "z")) mNil))) (mVar 2))))))
def fn__law_host : Fn := fnOf 4 fn__law_host_b
def fn__law_slip_b : MS := (sSeq (sPar 2 3 (mCons (mCall fn__law_one 2 (mCons (mVar 0) (mCons (mLst (mCons (mC (.str "sid")) (mCons (mC (.str "s")) (mCons (mC (.str "t")) (mCons (mC (.str "u")) mNil))))) mNil)) []) (mCons (mCall fn__law_one 2 (mCons (mVar 0) (mCons (mLst (mCons (mC (.str "one")) (mCons (mC (.str "two")) mNil))) mNil)) []) mNil)))
    (sSeq (sSet 4 (mOp dEq (mCall fn__law_take 2 (mCons (mVar 0) (mCons (mC (.int 2)) mNil)) []) (mC (.int 0))))
    (sRet (mTup (mCons (mVar 2) (mCons (mVar 3) (mCons (mCall fn__law_host 2 (mCons (mVar 0) (mCons (mVar 1) mNil)) []) (mCons (mVar 4) (mCons (mCall fn__law_path 1 (mCons (mVar 0) mNil) []) (mCons (mCall fn__law_end 1 (mCons (mVar 0) mNil) []) (mCons (mCall fn__law_marks 1 (mCons (mVar 0) mNil) []) mNil)))))))))))
def fn__law_slip : Fn := fnOf 5 fn__law_slip_b
def fn__law_put_b : MS := (sSeq (sPar 2 3 (mCons (mCall fn__law_one 2 (mCons (mVar 0) (mCons (mIx (mVar 1) (mC (.str "houses"))) mNil)) []) (mCons (mCall fn__law_slip 2 (mCons (mVar 0) (mCons (mVar 1) mNil)) []) mNil)))
    (sSeq (sIf (mT (mOp dGt (mCall fn__law_take 2 (mCons (mVar 0) (mCons (mC (.int 4)) mNil)) []) (mC (.int 0)))) (sSeq (sSet 4 (mIf (mT (mIx (mVar 3) (mC (.int 3)))) (mSl (mVar 2) oNone (oSome (mOp dAdd (mC (.int 1)) (mCall fn__law_take 2 (mCons (mVar 0) (mCons (mB dLen (mCons (mVar 2) mNil)) mNil)) [])))) (mVar 2)))
    (sSet 3 (mOp dAdd (mOp dAdd (mSl (mVar 3) oNone (oSome (mC (.int 2)))) (mTup (mCons (mVar 4) mNil))) (mSl (mVar 3) (oSome (mC (.int 3))) oNone)))) sNext)
    (sRet (mTup (mCons (mC (.str "put")) (mCons (mVar 2) (mCons (mOp dEq (mCall fn__law_take 2 (mCons (mVar 0) (mCons (mC (.int 2)) mNil)) []) (mC (.int 0))) (mCons (mVar 3) mNil))))))))
def fn__law_put : Fn := fnOf 5 fn__law_put_b
def fn__law_circle_b : MS := (sSeq (sSet 2 (mLc (mIt (mLstRg (mB dLen (mCons (mVar 1) mNil)))) [3] (gvName 3) tvYes (mSl (mVar 1) oNone (oSome (mOp dAdd (mVar 3) (mC (.int 1)))))))
    (sSeq (sSet 2 (mLc (mIt (mVar 2)) [4] (gvName 4) (mT (mOp dNotIn (mVar 4) (mIx (mVar 0) (mC (.str "common"))))) (mVar 4)))
    (sRet (mIf (mT (mOp dNe (mVar 2) (mLst mNil))) (mIx (mVar 2) (mC (.int 0))) (mVar 1)))))
def fn__law_circle : Fn := fnOf 5 fn__law_circle_b
def fn__law_parts_b : MS := (sSeq (sSet 3 (mLstC mNil))
    (sSeq (sFor (mIt (mVar 2)) (gvName 4) (sExpr (mLm gApp (mVar 3) (mCons (mLc (mIt (mIx (mVar 1) (mC (.int 1)))) [5] (gvName 5) (mT (mOp dEq (mCall fn__law_circle 2 (mCons (mVar 0) (mCons (mIx (mVar 5) (mC (.int 2))) mNil)) []) (mVar 4))) (mVar 5)) mNil))))
    (sRet (mVar 3))))
def fn__law_parts : Fn := fnOf 6 fn__law_parts_b
def fn__law_key_b : MS := (sRet (mIf (mT (mIx (mVar 0) (mC (.str "wide_key")))) (mTup (mCons (mIx (mVar 1) (mC (.int 0))) (mCons (mIx (mVar 1) (mC (.int 2))) (mCons (mIx (mVar 1) (mC (.int 4))) (mCons (mIx (mVar 1) (mC (.int 3))) mNil))))) (mTup (mCons (mIx (mVar 1) (mC (.int 0))) (mCons (mIx (mVar 1) (mC (.int 2))) (mCons (mIx (mVar 1) (mC (.int 4))) mNil))))))
def fn__law_key : Fn := fnOf 2 fn__law_key_b
def fn_law_b : MS := (sSeq (sFor (mRng1 (mB dMax (mCons (mC (.int 1)) (mCons (mB dMin (mCons (mC (.int 8)) (mCons (mB dLen (mCons (mVar 0) mNil)) mNil))) mNil)))) (gvName 1) (sScope [2] (sSeq (sSet 2 (mCall fn__law_pool 2 (mCons (mVar 0) (mCons (mVar 1) mNil)) []))
    (sSeq (sAsgT 2 (gvCons (gvName 3) (gvCons (gvName 4) gvNil)) (mCons (mCall fn__law_land 2 (mCons (mVar 2) (mCons (mC (.int 5)) mNil)) []) (mCons (mCall fn__law_rules 2 (mCons (mVar 2) (mCons (mC (.int 4)) mNil)) []) mNil)))
    (sSeq (sAsgT 2 (gvCons (gvName 5) (gvCons (gvName 6) gvNil)) (mCons (mCall fn__law_made_land 1 (mCons (mVar 3) mNil) []) (mCons (mCall fn__law_made_rules 1 (mCons (mVar 4) mNil) []) mNil)))
    (sSeq (sSet 7 (mCall fn_after_all 4 (mCons (mVar 5) (mCons (mVar 6) (mCons (mC c_EMPTY) (mCons (mLc (mRng1 (mCall fn__law_take 2 (mCons (mVar 2) (mCons (mC (.int 11)) mNil)) [])) [8] (gvName 8) tvYes (mCall fn__law_put 2 (mCons (mVar 2) (mCons (mVar 3) mNil)) [])) mNil)))) []))
    (sFor (mRng1 (mC (.int 16))) (gvName 8) (sSeq (sPar 9 10 (mCons (mCall fn__law_put 2 (mCons (mVar 2) (mCons (mVar 3) mNil)) []) (mCons (mCall fn__law_put 2 (mCons (mVar 2) (mCons (mVar 3) mNil)) []) mNil)))
    (sSeq (sIf (mAnd (mT (mOp dNe (mIx (mVar 7) (mC (.int 1))) (mTup mNil))) (mT (mOp dEq (mCall fn__law_take 2 (mCons (mVar 2) (mCons (mC (.int 2)) mNil)) []) (mC (.int 0))))) (sSeq (sSet 11 (mCall fn__law_one 2 (mCons (mVar 2) (mCons (mIx (mVar 7) (mC (.int 1))) mNil)) []))
    (sSet 10 (mTup (mCons (mC (.str "put")) (mCons (mIx (mVar 10) (mC (.int 1))) (mCons (mIx (mVar 10) (mC (.int 2))) (mCons (mOp dAdd (mOp dAdd (mSl (mVar 11) oNone (oSome (mC (.int 1)))) (mTup (mCons (mIx (mIx (mVar 10) (mC (.int 3))) (mC (.int 1))) mNil))) (mSl (mVar 11) (oSome (mC (.int 2))) oNone)) mNil))))))) sNext)
    (sSeq (sSet 12 (mCall fn_after_all 4 (mCons (mVar 5) (mCons (mVar 6) (mCons (mVar 7) (mCons (mLst (mCons (mVar 9) (mCons (mVar 10) mNil))) mNil)))) []))
    (sSeq (sSet 13 (mCall fn_after_all 4 (mCons (mVar 5) (mCons (mVar 6) (mCons (mVar 7) (mCons (mLst (mCons (mVar 10) (mCons (mVar 9) mNil))) mNil)))) []))
    (sSeq (sSet 14 (mLst (mCons (mCall fn__law_circle 2 (mCons (mVar 3) (mCons (mIx (mIx (mVar 9) (mC (.int 3))) (mC (.int 2))) mNil)) []) (mCons (mCall fn__law_circle 2 (mCons (mVar 3) (mCons (mIx (mIx (mVar 10) (mC (.int 3))) (mC (.int 2))) mNil)) []) mNil))))
    (sSeq (sSet 15 (mLst (mCons (mCall fn__law_parts 3 (mCons (mVar 3) (mCons (mVar 12) (mCons (mVar 14) mNil))) []) (mCons (mCall fn__law_parts 3 (mCons (mVar 3) (mCons (mVar 13) (mCons (mVar 14) mNil))) []) mNil))))
    (sSeq (sIf (mAnd (mT (mOp dNe (mIx (mVar 14) (mC (.int 0))) (mIx (mVar 14) (mC (.int 1))))) (mT (mOp dNe (mIx (mVar 15) (mC (.int 0))) (mIx (mVar 15) (mC (.int 1)))))) (sRet (mC (.bl false))) sNext)
    (sSeq (sSet 16 (mLc (mIt (mLst (mCons (mVar 9) (mCons (mVar 10) mNil)))) [19] (gvName 19) tvYes (mCall fn_may_put 5 (mCons (mVar 5) (mCons (mVar 6) (mCons (mIx (mVar 19) (mC (.int 1))) (mCons (mIx (mVar 19) (mC (.int 2))) (mCons (mIx (mVar 19) (mC (.int 3))) mNil))))) [])))
    (sSeq (sIf (mAnd (mT (mOp dIn (mC (.bl false)) (mVar 16))) (mT (mOp dNe (mVar 12) (mVar 13)))) (sRet (mC (.bl false))) sNext)
    (sSeq (sSet 17 (mLc (mIt (mLst (mCons (mVar 9) (mCons (mVar 10) mNil)))) [19] (gvName 19) tvYes (mCall fn_met 4 (mCons (mVar 5) (mCons (mVar 6) (mCons (mVar 7) (mCons (mIx (mVar 19) (mC (.int 3))) mNil)))) [])))
    (sSeq (sSet 18 (mLc (mIt (mLst (mCons (mVar 9) (mCons (mVar 10) mNil)))) [19] (gvName 19) tvYes (mCall fn__law_key 2 (mCons (mVar 4) (mCons (mIx (mVar 19) (mC (.int 3))) mNil)) [])))
    (sIf (mAnd (mT (mOp dNotIn (mC .non) (mVar 17))) (mAnd (mT (mOp dNe (mIx (mVar 18) (mC (.int 0))) (mIx (mVar 18) (mC (.int 1))))) (mAnd (mNot (mT (mIx (mVar 4) (mC (.str "renewed"))))) (mT (mOp dNe (mVar 12) (mVar 13)))))) (sRet (mC (.bl false))) sNext)))))))))))))))))))
    (sRet (mC (.bl true))))
def fn_law : Fn := fnOf 20 fn_law_b
end Lw

end NC
set_option Elab.async false
set_option linter.all false
set_option maxRecDepth 100000
set_option maxHeartbeats 0
namespace Lw
open PySem PySem.Spec PyProof.Rows L2 DL
theorem bt_max : bootBuiltins "max" = some (.builtin "max") := by decide +kernel
theorem bt_min : bootBuiltins "min" = some (.builtin "min") := by decide +kernel
theorem bt_len : bootBuiltins "len" = some (.builtin "len") := by decide +kernel
theorem bt_int : bootBuiltins "int" = some (.type "int") := by decide +kernel
theorem bt_tuple : bootBuiltins "tuple" = some (.type "tuple") := by decide +kernel
theorem bt_sorted : bootBuiltins "sorted" = some (.builtin "sorted") := by decide +kernel
theorem bt_list : bootBuiltins "list" = some (.type "list") := by decide +kernel
theorem bt_isinstance : bootBuiltins "isinstance" = some (.builtin "isinstance") := by decide +kernel
theorem bt_bool : bootBuiltins "bool" = some (.type "bool") := by decide +kernel
theorem bt_str : bootBuiltins "str" = some (.type "str") := by decide +kernel
theorem bt_all : bootBuiltins "all" = some (.builtin "all") := by decide +kernel
structure Fx (K : PySem.W.Frag) (mg : Str → Option Value) : Prop where
  m_range : mg "range" = none
  m_max : mg "max" = none
  m_min : mg "min" = none
  m_len : mg "len" = none
  m_int : mg "int" = none
  m_tuple : mg "tuple" = none
  m_sorted : mg "sorted" = none
  m_list : mg "list" = none
  m_isinstance : mg "isinstance" = none
  m_bool : mg "bool" = none
  m_str : mg "str" = none
  m_all : mg "all" = none
  m_dict : mg "dict" = none
  m_zip : mg "zip" = none
  m_enumerate : mg "enumerate" = none
  v_MOST_KEPT : ConF K mg "MOST_KEPT" c_MOST_KEPT
  v_PARTS : ConF K mg "PARTS" c_PARTS
  v_DROPS : ConF K mg "DROPS" c_DROPS
  v_FIRSTS : ConF K mg "FIRSTS" c_FIRSTS
  v_MOST_NAMES : ConF K mg "MOST_NAMES" c_MOST_NAMES
  v_MOST_LETTERS : ConF K mg "MOST_LETTERS" c_MOST_LETTERS
  v_LETTERS : ConF K mg "LETTERS" c_LETTERS
  v_CONDITIONS : ConF K mg "CONDITIONS" c_CONDITIONS
  v_MOST_WORDS : ConF K mg "MOST_WORDS" c_MOST_WORDS
  v_MOST_HOUSES : ConF K mg "MOST_HOUSES" c_MOST_HOUSES
  v_MOST_COMMON : ConF K mg "MOST_COMMON" c_MOST_COMMON
  v_LAST_DAY : ConF K mg "LAST_DAY" c_LAST_DAY
  v_MOST_PATH : ConF K mg "MOST_PATH" c_MOST_PATH
  v_MARKS : ConF K mg "MARKS" c_MARKS
  v_EMPTY : ConF K mg "EMPTY" c_EMPTY
  d_fn__law_pool : DefF K mg "_law_pool" (top 70) [] []
  d_fn__law_take : DefF K mg "_law_take" (top 71) [] []
  d_fn__law_turned : DefF K mg "_law_turned" (top 73) [] []
  d_fn__law_one : DefF K mg "_law_one" (top 72) [] []
  d_fn__law_rules : DefF K mg "_law_rules" (top 76) [] []
  d_fn__law_words : DefF K mg "_law_words" (top 74) [] []
  d_fn__law_land : DefF K mg "_law_land" (top 75) [] []
  d_fn_is_whole : DefF K mg "is_whole" (top 13) [] []
  d_fn_is_number : DefF K mg "is_number" (top 14) [] []
  d_fn_is_one_of : DefF K mg "is_one_of" (top 19) [] []
  d_fn_is_row : DefF K mg "is_row" (top 16) [] []
  d_fn_is_word : DefF K mg "is_word" (top 15) [] []
  d_fn_are_of : DefF K mg "are_of" (top 18) [] []
  d_fn_is_name_rule : DefF K mg "is_name_rule" (top 64) [] []
  d_fn_are_names : DefF K mg "are_names" (top 65) [] []
  d_fn_look_at_parts : DefF K mg "look_at_parts" (top 66) [] []
  d_fn_Rules_init : MetF K "Rules" "__init__" "Rules.__init__" (clsStmt (top 67) 0) [.int 3] [("wide_key", .bl true), ("renewed", .bl false), ("guarded", .bl false), ("drop", .str "eldest"), ("first", .str "elder"), ("names", .ref (He.kwAt ("Rules", some "__init__") "names" K))]
  d_fn__law_made_rules : DefF K mg "_law_made_rules" (top 84) [] []
  d_fn_are_words : DefF K mg "are_words" (top 17) [] []
  d_fn_is_host : DefF K mg "is_host" (top 25) [] []
  d_fn_are_hosts : DefF K mg "are_hosts" (top 30) [] []
  d_fn_Land_init : MetF K "Land" "__init__" "Land.__init__" (clsStmt (top 31) 0) [.ref (He.dflAt ("Land", some "__init__") 0 K)] []
  d_fn__law_made_land : DefF K mg "_law_made_land" (top 83) [] []
  d_fn_is_path : DefF K mg "is_path" (top 26) [] []
  d_fn_is_end : DefF K mg "is_end" (top 34) [] []
  d_fn_is_slip : DefF K mg "is_slip" (top 35) [] []
  d_fn_over_on : DefF K mg "over_on" (top 36) [] []
  d_fn_Rules_plain_key : MetF K "Rules" "plain_key" "Rules.plain_key" (clsStmt (top 67) 4) [] []
  d_fn_starts_of : DefF K mg "starts_of" (top 29) [] []
  d_fn_Land_round_of : MetF K "Land" "round_of" "Land.round_of" (clsStmt (top 31) 5) [] []
  d_fn_are_kept : DefF K mg "are_kept" (top 39) [] []
  d_fn_is_store : DefF K mg "is_store" (top 40) [] []
  d_fn_look_at_store : DefF K mg "look_at_store" (top 53) [] []
  d_fn_is_put : DefF K mg "is_put" (top 41) [] []
  d_fn_is_deed : DefF K mg "is_deed" (top 42) [] []
  d_fn_look_at_deeds : DefF K mg "look_at_deeds" (top 54) [] []
  d_fn_begins : DefF K mg "begins" (top 28) [] []
  d_fn_has_right : DefF K mg "has_right" (top 43) [] []
  d_fn_Rules_asked_of : MetF K "Rules" "asked_of" "Rules.asked_of" (clsStmt (top 67) 6) [] []
  d_fn_meets_names : DefF K mg "meets_names" (top 44) [] []
  d_fn_is_allowed : DefF K mg "is_allowed" (top 45) [] []
  d_fn_found_at : DefF K mg "found_at" (top 47) [] []
  d_fn_exchanged : DefF K mg "exchanged" (top 50) [] []
  d_fn_drop_spot : DefF K mg "drop_spot" (top 48) [] []
  d_fn_with_new : DefF K mg "with_new" (top 49) [] []
  d_fn_put_in : DefF K mg "put_in" (top 51) [] []
  d_fn_behind : DefF K mg "behind" (top 52) [] []
  d_fn_after_all : DefF K mg "after_all" (top 55) [] []
  d_fn__law_marks : DefF K mg "_law_marks" (top 78) [] []
  d_fn__law_end : DefF K mg "_law_end" (top 79) [] []
  d_fn__law_path : DefF K mg "_law_path" (top 77) [] []
  d_fn__law_host : DefF K mg "_law_host" (top 80) [] []
  d_fn__law_slip : DefF K mg "_law_slip" (top 81) [] []
  d_fn__law_put : DefF K mg "_law_put" (top 82) [] []
  d_fn__law_circle : DefF K mg "_law_circle" (top 85) [] []
  d_fn__law_parts : DefF K mg "_law_parts" (top 87) [] []
  d_fn_may_put : DefF K mg "may_put" (top 46) [] []
  d_fn_met : DefF K mg "met" (top 56) [] []
  d_fn__law_key : DefF K mg "_law_key" (top 86) [] []
  d_fn_law : DefF K mg "law" (top 88) [] []
  k_Rules : ClsF K mg "Rules" (He.ga K "Rules")
  mk_Rules : Mk K (He.ga K "Rules") (He.ma K (He.ga K "Rules") "__init__")
  k_Land : ClsF K mg "Land" (He.ga K "Land")
  mk_Land : Mk K (He.ga K "Land") (He.ma K (He.ga K "Land") "__init__")
  n_Rules_most : NoAttr K (He.ga K "Rules") "most"
  n_Rules_wide_key : NoAttr K (He.ga K "Rules") "wide_key"
  n_Rules_renewed : NoAttr K (He.ga K "Rules") "renewed"
  n_Rules_guarded : NoAttr K (He.ga K "Rules") "guarded"
  n_Rules_drop : NoAttr K (He.ga K "Rules") "drop"
  n_Rules_first : NoAttr K (He.ga K "Rules") "first"
  n_Rules_names : NoAttr K (He.ga K "Rules") "names"
  n_Rules_record : NoAttr K (He.ga K "Rules") "record"
  n_Land_own_houses : NoAttr K (He.ga K "Land") "own_houses"
  n_Land_own_common : NoAttr K (He.ga K "Land") "own_common"
section
variable {P : Program} {w : World} {K : PySem.W.Frag} {mg : (Str → Option Value)} {base : Heap}
theorem kb_bd_Rules_1_wide_key_renewed_guarded_drop_first_names {fd : FuncData} (F : FunD K "__init__" "Rules.__init__" (defArgs (clsStmt (top 67) 0)) (defBody (clsStmt (top 67) 0)) (defScope (clsStmt (top 67) 0)) [.int 3] [("wide_key", .bl true), ("renewed", .bl false), ("guarded", .bl false), ("drop", .str "eldest"), ("first", .str "elder"), ("names", .ref (He.kwAt ("Rules", some "__init__") "names" K))] (He.ma K (He.ga K "Rules") "__init__") fd) : ∃ its mv : List Value, KBn K fd ["self", "most", "wide_key", "renewed", "guarded", "drop", "first", "names"] 2 ["wide_key", "renewed", "guarded", "drop", "first", "names"] (fun us ws => bd_Rules_1_wide_key_renewed_guarded_drop_first_names_G us its mv ws) (fun vs zs => bd_Rules_1_wide_key_renewed_guarded_drop_first_names_G vs [.int 3] (([] : List (Str × V)).map (·.2)) zs) :=
  F.kbinds 2 ["wide_key", "renewed", "guarded", "drop", "first", "names"] [] bd_Rules_1_wide_key_renewed_guarded_drop_first_names_G (by simp) (by simp) (by simp) (fun r1 r2 r3 r4 => r1.append ((r2.drop 1).append (((r4.drop 0).take 1).append (((r4.drop 1).take 1).append (((r4.drop 2).take 1).append (((r4.drop 3).take 1).append (((r4.drop 4).take 1).append (((r4.drop 5).take 1).append (.nil))))))))) (fun T D doc pm an cdv ct us its mv ws l1 l2 l3 l4 => match us, l1, its, l2, mv, l3, ws, l4 with
    | [u0, u1], _, [d0], _, [], _, [w0, w1, w2, w3, w4, w5], _ => ⟨_, rfl, rfl⟩)
theorem go_bd_Rules_1_wide_key_renewed_guarded_drop_first_names (Z : Fx K mg) : GOk K mg bd_Rules_1_wide_key_renewed_guarded_drop_first_names_g (fun vs zs => bd_Rules_1_wide_key_renewed_guarded_drop_first_names_G vs [.int 3] (([] : List (Str × V)).map (·.2)) zs) := fun ca H ws zs v vs us r1 r4 => by
  have r2 : DenWs K mg ca H [.d (.int 3)] [.int 3] := (DenWs.cs rfl DenWs.nl)
  have r3 : DenWs K mg ca H [] [] := DenWs.nl
  exact ⟨_, rfl, r1.append ((r2.dp 1).append (((r4.dp 0).tk 1).append (((r4.dp 1).tk 1).append (((r4.dp 2).tk 1).append (((r4.dp 3).tk 1).append (((r4.dp 4).tk 1).append (((r4.dp 5).tk 1).append (DenWs.nl))))))))⟩
end
end Lw
set_option Elab.async false
set_option linter.all false
set_option maxRecDepth 100000
set_option maxHeartbeats 0
namespace Lw
open PySem PySem.Spec PyProof.Rows L2 DL
section
variable {P : Program} {w : World} {K : PySem.W.Frag} {mg : (Str → Option Value)} {base : Heap}
theorem sc_fn__law_pool : FnScope (["_law_script", "_law_k", "_law_cell", "_law_big", "_law_mixed"]) ["_law_script", "_law_k"] (defScope (top 70)) := C8.fnScope_by (by decide +kernel)
theorem ok_fn__law_pool (Z : Fx K mg) : DefOk P w K mg base 1 "_law_pool" ["_law_script", "_law_k"] fn__law_pool := by
  obtain ⟨fd, F⟩ := Z.d_fn__law_pool.fd
  have S := sc_fn__law_pool
  have G : FnOk P w K mg base (L2.CX P w) 1 (He.ga K "_law_pool") fd ["_law_script", "_law_k"] (spOf K mg 2 fn__law_pool) := fn_okC F S (by decide) fun cdv A outer s H E hr tk => by
    have hu := room65 hr
    have hu1 := room1 hr
    have hu64 := Room.units hr
    exact (ssv_cons (sv_set S.nd (i := 2) rfl (by first | exact .inl rfl | exact .inr rfl) pv_int)
    (ssv_cons (sv_if (tv_cmp op_lt opd_lt (pv_var (i := 1) rfl (by first | exact .inl rfl | exact .inr (.inl rfl) | exact .inr (.inr rfl))) (pv_callB call_lenA bd_len rfl Z.m_len bt_len (av_cons (pv_var (i := 0) rfl (by first | exact .inl rfl | exact .inr (.inl rfl) | exact .inr (.inr rfl))) av_nil)) (by with_unfolding_all rfl)) (ssv_one (sv_set S.nd (i := 2) rfl (by first | exact .inl rfl | exact .inr rfl) (pv_ix hu1 (pv_var (i := 0) rfl (by first | exact .inl rfl | exact .inr (.inl rfl) | exact .inr (.inr rfl))) (pv_var (i := 1) rfl (by first | exact .inl rfl | exact .inr (.inl rfl) | exact .inr (.inr rfl)))))) ssv_nil)
    (ssv_cons (sv_set S.nd (i := 3) rfl (by first | exact .inl rfl | exact .inr rfl) (pv_callB (call_max2 rfl) bd_max rfl Z.m_max bt_max (av_cons (pv_callTy call_int1 bd_int rfl Z.m_int bt_int (av_cons (pv_var (i := 2) rfl (by first | exact .inl rfl | exact .inr (.inl rfl) | exact .inr (.inr rfl))) av_nil)) (av_cons (pv_callTy call_int1 bd_int rfl Z.m_int bt_int (av_cons (pv_op op_sub opd_sub (pv_neg pv_int) (pv_var (i := 2) rfl (by first | exact .inl rfl | exact .inr (.inl rfl) | exact .inr (.inr rfl)))) av_nil)) av_nil))))
    (ssv_cons (sv_set S.nd (i := 4) rfl (by first | exact .inl rfl | exact .inr rfl) (pv_op op_modN opd_mod (pv_callTy call_int1 bd_int rfl Z.m_int bt_int (av_cons (pv_op op_mul opd_mul (pv_op op_addA opd_add (pv_op op_addA opd_add (pv_op op_addA opd_add (pv_op op_modN opd_mod (pv_callTy call_int1 bd_int rfl Z.m_int bt_int (av_cons (pv_var (i := 3) rfl (by first | exact .inl rfl | exact .inr (.inl rfl) | exact .inr (.inr rfl))) av_nil)) pv_int) (pv_op op_mul opd_mul (pv_op op_mul opd_mul pv_int (pv_var (i := 1) rfl (by first | exact .inl rfl | exact .inr (.inl rfl) | exact .inr (.inr rfl)))) (pv_var (i := 1) rfl (by first | exact .inl rfl | exact .inr (.inl rfl) | exact .inr (.inr rfl))))) (pv_op op_mul opd_mul pv_int (pv_var (i := 1) rfl (by first | exact .inl rfl | exact .inr (.inl rfl) | exact .inr (.inr rfl))))) pv_int) pv_int) av_nil)) pv_int))
    (ssv_one (sv_ret (pv_lstC (av_cons (pv_op op_mul opd_mul (pv_var (i := 3) rfl (by first | exact .inl rfl | exact .inr (.inl rfl) | exact .inr (.inr rfl))) (pv_callTy call_int1 bd_int rfl Z.m_int bt_int (av_cons (pv_cmp op_ge opd_ge (pv_var (i := 3) rfl (by first | exact .inl rfl | exact .inr (.inl rfl) | exact .inr (.inr rfl))) (pv_op op_pow opd_pow pv_int pv_int) (by with_unfolding_all rfl)) av_nil))) (av_cons (pv_var (i := 4) rfl (by first | exact .inl rfl | exact .inr (.inl rfl) | exact .inr (.inr rfl))) av_nil)))))))))
  exact ⟨fd, G, F.bindsN fun _ _ _ _ _ _ us hl => match us, hl with | [_, _], _ => rfl, Z.d_fn__law_pool.mg, F.kp⟩
theorem sc_fn__law_take : FnScope (["_law_pool_here", "_law_bound", "_law_result"]) ["_law_pool_here", "_law_bound"] (defScope (top 71)) := C8.fnScope_by (by decide +kernel)
theorem ok_fn__law_take (Z : Fx K mg) : DefOk P w K mg base 1 "_law_take" ["_law_pool_here", "_law_bound"] fn__law_take := by
  obtain ⟨fd, F⟩ := Z.d_fn__law_take.fd
  have S := sc_fn__law_take
  have G : FnOk P w K mg base (L2.CX P w) 1 (He.ga K "_law_take") fd ["_law_pool_here", "_law_bound"] (spOf K mg 2 fn__law_take) := fn_ok F S (by decide) fun cdv A outer s H E hr tk => by
    have hu := room65 hr
    have hu1 := room1 hr
    have hu64 := Room.units hr
    exact (ssv_cons (sv_if (tv_cmp op_gt opd_gt (pv_ix hu1 (pv_var (i := 0) rfl (by first | exact .inl rfl | exact .inr (.inl rfl) | exact .inr (.inr rfl))) pv_int) pv_int (by with_unfolding_all rfl)) (ssv_cons (sv_set S.nd (i := 2) rfl (by first | exact .inl rfl | exact .inr rfl) (pv_op op_modN opd_mod (pv_callTy call_int1 bd_int rfl Z.m_int bt_int (av_cons (pv_ix hu1 (pv_var (i := 0) rfl (by first | exact .inl rfl | exact .inr (.inl rfl) | exact .inr (.inr rfl))) pv_int) av_nil)) (pv_var (i := 1) rfl (by first | exact .inl rfl | exact .inr (.inl rfl) | exact .inr (.inr rfl)))))
    (ssv_cons (sv_putI hu1 (pv_op op_fdivN opd_fdiv (pv_ix hu1 (pv_var (i := 0) rfl (by first | exact .inl rfl | exact .inr (.inl rfl) | exact .inr (.inr rfl))) pv_int) (pv_var (i := 1) rfl (by first | exact .inl rfl | exact .inr (.inl rfl) | exact .inr (.inr rfl)))) (pv_var (i := 0) rfl (by first | exact .inl rfl | exact .inr (.inl rfl) | exact .inr (.inr rfl))) pv_int)
    (ssv_one (sv_ret (pv_var (i := 2) rfl (by first | exact .inl rfl | exact .inr (.inl rfl) | exact .inr (.inr rfl))))))) ssv_nil)
    (ssv_cons (sv_putI hu1 (pv_op op_modN opd_mod (pv_callTy call_int1 bd_int rfl Z.m_int bt_int (av_cons (pv_op op_addA opd_add (pv_op op_mul opd_mul (pv_ix hu1 (pv_var (i := 0) rfl (by first | exact .inl rfl | exact .inr (.inl rfl) | exact .inr (.inr rfl))) pv_int) pv_int) pv_int) av_nil)) pv_int) (pv_var (i := 0) rfl (by first | exact .inl rfl | exact .inr (.inl rfl) | exact .inr (.inr rfl))) pv_int)
    (ssv_one (sv_ret (pv_op op_modN opd_mod (pv_callTy call_int1 bd_int rfl Z.m_int bt_int (av_cons (pv_op op_fdivN opd_fdiv (pv_op op_modN opd_mod (pv_callTy call_int1 bd_int rfl Z.m_int bt_int (av_cons (pv_op op_mul opd_mul (pv_ix hu1 (pv_var (i := 0) rfl (by first | exact .inl rfl | exact .inr (.inl rfl) | exact .inr (.inr rfl))) pv_int) (pv_ix hu1 (pv_var (i := 0) rfl (by first | exact .inl rfl | exact .inr (.inl rfl) | exact .inr (.inr rfl))) pv_int)) av_nil)) pv_int) pv_int) av_nil)) (pv_var (i := 1) rfl (by first | exact .inl rfl | exact .inr (.inl rfl) | exact .inr (.inr rfl))))))))
  exact ⟨fd, G, F.bindsN fun _ _ _ _ _ _ us hl => match us, hl with | [_, _], _ => rfl, Z.d_fn__law_take.mg, F.kp⟩
theorem sc_fn__law_turned : FnScope (["_law_pool_here", "_law_things", "_law_left", "_law_found"]) ["_law_pool_here", "_law_things"] (defScope (top 73)) := C8.fnScope_by (by decide +kernel)
theorem ok_fn__law_turned (Z : Fx K mg) : DefOk P w K mg base 2 "_law_turned" ["_law_pool_here", "_law_things"] fn__law_turned := by
  obtain ⟨fd, F⟩ := Z.d_fn__law_turned.fd
  obtain ⟨fd_fn__law_take, G_fn__law_take, B_fn__law_take, M_fn__law_take, K_fn__law_take⟩ := ok_fn__law_take (P := P) (w := w) (base := base) Z
  have S := sc_fn__law_turned
  have G : FnOk P w K mg base (L2.CX P w) 2 (He.ga K "_law_turned") fd ["_law_pool_here", "_law_things"] (spOf K mg 2 fn__law_turned) := fn_ok F S (by decide) fun cdv A outer s H E hr tk => by
    have hu := room65 hr
    have hu1 := room1 hr
    have hu64 := Room.units hr
    exact (ssv_cons (sv_par (i := 2) (j := 3) rfl S.nd rfl rfl (by decide) rfl rfl (av_cons (pv_listC rfl Z.m_list bt_list (av_cons (pv_var (i := 1) rfl (by first | exact .inl rfl | exact .inr (.inl rfl) | exact .inr (.inr rfl))) av_nil)) (av_cons (pv_lstC av_nil) av_nil)) rfl)
    (ssv_cons (sv_while 64 (passes_of rfl) (tv_cmp (op_neD hu64) opd_ne (pv_var (i := 2) rfl (by first | exact .inl rfl | exact .inr (.inl rfl) | exact .inr (.inr rfl))) (pv_lst av_nil) (by with_unfolding_all rfl)) (ssv_one (sv_expr (pv_lm PySem.F.slot_list_append PySem.F.type_list_append mt_append lm_append (pv_var (i := 3) rfl (by first | exact .inl rfl | exact .inr (.inl rfl) | exact .inr (.inr rfl))) (av_cons (pv_lm PySem.F.slot_list_pop PySem.F.type_list_pop mt_popAt lm_popAt (pv_var (i := 2) rfl (by first | exact .inl rfl | exact .inr (.inl rfl) | exact .inr (.inr rfl))) (av_cons (pv_call G_fn__law_take (hr.mono (by decide)) rfl M_fn__law_take K_fn__law_take B_fn__law_take .nil DflW.nil tk (av_cons (pv_var (i := 0) rfl (by first | exact .inl rfl | exact .inr (.inl rfl) | exact .inr (.inr rfl))) (av_cons (pv_callB call_lenA bd_len rfl Z.m_len bt_len (av_cons (pv_var (i := 2) rfl (by first | exact .inl rfl | exact .inr (.inl rfl) | exact .inr (.inr rfl))) av_nil)) av_nil))) av_nil)) av_nil)))))
    (ssv_one (sv_ret (pv_var (i := 3) rfl (by first | exact .inl rfl | exact .inr (.inl rfl) | exact .inr (.inr rfl)))))))
  exact ⟨fd, G, F.bindsN fun _ _ _ _ _ _ us hl => match us, hl with | [_, _], _ => rfl, Z.d_fn__law_turned.mg, F.kp⟩
theorem sc_fn__law_one : FnScope (["_law_pool_here", "_law_things"]) ["_law_pool_here", "_law_things"] (defScope (top 72)) := C8.fnScope_by (by decide +kernel)
theorem ok_fn__law_one (Z : Fx K mg) : DefOk P w K mg base 2 "_law_one" ["_law_pool_here", "_law_things"] fn__law_one := by
  obtain ⟨fd, F⟩ := Z.d_fn__law_one.fd
  obtain ⟨fd_fn__law_take, G_fn__law_take, B_fn__law_take, M_fn__law_take, K_fn__law_take⟩ := ok_fn__law_take (P := P) (w := w) (base := base) Z
  have S := sc_fn__law_one
  have G : FnOk P w K mg base (L2.CX P w) 2 (He.ga K "_law_one") fd ["_law_pool_here", "_law_things"] (spOf K mg 2 fn__law_one) := fn_ok F S (by decide) fun cdv A outer s H E hr tk => by
    have hu := room65 hr
    have hu1 := room1 hr
    have hu64 := Room.units hr
    exact (ssv_one (sv_ret (pv_ix hu1 (pv_var (i := 1) rfl (by first | exact .inl rfl | exact .inr (.inl rfl) | exact .inr (.inr rfl))) (pv_call G_fn__law_take (hr.mono (by decide)) rfl M_fn__law_take K_fn__law_take B_fn__law_take .nil DflW.nil tk (av_cons (pv_var (i := 0) rfl (by first | exact .inl rfl | exact .inr (.inl rfl) | exact .inr (.inr rfl))) (av_cons (pv_callB call_lenA bd_len rfl Z.m_len bt_len (av_cons (pv_var (i := 1) rfl (by first | exact .inl rfl | exact .inr (.inl rfl) | exact .inr (.inr rfl))) av_nil)) av_nil))))))
  exact ⟨fd, G, F.bindsN fun _ _ _ _ _ _ us hl => match us, hl with | [_, _], _ => rfl, Z.d_fn__law_one.mg, F.kp⟩
theorem sc_fn__law_rules : FnScope (["_law_pool_here", "_law_top", "_law_rows", "_law_turn", "_law_words_here", "_law_found"]) ["_law_pool_here", "_law_top"] (defScope (top 76)) := C8.fnScope_by (by decide +kernel)
theorem ok_fn__law_rules (Z : Fx K mg) : DefOk P w K mg base 3 "_law_rules" ["_law_pool_here", "_law_top"] fn__law_rules := by
  obtain ⟨fd, F⟩ := Z.d_fn__law_rules.fd
  obtain ⟨fd_fn__law_take, G_fn__law_take, B_fn__law_take, M_fn__law_take, K_fn__law_take⟩ := ok_fn__law_take (P := P) (w := w) (base := base) Z
  obtain ⟨fd_fn__law_turned, G_fn__law_turned, B_fn__law_turned, M_fn__law_turned, K_fn__law_turned⟩ := ok_fn__law_turned (P := P) (w := w) (base := base) Z
  obtain ⟨fd_fn__law_one, G_fn__law_one, B_fn__law_one, M_fn__law_one, K_fn__law_one⟩ := ok_fn__law_one (P := P) (w := w) (base := base) Z
  have S := sc_fn__law_rules
  have G : FnOk P w K mg base (L2.CX P w) 3 (He.ga K "_law_rules") fd ["_law_pool_here", "_law_top"] (spOf K mg 2 fn__law_rules) := fn_ok F S (by decide) fun cdv A outer s H E hr tk => by
    have hu := room65 hr
    have hu1 := room1 hr
    have hu64 := Room.units hr
    exact (ssv_cons (sv_set S.nd (i := 2) rfl (by first | exact .inl rfl | exact .inr rfl) (pv_lstC av_nil))
    (ssv_cons (sv_for (passes_of rfl) rfl (iv_range1 rfl Z.m_range (pv_call G_fn__law_take (hr.mono (by decide)) rfl M_fn__law_take K_fn__law_take B_fn__law_take .nil DflW.nil tk (av_cons (pv_var (i := 0) rfl (by first | exact .inl rfl | exact .inr (.inl rfl) | exact .inr (.inr rfl))) (av_cons pv_int av_nil)))) (gg_name S.nd (i := 3) rfl (by first | exact .inl rfl | exact .inr rfl)) (ssv_cons (sv_set S.nd (i := 4) rfl (by first | exact .inl rfl | exact .inr rfl) (pv_callTy call_tuple_of bd_tuple rfl Z.m_tuple bt_tuple (av_cons (pv_callB cr_sortedS bd_sorted rfl Z.m_sorted bt_sorted (av_cons (pv_slice (pv_call G_fn__law_turned (hr.mono (by decide)) rfl M_fn__law_turned K_fn__law_turned B_fn__law_turned .nil DflW.nil tk (av_cons (pv_var (i := 0) rfl (by first | exact .inl rfl | exact .inr (.inl rfl) | exact .inr (.inr rfl))) (av_cons (pv_lst (av_cons pv_str (av_cons pv_str (av_cons pv_str av_nil)))) av_nil))) ov_none (ov_some (pv_op op_addA opd_add pv_int (pv_call G_fn__law_take (hr.mono (by decide)) rfl M_fn__law_take K_fn__law_take B_fn__law_take .nil DflW.nil tk (av_cons (pv_var (i := 0) rfl (by first | exact .inl rfl | exact .inr (.inl rfl) | exact .inr (.inr rfl))) (av_cons pv_int av_nil)))))) av_nil)) av_nil)))
    (ssv_one (sv_expr (pv_lm PySem.F.slot_list_append PySem.F.type_list_append mt_append lm_append (pv_var (i := 2) rfl (by first | exact .inl rfl | exact .inr (.inl rfl) | exact .inr (.inr rfl))) (av_cons (pv_tup (av_cons (pv_call G_fn__law_one (hr.mono (by decide)) rfl M_fn__law_one K_fn__law_one B_fn__law_one .nil DflW.nil tk (av_cons (pv_var (i := 0) rfl (by first | exact .inl rfl | exact .inr (.inl rfl) | exact .inr (.inr rfl))) (av_cons (pv_lst (av_cons pv_str (av_cons pv_str (av_cons pv_str (av_cons pv_str av_nil))))) av_nil))) (av_cons (pv_var (i := 4) rfl (by first | exact .inl rfl | exact .inr (.inl rfl) | exact .inr (.inr rfl))) av_nil))) av_nil))))))
    (ssv_cons (sv_set S.nd (i := 5) rfl (by first | exact .inl rfl | exact .inr rfl) (pv_dctC (pps_s (pv_op op_addA opd_add pv_int (pv_call G_fn__law_take (hr.mono (by decide)) rfl M_fn__law_take K_fn__law_take B_fn__law_take .nil DflW.nil tk (av_cons (pv_var (i := 0) rfl (by first | exact .inl rfl | exact .inr (.inl rfl) | exact .inr (.inr rfl))) (av_cons (pv_var (i := 1) rfl (by first | exact .inl rfl | exact .inr (.inl rfl) | exact .inr (.inr rfl))) av_nil)))) (pps_s (pv_cmp (op_eqD hu64) opd_eq (pv_call G_fn__law_take (hr.mono (by decide)) rfl M_fn__law_take K_fn__law_take B_fn__law_take .nil DflW.nil tk (av_cons (pv_var (i := 0) rfl (by first | exact .inl rfl | exact .inr (.inl rfl) | exact .inr (.inr rfl))) (av_cons pv_int av_nil))) pv_int (by with_unfolding_all rfl)) pps_n))))
    (ssv_cons (sv_put2 hu1 rfl (av_cons (pv_cmp (op_eqD hu64) opd_eq (pv_call G_fn__law_take (hr.mono (by decide)) rfl M_fn__law_take K_fn__law_take B_fn__law_take .nil DflW.nil tk (av_cons (pv_var (i := 0) rfl (by first | exact .inl rfl | exact .inr (.inl rfl) | exact .inr (.inr rfl))) (av_cons pv_int av_nil))) pv_int (by with_unfolding_all rfl)) (av_cons (pv_cmp (op_eqD hu64) opd_eq (pv_call G_fn__law_take (hr.mono (by decide)) rfl M_fn__law_take K_fn__law_take B_fn__law_take .nil DflW.nil tk (av_cons (pv_var (i := 0) rfl (by first | exact .inl rfl | exact .inr (.inl rfl) | exact .inr (.inr rfl))) (av_cons pv_int av_nil))) pv_int (by with_unfolding_all rfl)) av_nil)) (pv_var (i := 5) rfl (by first | exact .inl rfl | exact .inr (.inl rfl) | exact .inr (.inr rfl))) pv_str (pv_var (i := 5) rfl (by first | exact .inl rfl | exact .inr (.inl rfl) | exact .inr (.inr rfl))) pv_str)
    (ssv_cons (sv_put2 hu1 rfl (av_cons (pv_call G_fn__law_one (hr.mono (by decide)) rfl M_fn__law_one K_fn__law_one B_fn__law_one .nil DflW.nil tk (av_cons (pv_var (i := 0) rfl (by first | exact .inl rfl | exact .inr (.inl rfl) | exact .inr (.inr rfl))) (av_cons (pv_lst (av_cons pv_str (av_cons pv_str av_nil))) av_nil))) (av_cons (pv_call G_fn__law_one (hr.mono (by decide)) rfl M_fn__law_one K_fn__law_one B_fn__law_one .nil DflW.nil tk (av_cons (pv_var (i := 0) rfl (by first | exact .inl rfl | exact .inr (.inl rfl) | exact .inr (.inr rfl))) (av_cons (pv_lst (av_cons pv_str (av_cons pv_str av_nil))) av_nil))) av_nil)) (pv_var (i := 5) rfl (by first | exact .inl rfl | exact .inr (.inl rfl) | exact .inr (.inr rfl))) pv_str (pv_var (i := 5) rfl (by first | exact .inl rfl | exact .inr (.inl rfl) | exact .inr (.inr rfl))) pv_str)
    (ssv_cons (sv_putI hu1 (pv_callTy call_tuple_of bd_tuple rfl Z.m_tuple bt_tuple (av_cons (pv_var (i := 2) rfl (by first | exact .inl rfl | exact .inr (.inl rfl) | exact .inr (.inr rfl))) av_nil)) (pv_var (i := 5) rfl (by first | exact .inl rfl | exact .inr (.inl rfl) | exact .inr (.inr rfl))) pv_str)
    (ssv_one (sv_ret (pv_var (i := 5) rfl (by first | exact .inl rfl | exact .inr (.inl rfl) | exact .inr (.inr rfl)))))))))))
  exact ⟨fd, G, F.bindsN fun _ _ _ _ _ _ us hl => match us, hl with | [_, _], _ => rfl, Z.d_fn__law_rules.mg, F.kp⟩
theorem sc_fn__law_words : FnScope (["_law_pool_here"]) ["_law_pool_here"] (defScope (top 74)) := C8.fnScope_by (by decide +kernel)
theorem ok_fn__law_words (Z : Fx K mg) : DefOk P w K mg base 3 "_law_words" ["_law_pool_here"] fn__law_words := by
  obtain ⟨fd, F⟩ := Z.d_fn__law_words.fd
  obtain ⟨fd_fn__law_one, G_fn__law_one, B_fn__law_one, M_fn__law_one, K_fn__law_one⟩ := ok_fn__law_one (P := P) (w := w) (base := base) Z
  have S := sc_fn__law_words
  have G : FnOk P w K mg base (L2.CX P w) 3 (He.ga K "_law_words") fd ["_law_pool_here"] (spOf K mg 1 fn__law_words) := fn_ok F S (by decide) fun cdv A outer s H E hr tk => by
    have hu := room65 hr
    have hu1 := room1 hr
    have hu64 := Room.units hr
    exact (ssv_one (sv_ret (pv_call G_fn__law_one (hr.mono (by decide)) rfl M_fn__law_one K_fn__law_one B_fn__law_one .nil DflW.nil tk (av_cons (pv_var (i := 0) rfl (by first | exact .inl rfl | exact .inr (.inl rfl) | exact .inr (.inr rfl))) (av_cons (pv_lst (av_cons (pv_lst (av_cons pv_str (av_cons pv_str (av_cons pv_str (av_cons pv_str av_nil))))) (av_cons (pv_lst (av_cons pv_str (av_cons pv_str (av_cons pv_str (av_cons pv_str av_nil))))) (av_cons (pv_lst (av_cons pv_str (av_cons pv_str (av_cons pv_str (av_cons pv_str av_nil))))) av_nil)))) av_nil)))))
  exact ⟨fd, G, F.bindsN fun _ _ _ _ _ _ us hl => match us, hl with | [_], _ => rfl, Z.d_fn__law_words.mg, F.kp⟩
theorem sc_fn__law_land : FnScope (["_law_pool_here", "_law_top", "_law_one_here", "_law_two", "_law_three", "_law_four", "_law_some", "_law_houses", "_law_barred"]) ["_law_pool_here", "_law_top"] (defScope (top 75)) := C8.fnScope_by (by decide +kernel)
theorem ok_fn__law_land (Z : Fx K mg) : DefOk P w K mg base 4 "_law_land" ["_law_pool_here", "_law_top"] fn__law_land := by
  obtain ⟨fd, F⟩ := Z.d_fn__law_land.fd
  obtain ⟨fd_fn__law_words, G_fn__law_words, B_fn__law_words, M_fn__law_words, K_fn__law_words⟩ := ok_fn__law_words (P := P) (w := w) (base := base) Z
  obtain ⟨fd_fn__law_turned, G_fn__law_turned, B_fn__law_turned, M_fn__law_turned, K_fn__law_turned⟩ := ok_fn__law_turned (P := P) (w := w) (base := base) Z
  obtain ⟨fd_fn__law_take, G_fn__law_take, B_fn__law_take, M_fn__law_take, K_fn__law_take⟩ := ok_fn__law_take (P := P) (w := w) (base := base) Z
  have S := sc_fn__law_land
  have G : FnOk P w K mg base (L2.CX P w) 4 (He.ga K "_law_land") fd ["_law_pool_here", "_law_top"] (spOf K mg 2 fn__law_land) := fn_ok F S (by decide) fun cdv A outer s H E hr tk => by
    have hu := room65 hr
    have hu1 := room1 hr
    have hu64 := Room.units hr
    exact (ssv_cons (sv_asg (pv_call G_fn__law_words (hr.mono (by decide)) rfl M_fn__law_words K_fn__law_words B_fn__law_words .nil DflW.nil tk (av_cons (pv_var (i := 0) rfl (by first | exact .inl rfl | exact .inr (.inl rfl) | exact .inr (.inr rfl))) av_nil)) (gg_tup rfl (gg_cons (gg_name S.nd (i := 2) rfl (by first | exact .inl rfl | exact .inr rfl)) (gg_cons (gg_name S.nd (i := 3) rfl (by first | exact .inl rfl | exact .inr rfl)) (gg_cons (gg_name S.nd (i := 4) rfl (by first | exact .inl rfl | exact .inr rfl)) (gg_cons (gg_name S.nd (i := 5) rfl (by first | exact .inl rfl | exact .inr rfl)) gg_nil))))))
    (ssv_cons (sv_set S.nd (i := 6) rfl (by first | exact .inl rfl | exact .inr rfl) (pv_lst (av_cons (pv_tup (av_cons (pv_var (i := 2) rfl (by first | exact .inl rfl | exact .inr (.inl rfl) | exact .inr (.inr rfl))) (av_cons (pv_var (i := 3) rfl (by first | exact .inl rfl | exact .inr (.inl rfl) | exact .inr (.inr rfl))) av_nil))) (av_cons (pv_tup (av_cons (pv_var (i := 2) rfl (by first | exact .inl rfl | exact .inr (.inl rfl) | exact .inr (.inr rfl))) (av_cons (pv_var (i := 4) rfl (by first | exact .inl rfl | exact .inr (.inl rfl) | exact .inr (.inr rfl))) av_nil))) (av_cons (pv_tup (av_cons (pv_var (i := 2) rfl (by first | exact .inl rfl | exact .inr (.inl rfl) | exact .inr (.inr rfl))) (av_cons (pv_var (i := 3) rfl (by first | exact .inl rfl | exact .inr (.inl rfl) | exact .inr (.inr rfl))) (av_cons (pv_var (i := 4) rfl (by first | exact .inl rfl | exact .inr (.inl rfl) | exact .inr (.inr rfl))) av_nil)))) (av_cons (pv_tup (av_cons (pv_var (i := 2) rfl (by first | exact .inl rfl | exact .inr (.inl rfl) | exact .inr (.inr rfl))) av_nil)) (av_cons (pv_tup (av_cons (pv_var (i := 5) rfl (by first | exact .inl rfl | exact .inr (.inl rfl) | exact .inr (.inr rfl))) (av_cons (pv_var (i := 3) rfl (by first | exact .inl rfl | exact .inr (.inl rfl) | exact .inr (.inr rfl))) av_nil))) (av_cons (pv_tup (av_cons (pv_var (i := 5) rfl (by first | exact .inl rfl | exact .inr (.inl rfl) | exact .inr (.inr rfl))) av_nil)) (av_cons (pv_tup (av_cons (pv_var (i := 2) rfl (by first | exact .inl rfl | exact .inr (.inl rfl) | exact .inr (.inr rfl))) (av_cons (pv_var (i := 3) rfl (by first | exact .inl rfl | exact .inr (.inl rfl) | exact .inr (.inr rfl))) (av_cons (pv_var (i := 5) rfl (by first | exact .inl rfl | exact .inr (.inl rfl) | exact .inr (.inr rfl))) av_nil)))) (av_cons (pv_tup (av_cons (pv_var (i := 3) rfl (by first | exact .inl rfl | exact .inr (.inl rfl) | exact .inr (.inr rfl))) av_nil)) av_nil))))))))))
    (ssv_cons (sv_set S.nd (i := 7) rfl (by first | exact .inl rfl | exact .inr rfl) (pv_slice (pv_call G_fn__law_turned (hr.mono (by decide)) rfl M_fn__law_turned K_fn__law_turned B_fn__law_turned .nil DflW.nil tk (av_cons (pv_var (i := 0) rfl (by first | exact .inl rfl | exact .inr (.inl rfl) | exact .inr (.inr rfl))) (av_cons (pv_var (i := 6) rfl (by first | exact .inl rfl | exact .inr (.inl rfl) | exact .inr (.inr rfl))) av_nil))) ov_none (ov_some (pv_op op_addA opd_add pv_int (pv_call G_fn__law_take (hr.mono (by decide)) rfl M_fn__law_take K_fn__law_take B_fn__law_take .nil DflW.nil tk (av_cons (pv_var (i := 0) rfl (by first | exact .inl rfl | exact .inr (.inl rfl) | exact .inr (.inr rfl))) (av_cons (pv_var (i := 1) rfl (by first | exact .inl rfl | exact .inr (.inl rfl) | exact .inr (.inr rfl))) av_nil)))))))
    (ssv_cons (sv_set S.nd (i := 8) rfl (by first | exact .inl rfl | exact .inr rfl) (pv_slice (pv_call G_fn__law_turned (hr.mono (by decide)) rfl M_fn__law_turned K_fn__law_turned B_fn__law_turned .nil DflW.nil tk (av_cons (pv_var (i := 0) rfl (by first | exact .inl rfl | exact .inr (.inl rfl) | exact .inr (.inr rfl))) (av_cons (pv_lst (av_cons (pv_tup (av_cons (pv_var (i := 2) rfl (by first | exact .inl rfl | exact .inr (.inl rfl) | exact .inr (.inr rfl))) av_nil)) (av_cons (pv_tup (av_cons (pv_var (i := 5) rfl (by first | exact .inl rfl | exact .inr (.inl rfl) | exact .inr (.inr rfl))) av_nil)) (av_cons (pv_tup (av_cons (pv_var (i := 2) rfl (by first | exact .inl rfl | exact .inr (.inl rfl) | exact .inr (.inr rfl))) (av_cons (pv_var (i := 3) rfl (by first | exact .inl rfl | exact .inr (.inl rfl) | exact .inr (.inr rfl))) av_nil))) (av_cons (pv_tup (av_cons (pv_var (i := 3) rfl (by first | exact .inl rfl | exact .inr (.inl rfl) | exact .inr (.inr rfl))) av_nil)) av_nil))))) av_nil))) ov_none (ov_some (pv_call G_fn__law_take (hr.mono (by decide)) rfl M_fn__law_take K_fn__law_take B_fn__law_take .nil DflW.nil tk (av_cons (pv_var (i := 0) rfl (by first | exact .inl rfl | exact .inr (.inl rfl) | exact .inr (.inr rfl))) (av_cons pv_int av_nil))))))
    (ssv_one (sv_ret (pv_dct (pps_s (pv_var (i := 7) rfl (by first | exact .inl rfl | exact .inr (.inl rfl) | exact .inr (.inr rfl))) (pps_s (pv_var (i := 8) rfl (by first | exact .inl rfl | exact .inr (.inl rfl) | exact .inr (.inr rfl))) pps_n)))))))))
  exact ⟨fd, G, F.bindsN fun _ _ _ _ _ _ us hl => match us, hl with | [_, _], _ => rfl, Z.d_fn__law_land.mg, F.kp⟩
end
end Lw
set_option Elab.async false
set_option linter.all false
set_option maxRecDepth 100000
set_option maxHeartbeats 0
namespace Lw
open PySem PySem.Spec PyProof.Rows L2 DL
section
variable {P : Program} {w : World} {K : PySem.W.Frag} {mg : (Str → Option Value)} {base : Heap}
theorem sc_fn_is_whole : FnScope (["value"]) ["value"] (defScope (top 13)) := C8.fnScope_by (by decide +kernel)
theorem ok_fn_is_whole (Z : Fx K mg) : DefOk P w K mg base 1 "is_whole" ["value"] fn_is_whole := by
  obtain ⟨fd, F⟩ := Z.d_fn_is_whole.fd
  have S := sc_fn_is_whole
  have G : FnOk P w K mg base (L2.CX P w) 1 (He.ga K "is_whole") fd ["value"] (spOf K mg 1 fn_is_whole) := fn_ok F S (by decide) fun cdv A outer s H E hr tk => by
    have hu := room65 hr
    have hu1 := room1 hr
    have hu64 := Room.units hr
    exact (ssv_one (sv_ret (pv_and (pv_callB call_isiA bd_isi rfl Z.m_isinstance bt_isinstance (av_cons (pv_var (i := 0) rfl (by first | exact .inl rfl | exact .inr (.inl rfl) | exact .inr (.inr rfl))) (av_cons (pv_ty rfl Z.m_int bt_int) av_nil))) (pv_one (pv_notV (pv_callB call_isiA bd_isi rfl Z.m_isinstance bt_isinstance (av_cons (pv_var (i := 0) rfl (by first | exact .inl rfl | exact .inr (.inl rfl) | exact .inr (.inr rfl))) (av_cons (pv_ty rfl Z.m_bool bt_bool) av_nil))))))))
  exact ⟨fd, G, F.bindsN fun _ _ _ _ _ _ us hl => match us, hl with | [_], _ => rfl, Z.d_fn_is_whole.mg, F.kp⟩
theorem sc_fn_is_number : FnScope (["value", "low", "high"]) ["value", "low", "high"] (defScope (top 14)) := C8.fnScope_by (by decide +kernel)
theorem ok_fn_is_number (Z : Fx K mg) : DefOk P w K mg base 2 "is_number" ["value", "low", "high"] fn_is_number := by
  obtain ⟨fd, F⟩ := Z.d_fn_is_number.fd
  obtain ⟨fd_fn_is_whole, G_fn_is_whole, B_fn_is_whole, M_fn_is_whole, K_fn_is_whole⟩ := ok_fn_is_whole (P := P) (w := w) (base := base) Z
  have S := sc_fn_is_number
  have G : FnOk P w K mg base (L2.CX P w) 2 (He.ga K "is_number") fd ["value", "low", "high"] (spOf K mg 3 fn_is_number) := fn_ok F S (by decide) fun cdv A outer s H E hr tk => by
    have hu := room65 hr
    have hu1 := room1 hr
    have hu64 := Room.units hr
    exact (ssv_one (sv_ret (pv_and (pv_call G_fn_is_whole (hr.mono (by decide)) rfl M_fn_is_whole K_fn_is_whole B_fn_is_whole .nil DflW.nil tk (av_cons (pv_var (i := 0) rfl (by first | exact .inl rfl | exact .inr (.inl rfl) | exact .inr (.inr rfl))) av_nil)) (pv_one (pv_chain op_le op_le opd_le opd_le (pv_var (i := 1) rfl (by first | exact .inl rfl | exact .inr (.inl rfl) | exact .inr (.inr rfl))) (pv_var (i := 0) rfl (by first | exact .inl rfl | exact .inr (.inl rfl) | exact .inr (.inr rfl))) (pv_var (i := 2) rfl (by first | exact .inl rfl | exact .inr (.inl rfl) | exact .inr (.inr rfl))))))))
  exact ⟨fd, G, F.bindsN fun _ _ _ _ _ _ us hl => match us, hl with | [_, _, _], _ => rfl, Z.d_fn_is_number.mg, F.kp⟩
theorem sc_fn_is_one_of : FnScope (["value", "words"]) ["value", "words"] (defScope (top 19)) := C8.fnScope_by (by decide +kernel)
theorem ok_fn_is_one_of (Z : Fx K mg) : DefOk P w K mg base 1 "is_one_of" ["value", "words"] fn_is_one_of := by
  obtain ⟨fd, F⟩ := Z.d_fn_is_one_of.fd
  have S := sc_fn_is_one_of
  have G : FnOk P w K mg base (L2.CX P w) 1 (He.ga K "is_one_of") fd ["value", "words"] (spOf K mg 2 fn_is_one_of) := fn_ok F S (by decide) fun cdv A outer s H E hr tk => by
    have hu := room65 hr
    have hu1 := room1 hr
    have hu64 := Room.units hr
    exact (ssv_one (sv_ret (pv_and (pv_callB call_isiA bd_isi rfl Z.m_isinstance bt_isinstance (av_cons (pv_var (i := 0) rfl (by first | exact .inl rfl | exact .inr (.inl rfl) | exact .inr (.inr rfl))) (av_cons (pv_ty rfl Z.m_str bt_str) av_nil))) (pv_one (pv_cmp (op_inA hu) opd_in (pv_var (i := 0) rfl (by first | exact .inl rfl | exact .inr (.inl rfl) | exact .inr (.inr rfl))) (pv_var (i := 1) rfl (by first | exact .inl rfl | exact .inr (.inl rfl) | exact .inr (.inr rfl))) (by with_unfolding_all rfl))))))
  exact ⟨fd, G, F.bindsN fun _ _ _ _ _ _ us hl => match us, hl with | [_, _], _ => rfl, Z.d_fn_is_one_of.mg, F.kp⟩
theorem sc_fn_is_row : FnScope (["value"]) ["value"] (defScope (top 16)) := C8.fnScope_by (by decide +kernel)
theorem ok_fn_is_row (Z : Fx K mg) : DefOk P w K mg base 1 "is_row" ["value"] fn_is_row := by
  obtain ⟨fd, F⟩ := Z.d_fn_is_row.fd
  have S := sc_fn_is_row
  have G : FnOk P w K mg base (L2.CX P w) 1 (He.ga K "is_row") fd ["value"] (spOf K mg 1 fn_is_row) := fn_ok F S (by decide) fun cdv A outer s H E hr tk => by
    have hu := room65 hr
    have hu1 := room1 hr
    have hu64 := Room.units hr
    exact (ssv_one (sv_ret (pv_callB call_isiA bd_isi rfl Z.m_isinstance bt_isinstance (av_cons (pv_var (i := 0) rfl (by first | exact .inl rfl | exact .inr (.inl rfl) | exact .inr (.inr rfl))) (av_cons (pv_tup (av_cons (pv_ty rfl Z.m_list bt_list) (av_cons (pv_ty rfl Z.m_tuple bt_tuple) av_nil))) av_nil)))))
  exact ⟨fd, G, F.bindsN fun _ _ _ _ _ _ us hl => match us, hl with | [_], _ => rfl, Z.d_fn_is_row.mg, F.kp⟩
theorem sc_fn_is_word : FnScope (["value", "sign"]) ["value"] (defScope (top 15)) := C8.fnScope_by (by decide +kernel)
theorem ok_fn_is_word_s (Z : Fx K mg) : DefOk P w K mg base 1 "is_word" ["value"] fn_is_word_s := by
  obtain ⟨fd, F⟩ := Z.d_fn_is_word.fd
  have S := sc_fn_is_word
  have G : FnOk P w K mg base (L2.CX P w) 1 (He.ga K "is_word") fd ["value"] (spOf K mg 1 fn_is_word_s) := fn_ok F S (by decide) fun cdv A outer s H E hr tk => by
    have hu := room65 hr
    have hu1 := room1 hr
    have hu64 := Room.units hr
    exact (ssv_cons (sv_if (tv_w (wv_or (tv_not (tv_val (pv_callB call_isiA bd_isi rfl Z.m_isinstance bt_isinstance (av_cons (pv_var (i := 0) rfl (by first | exact .inl rfl | exact .inr (.inl rfl) | exact .inr (.inr rfl))) (av_cons (pv_ty rfl Z.m_str bt_str) av_nil))))) (wv_or1 (tv_not (tv_chain op_le op_le opd_le opd_le pv_int (pv_callB call_lenA bd_len rfl Z.m_len bt_len (av_cons (pv_var (i := 0) rfl (by first | exact .inl rfl | exact .inr (.inl rfl) | exact .inr (.inr rfl))) av_nil)) (pv_con Z.v_MOST_LETTERS rfl)))))) (ssv_one (sv_ret pv_bl)) ssv_nil)
    (ssv_one (sv_ret (pv_callB (cr_all rfl) bd_all rfl Z.m_all bt_all (av_cons (pv_lc (own := [("sign", 1)]) rfl S.nd (iv_any (pv_var (i := 0) rfl (by first | exact .inl rfl | exact .inr (.inl rfl) | exact .inr (.inr rfl)))) (blkOk_by (by kernel_rfl)) (fun _ _ _ _ _ => (gg_name S.nd (i := 1) rfl (by first | exact .inl rfl | exact .inr rfl))) (by decide) (fun _ _ _ _ _ => tsv_nil) (fun _ _ _ _ _ => (pv_cmp (op_inA hu) opd_in (pv_var (i := 1) rfl (by first | exact .inl rfl | exact .inr (.inl rfl) | exact .inr (.inr rfl))) (pv_con Z.v_LETTERS rfl) (by with_unfolding_all rfl)))) av_nil)))))
  exact ⟨fd, G, F.bindsN fun _ _ _ _ _ _ us hl => match us, hl with | [_], _ => rfl, Z.d_fn_is_word.mg, F.kp⟩
theorem ok_fn_is_word (Z : Fx K mg) : DefOk P w K mg base 1 "is_word" ["value"] fn_is_word := (ok_fn_is_word_s Z).le le_fn_is_word
theorem sc_fn_are_of : FnScope (["value", "words", "word"]) ["value", "words"] (defScope (top 18)) := C8.fnScope_by (by decide +kernel)
theorem ok_fn_are_of (Z : Fx K mg) : DefOk P w K mg base 1 "are_of" ["value", "words"] fn_are_of := by
  obtain ⟨fd, F⟩ := Z.d_fn_are_of.fd
  have S := sc_fn_are_of
  have G : FnOk P w K mg base (L2.CX P w) 1 (He.ga K "are_of") fd ["value", "words"] (spOf K mg 2 fn_are_of) := fn_ok F S (by decide) fun cdv A outer s H E hr tk => by
    have hu := room65 hr
    have hu1 := room1 hr
    have hu64 := Room.units hr
    exact (ssv_cons (sv_if (tv_w (wv_or (tv_not (tv_val (pv_callB call_isiA bd_isi rfl Z.m_isinstance bt_isinstance (av_cons (pv_var (i := 0) rfl (by first | exact .inl rfl | exact .inr (.inl rfl) | exact .inr (.inr rfl))) (av_cons (pv_ty rfl Z.m_tuple bt_tuple) av_nil))))) (wv_or1 (tv_not (tv_val (pv_callB (cr_all rfl) bd_all rfl Z.m_all bt_all (av_cons (pv_lc (own := [("word", 2)]) rfl S.nd (iv_any (pv_var (i := 0) rfl (by first | exact .inl rfl | exact .inr (.inl rfl) | exact .inr (.inr rfl)))) (blkOk_by (by kernel_rfl)) (fun _ _ _ _ _ => (gg_name S.nd (i := 2) rfl (by first | exact .inl rfl | exact .inr rfl))) (by decide) (fun _ _ _ _ _ => tsv_nil) (fun _ _ _ _ _ => (pv_callB call_isiA bd_isi rfl Z.m_isinstance bt_isinstance (av_cons (pv_var (i := 2) rfl (by first | exact .inl rfl | exact .inr (.inl rfl) | exact .inr (.inr rfl))) (av_cons (pv_ty rfl Z.m_str bt_str) av_nil))))) av_nil))))))) (ssv_one (sv_ret pv_bl)) ssv_nil)
    (ssv_one (sv_ret (pv_cmp (op_eqD hu64) opd_eq (pv_var (i := 0) rfl (by first | exact .inl rfl | exact .inr (.inl rfl) | exact .inr (.inr rfl))) (pv_callTy call_tuple_of bd_tuple rfl Z.m_tuple bt_tuple (av_cons (pv_lc (own := [("word", 2)]) rfl S.nd (iv_any (pv_var (i := 1) rfl (by first | exact .inl rfl | exact .inr (.inl rfl) | exact .inr (.inr rfl)))) (blkOk_by (by kernel_rfl)) (fun _ _ _ _ _ => (gg_name S.nd (i := 2) rfl (by first | exact .inl rfl | exact .inr rfl))) (by decide) (fun _ _ _ _ _ => (tsv_one (tv_cmp (op_inA hu) opd_in (pv_var (i := 2) rfl (by first | exact .inl rfl | exact .inr (.inl rfl) | exact .inr (.inr rfl))) (pv_var (i := 0) rfl (by first | exact .inl rfl | exact .inr (.inl rfl) | exact .inr (.inr rfl))) (by with_unfolding_all rfl)))) (fun _ _ _ _ _ => (pv_var (i := 2) rfl (by first | exact .inl rfl | exact .inr (.inl rfl) | exact .inr (.inr rfl))))) av_nil)) (by with_unfolding_all rfl)))))
  exact ⟨fd, G, F.bindsN fun _ _ _ _ _ _ us hl => match us, hl with | [_, _], _ => rfl, Z.d_fn_are_of.mg, F.kp⟩
theorem sc_fn_is_name_rule : FnScope (["value"]) ["value"] (defScope (top 64)) := C8.fnScope_by (by decide +kernel)
theorem ok_fn_is_name_rule (Z : Fx K mg) : DefOk P w K mg base 2 "is_name_rule" ["value"] fn_is_name_rule := by
  obtain ⟨fd, F⟩ := Z.d_fn_is_name_rule.fd
  obtain ⟨fd_fn_is_word, G_fn_is_word, B_fn_is_word, M_fn_is_word, K_fn_is_word⟩ := ok_fn_is_word (P := P) (w := w) (base := base) Z
  obtain ⟨fd_fn_are_of, G_fn_are_of, B_fn_are_of, M_fn_are_of, K_fn_are_of⟩ := ok_fn_are_of (P := P) (w := w) (base := base) Z
  have S := sc_fn_is_name_rule
  have G : FnOk P w K mg base (L2.CX P w) 2 (He.ga K "is_name_rule") fd ["value"] (spOf K mg 1 fn_is_name_rule) := fn_ok F S (by decide) fun cdv A outer s H E hr tk => by
    have hu := room65 hr
    have hu1 := room1 hr
    have hu64 := Room.units hr
    exact (ssv_cons (sv_if (tv_w (wv_or (tv_not (tv_val (pv_callB call_isiA bd_isi rfl Z.m_isinstance bt_isinstance (av_cons (pv_var (i := 0) rfl (by first | exact .inl rfl | exact .inr (.inl rfl) | exact .inr (.inr rfl))) (av_cons (pv_ty rfl Z.m_tuple bt_tuple) av_nil))))) (wv_or (tv_cmp (op_neD hu64) opd_ne (pv_callB call_lenA bd_len rfl Z.m_len bt_len (av_cons (pv_var (i := 0) rfl (by first | exact .inl rfl | exact .inr (.inl rfl) | exact .inr (.inr rfl))) av_nil)) pv_int (by with_unfolding_all rfl)) (wv_or1 (tv_not (tv_val (pv_call G_fn_is_word (hr.mono (by decide)) rfl M_fn_is_word K_fn_is_word B_fn_is_word .nil DflW.nil tk (av_cons (pv_ix hu1 (pv_var (i := 0) rfl (by first | exact .inl rfl | exact .inr (.inl rfl) | exact .inr (.inr rfl))) pv_int) av_nil)))))))) (ssv_one (sv_ret pv_bl)) ssv_nil)
    (ssv_one (sv_ret (pv_and (pv_call G_fn_are_of (hr.mono (by decide)) rfl M_fn_are_of K_fn_are_of B_fn_are_of .nil DflW.nil tk (av_cons (pv_ix hu1 (pv_var (i := 0) rfl (by first | exact .inl rfl | exact .inr (.inl rfl) | exact .inr (.inr rfl))) pv_int) (av_cons (pv_con Z.v_CONDITIONS rfl) av_nil))) (pv_one (pv_cmp (op_neD hu64) opd_ne (pv_ix hu1 (pv_var (i := 0) rfl (by first | exact .inl rfl | exact .inr (.inl rfl) | exact .inr (.inr rfl))) pv_int) (pv_tup av_nil) (by with_unfolding_all rfl)))))))
  exact ⟨fd, G, F.bindsN fun _ _ _ _ _ _ us hl => match us, hl with | [_], _ => rfl, Z.d_fn_is_name_rule.mg, F.kp⟩
end
end Lw
set_option Elab.async false
set_option linter.all false
set_option maxRecDepth 100000
set_option maxHeartbeats 0
namespace Lw
open PySem PySem.Spec PyProof.Rows L2 DL
section
variable {P : Program} {w : World} {K : PySem.W.Frag} {mg : (Str → Option Value)} {base : Heap}
theorem sc_fn_are_names : FnScope (["value", "rule"]) ["value"] (defScope (top 65)) := C8.fnScope_by (by decide +kernel)
theorem ok_fn_are_names (Z : Fx K mg) : DefOk P w K mg base 3 "are_names" ["value"] fn_are_names := by
  obtain ⟨fd, F⟩ := Z.d_fn_are_names.fd
  obtain ⟨fd_fn_is_row, G_fn_is_row, B_fn_is_row, M_fn_is_row, K_fn_is_row⟩ := ok_fn_is_row (P := P) (w := w) (base := base) Z
  obtain ⟨fd_fn_is_name_rule, G_fn_is_name_rule, B_fn_is_name_rule, M_fn_is_name_rule, K_fn_is_name_rule⟩ := ok_fn_is_name_rule (P := P) (w := w) (base := base) Z
  have S := sc_fn_are_names
  have G : FnOk P w K mg base (L2.CX P w) 3 (He.ga K "are_names") fd ["value"] (spOf K mg 1 fn_are_names) := fn_ok F S (by decide) fun cdv A outer s H E hr tk => by
    have hu := room65 hr
    have hu1 := room1 hr
    have hu64 := Room.units hr
    exact (ssv_one (sv_ret (pv_and (pv_call G_fn_is_row (hr.mono (by decide)) rfl M_fn_is_row K_fn_is_row B_fn_is_row .nil DflW.nil tk (av_cons (pv_var (i := 0) rfl (by first | exact .inl rfl | exact .inr (.inl rfl) | exact .inr (.inr rfl))) av_nil)) (pv_and (pv_cmp op_le opd_le (pv_callB call_lenA bd_len rfl Z.m_len bt_len (av_cons (pv_var (i := 0) rfl (by first | exact .inl rfl | exact .inr (.inl rfl) | exact .inr (.inr rfl))) av_nil)) (pv_con Z.v_MOST_NAMES rfl) (by with_unfolding_all rfl)) (pv_one (pv_callB (cr_all rfl) bd_all rfl Z.m_all bt_all (av_cons (pv_lc (own := [("rule", 1)]) rfl S.nd (iv_any (pv_var (i := 0) rfl (by first | exact .inl rfl | exact .inr (.inl rfl) | exact .inr (.inr rfl)))) (blkOk_by (by kernel_rfl)) (fun _ _ _ _ _ => (gg_name S.nd (i := 1) rfl (by first | exact .inl rfl | exact .inr rfl))) (by decide) (fun _ _ _ _ _ => tsv_nil) (fun _ _ _ _ _ => (pv_call G_fn_is_name_rule (hr.mono (by decide)) rfl M_fn_is_name_rule K_fn_is_name_rule B_fn_is_name_rule .nil DflW.nil DL.takes0 (av_cons (pv_var (i := 1) rfl (by first | exact .inl rfl | exact .inr (.inl rfl) | exact .inr (.inr rfl))) av_nil)))) av_nil)))))))
  exact ⟨fd, G, F.bindsN fun _ _ _ _ _ _ us hl => match us, hl with | [_], _ => rfl, Z.d_fn_are_names.mg, F.kp⟩
theorem sc_fn_look_at_parts : FnScope (["parts", "name"]) ["parts"] (defScope (top 66)) := C8.fnScope_by (by decide +kernel)
theorem ok_fn_look_at_parts (Z : Fx K mg) : DefOk P w K mg base 4 "look_at_parts" ["parts"] fn_look_at_parts := by
  obtain ⟨fd, F⟩ := Z.d_fn_look_at_parts.fd
  obtain ⟨fd_fn_is_number, G_fn_is_number, B_fn_is_number, M_fn_is_number, K_fn_is_number⟩ := ok_fn_is_number (P := P) (w := w) (base := base) Z
  obtain ⟨fd_fn_is_one_of, G_fn_is_one_of, B_fn_is_one_of, M_fn_is_one_of, K_fn_is_one_of⟩ := ok_fn_is_one_of (P := P) (w := w) (base := base) Z
  obtain ⟨fd_fn_are_names, G_fn_are_names, B_fn_are_names, M_fn_are_names, K_fn_are_names⟩ := ok_fn_are_names (P := P) (w := w) (base := base) Z
  have S := sc_fn_look_at_parts
  have G : FnOk P w K mg base (L2.CX P w) 4 (He.ga K "look_at_parts") fd ["parts"] (spOf K mg 1 fn_look_at_parts) := fn_ok F S (by decide) fun cdv A outer s H E hr tk => by
    have hu := room65 hr
    have hu1 := room1 hr
    have hu64 := Room.units hr
    exact (ssv_cons (sv_if (tv_not (tv_val (pv_call G_fn_is_number (hr.mono (by decide)) rfl M_fn_is_number K_fn_is_number B_fn_is_number .nil DflW.nil tk (av_cons (pv_ix hu1 (pv_var (i := 0) rfl (by first | exact .inl rfl | exact .inr (.inl rfl) | exact .inr (.inr rfl))) pv_str) (av_cons pv_int (av_cons (pv_con Z.v_MOST_KEPT rfl) av_nil)))))) (ssv_one sv_stuck) ssv_nil)
    (ssv_cons (sv_for (passes_of rfl) rfl (iv_any (pv_slice (pv_con Z.v_PARTS rfl) (ov_some pv_int) (ov_some pv_int))) (gg_name S.nd (i := 1) rfl (by first | exact .inl rfl | exact .inr rfl)) (ssv_one (sv_if (tv_not (tv_val (pv_callB call_isiA bd_isi rfl Z.m_isinstance bt_isinstance (av_cons (pv_ix hu1 (pv_var (i := 0) rfl (by first | exact .inl rfl | exact .inr (.inl rfl) | exact .inr (.inr rfl))) (pv_var (i := 1) rfl (by first | exact .inl rfl | exact .inr (.inl rfl) | exact .inr (.inr rfl)))) (av_cons (pv_ty rfl Z.m_bool bt_bool) av_nil))))) (ssv_one sv_stuck) ssv_nil)))
    (ssv_cons (sv_if (tv_not (tv_val (pv_call G_fn_is_one_of (hr.mono (by decide)) rfl M_fn_is_one_of K_fn_is_one_of B_fn_is_one_of .nil DflW.nil tk (av_cons (pv_ix hu1 (pv_var (i := 0) rfl (by first | exact .inl rfl | exact .inr (.inl rfl) | exact .inr (.inr rfl))) pv_str) (av_cons (pv_con Z.v_DROPS rfl) av_nil))))) (ssv_one sv_stuck) ssv_nil)
    (ssv_cons (sv_if (tv_not (tv_val (pv_call G_fn_is_one_of (hr.mono (by decide)) rfl M_fn_is_one_of K_fn_is_one_of B_fn_is_one_of .nil DflW.nil tk (av_cons (pv_ix hu1 (pv_var (i := 0) rfl (by first | exact .inl rfl | exact .inr (.inl rfl) | exact .inr (.inr rfl))) pv_str) (av_cons (pv_con Z.v_FIRSTS rfl) av_nil))))) (ssv_one sv_stuck) ssv_nil)
    (ssv_one (sv_if (tv_not (tv_val (pv_call G_fn_are_names (hr.mono (by decide)) rfl M_fn_are_names K_fn_are_names B_fn_are_names .nil DflW.nil tk (av_cons (pv_ix hu1 (pv_var (i := 0) rfl (by first | exact .inl rfl | exact .inr (.inl rfl) | exact .inr (.inr rfl))) pv_str) av_nil)))) (ssv_one sv_stuck) ssv_nil))))))
  exact ⟨fd, G, F.bindsN fun _ _ _ _ _ _ us hl => match us, hl with | [_], _ => rfl, Z.d_fn_look_at_parts.mg, F.kp⟩
theorem sc_fn_Rules_init : FnScope (["self", "most", "wide_key", "renewed", "guarded", "drop", "first", "names"]) ["self", "most", "wide_key", "renewed", "guarded", "drop", "first", "names"] (defScope (clsStmt (top 67) 0)) := C8.fnScope_by (by decide +kernel)
theorem ok_fn_Rules_init (Z : Fx K mg) : ∃ fd, FunD K "__init__" "Rules.__init__" (defArgs (clsStmt (top 67) 0)) (defBody (clsStmt (top 67) 0)) (defScope (clsStmt (top 67) 0)) [.int 3] [("wide_key", .bl true), ("renewed", .bl false), ("guarded", .bl false), ("drop", .str "eldest"), ("first", .str "elder"), ("names", .ref (He.kwAt ("Rules", some "__init__") "names" K))] (He.ma K (He.ga K "Rules") "__init__") fd ∧ FnOk P w K mg base (L2.CX P w) 5 (He.ma K (He.ga K "Rules") "__init__") fd ["self", "most", "wide_key", "renewed", "guarded", "drop", "first", "names"] (spOf K mg 8 fn_Rules_init) := by
  obtain ⟨fd, F⟩ := Z.d_fn_Rules_init.fd
  obtain ⟨fd_fn_look_at_parts, G_fn_look_at_parts, B_fn_look_at_parts, M_fn_look_at_parts, K_fn_look_at_parts⟩ := ok_fn_look_at_parts (P := P) (w := w) (base := base) Z
  have S := sc_fn_Rules_init
  refine ⟨fd, F, fn_ok F S (by decide) fun cdv A outer s H E hr tk => by
    have hu := room65 hr
    have hu1 := room1 hr
    have hu64 := Room.units hr
    exact (ssv_cons (sv_expr (pv_call G_fn_look_at_parts (hr.mono (by decide)) rfl M_fn_look_at_parts K_fn_look_at_parts B_fn_look_at_parts .nil DflW.nil tk (av_cons (pv_dictZip rfl rfl Z.m_dict rfl Z.m_zip (av_cons (pv_con Z.v_PARTS rfl) (av_cons (pv_tup (av_cons (pv_var (i := 1) rfl (by first | exact .inl rfl | exact .inr (.inl rfl) | exact .inr (.inr rfl))) (av_cons (pv_var (i := 2) rfl (by first | exact .inl rfl | exact .inr (.inl rfl) | exact .inr (.inr rfl))) (av_cons (pv_var (i := 3) rfl (by first | exact .inl rfl | exact .inr (.inl rfl) | exact .inr (.inr rfl))) (av_cons (pv_var (i := 4) rfl (by first | exact .inl rfl | exact .inr (.inl rfl) | exact .inr (.inr rfl))) (av_cons (pv_var (i := 5) rfl (by first | exact .inl rfl | exact .inr (.inl rfl) | exact .inr (.inr rfl))) (av_cons (pv_var (i := 6) rfl (by first | exact .inl rfl | exact .inr (.inl rfl) | exact .inr (.inr rfl))) (av_cons (pv_var (i := 7) rfl (by first | exact .inl rfl | exact .inr (.inl rfl) | exact .inr (.inr rfl))) av_nil)))))))) av_nil))) av_nil)))
    (ssv_cons (sv_fldSet Z.k_Rules Z.n_Rules_most (pv_var (i := 0) rfl (by first | exact .inl rfl | exact .inr (.inl rfl) | exact .inr (.inr rfl))) (pv_var (i := 1) rfl (by first | exact .inl rfl | exact .inr (.inl rfl) | exact .inr (.inr rfl))))
    (ssv_cons (sv_fldSet Z.k_Rules Z.n_Rules_wide_key (pv_var (i := 0) rfl (by first | exact .inl rfl | exact .inr (.inl rfl) | exact .inr (.inr rfl))) (pv_var (i := 2) rfl (by first | exact .inl rfl | exact .inr (.inl rfl) | exact .inr (.inr rfl))))
    (ssv_cons (sv_fldSet Z.k_Rules Z.n_Rules_renewed (pv_var (i := 0) rfl (by first | exact .inl rfl | exact .inr (.inl rfl) | exact .inr (.inr rfl))) (pv_var (i := 3) rfl (by first | exact .inl rfl | exact .inr (.inl rfl) | exact .inr (.inr rfl))))
    (ssv_cons (sv_fldSet Z.k_Rules Z.n_Rules_guarded (pv_var (i := 0) rfl (by first | exact .inl rfl | exact .inr (.inl rfl) | exact .inr (.inr rfl))) (pv_var (i := 4) rfl (by first | exact .inl rfl | exact .inr (.inl rfl) | exact .inr (.inr rfl))))
    (ssv_cons (sv_fldSet Z.k_Rules Z.n_Rules_drop (pv_var (i := 0) rfl (by first | exact .inl rfl | exact .inr (.inl rfl) | exact .inr (.inr rfl))) (pv_var (i := 5) rfl (by first | exact .inl rfl | exact .inr (.inl rfl) | exact .inr (.inr rfl))))
    (ssv_cons (sv_fldSet Z.k_Rules Z.n_Rules_first (pv_var (i := 0) rfl (by first | exact .inl rfl | exact .inr (.inl rfl) | exact .inr (.inr rfl))) (pv_var (i := 6) rfl (by first | exact .inl rfl | exact .inr (.inl rfl) | exact .inr (.inr rfl))))
    (ssv_cons (sv_fldSet Z.k_Rules Z.n_Rules_names (pv_var (i := 0) rfl (by first | exact .inl rfl | exact .inr (.inl rfl) | exact .inr (.inr rfl))) (pv_callTy call_tuple_of bd_tuple rfl Z.m_tuple bt_tuple (av_cons (pv_var (i := 7) rfl (by first | exact .inl rfl | exact .inr (.inl rfl) | exact .inr (.inr rfl))) av_nil)))
    (ssv_one (sv_fldSet Z.k_Rules Z.n_Rules_record (pv_var (i := 0) rfl (by first | exact .inl rfl | exact .inr (.inl rfl) | exact .inr (.inr rfl))) (pv_tup (av_cons (pv_var (i := 1) rfl (by first | exact .inl rfl | exact .inr (.inl rfl) | exact .inr (.inr rfl))) (av_cons (pv_var (i := 2) rfl (by first | exact .inl rfl | exact .inr (.inl rfl) | exact .inr (.inr rfl))) (av_cons (pv_var (i := 3) rfl (by first | exact .inl rfl | exact .inr (.inl rfl) | exact .inr (.inr rfl))) (av_cons (pv_var (i := 4) rfl (by first | exact .inl rfl | exact .inr (.inl rfl) | exact .inr (.inr rfl))) (av_cons (pv_var (i := 5) rfl (by first | exact .inl rfl | exact .inr (.inl rfl) | exact .inr (.inr rfl))) (av_cons (pv_var (i := 6) rfl (by first | exact .inl rfl | exact .inr (.inl rfl) | exact .inr (.inr rfl))) (av_cons (pv_fld Z.k_Rules Z.n_Rules_names (pv_var (i := 0) rfl (by first | exact .inl rfl | exact .inr (.inl rfl) | exact .inr (.inr rfl)))) av_nil))))))))))))))))))⟩
theorem sc_fn__law_made_rules : FnScope (["_law_own"]) ["_law_own"] (defScope (top 84)) := C8.fnScope_by (by decide +kernel)
theorem ok_fn__law_made_rules (Z : Fx K mg) : DefOk P w K mg base 7 "_law_made_rules" ["_law_own"] fn__law_made_rules := by
  obtain ⟨fd, F⟩ := Z.d_fn__law_made_rules.fd
  obtain ⟨fd_fn_Rules_init, F_fn_Rules_init, G_fn_Rules_init⟩ := ok_fn_Rules_init (P := P) (w := w) (base := base) Z
  have E_fn_Rules_init := Z.d_fn_Rules_init.me
  obtain ⟨its_bd_Rules_1_wide_key_renewed_guarded_drop_first_names, mv_bd_Rules_1_wide_key_renewed_guarded_drop_first_names, KB_bd_Rules_1_wide_key_renewed_guarded_drop_first_names⟩ := kb_bd_Rules_1_wide_key_renewed_guarded_drop_first_names F_fn_Rules_init
  have GO_bd_Rules_1_wide_key_renewed_guarded_drop_first_names := go_bd_Rules_1_wide_key_renewed_guarded_drop_first_names (K := K) (mg := mg) Z
  have S := sc_fn__law_made_rules
  have G : FnOk P w K mg base (L2.CX P w) 7 (He.ga K "_law_made_rules") fd ["_law_own"] (spOf K mg 1 fn__law_made_rules) := fn_ok F S (by decide) fun cdv A outer s H E hr tk => by
    have hu := room65 hr
    have hu1 := room1 hr
    have hu64 := Room.units hr
    exact (ssv_one (sv_ret (pv_makeK (keep := false) (ks := ["wide_key", "renewed", "guarded", "drop", "first", "names"]) (n := 8) Z.k_Rules Z.mk_Rules G_fn_Rules_init (hr.mono (by decide)) rfl KB_bd_Rules_1_wide_key_renewed_guarded_drop_first_names GO_bd_Rules_1_wide_key_renewed_guarded_drop_first_names (av_cons (pv_ix hu1 (pv_var (i := 0) rfl (by first | exact .inl rfl | exact .inr (.inl rfl) | exact .inr (.inr rfl))) pv_str) av_nil) (kv_cons (pv_ix hu1 (pv_var (i := 0) rfl (by first | exact .inl rfl | exact .inr (.inl rfl) | exact .inr (.inr rfl))) pv_str) (kv_cons (pv_ix hu1 (pv_var (i := 0) rfl (by first | exact .inl rfl | exact .inr (.inl rfl) | exact .inr (.inr rfl))) pv_str) (kv_cons (pv_ix hu1 (pv_var (i := 0) rfl (by first | exact .inl rfl | exact .inr (.inl rfl) | exact .inr (.inr rfl))) pv_str) (kv_cons (pv_ix hu1 (pv_var (i := 0) rfl (by first | exact .inl rfl | exact .inr (.inl rfl) | exact .inr (.inr rfl))) pv_str) (kv_cons (pv_ix hu1 (pv_var (i := 0) rfl (by first | exact .inl rfl | exact .inr (.inl rfl) | exact .inr (.inr rfl))) pv_str) (kv_cons (pv_ix hu1 (pv_var (i := 0) rfl (by first | exact .inl rfl | exact .inr (.inl rfl) | exact .inr (.inr rfl))) pv_str) kv_nil)))))))))
  exact ⟨fd, G, F.bindsN fun _ _ _ _ _ _ us hl => match us, hl with | [_], _ => rfl, Z.d_fn__law_made_rules.mg, F.kp⟩
theorem sc_fn_are_words : FnScope (["value", "low", "high", "word"]) ["value", "low", "high"] (defScope (top 17)) := C8.fnScope_by (by decide +kernel)
theorem ok_fn_are_words (Z : Fx K mg) : DefOk P w K mg base 2 "are_words" ["value", "low", "high"] fn_are_words := by
  obtain ⟨fd, F⟩ := Z.d_fn_are_words.fd
  obtain ⟨fd_fn_is_word, G_fn_is_word, B_fn_is_word, M_fn_is_word, K_fn_is_word⟩ := ok_fn_is_word (P := P) (w := w) (base := base) Z
  have S := sc_fn_are_words
  have G : FnOk P w K mg base (L2.CX P w) 2 (He.ga K "are_words") fd ["value", "low", "high"] (spOf K mg 3 fn_are_words) := fn_ok F S (by decide) fun cdv A outer s H E hr tk => by
    have hu := room65 hr
    have hu1 := room1 hr
    have hu64 := Room.units hr
    exact (ssv_one (sv_ret (pv_and (pv_callB call_isiA bd_isi rfl Z.m_isinstance bt_isinstance (av_cons (pv_var (i := 0) rfl (by first | exact .inl rfl | exact .inr (.inl rfl) | exact .inr (.inr rfl))) (av_cons (pv_ty rfl Z.m_tuple bt_tuple) av_nil))) (pv_and (pv_chain op_le op_le opd_le opd_le (pv_var (i := 1) rfl (by first | exact .inl rfl | exact .inr (.inl rfl) | exact .inr (.inr rfl))) (pv_callB call_lenA bd_len rfl Z.m_len bt_len (av_cons (pv_var (i := 0) rfl (by first | exact .inl rfl | exact .inr (.inl rfl) | exact .inr (.inr rfl))) av_nil)) (pv_var (i := 2) rfl (by first | exact .inl rfl | exact .inr (.inl rfl) | exact .inr (.inr rfl)))) (pv_one (pv_callB (cr_all rfl) bd_all rfl Z.m_all bt_all (av_cons (pv_lc (own := [("word", 3)]) rfl S.nd (iv_any (pv_var (i := 0) rfl (by first | exact .inl rfl | exact .inr (.inl rfl) | exact .inr (.inr rfl)))) (blkOk_by (by kernel_rfl)) (fun _ _ _ _ _ => (gg_name S.nd (i := 3) rfl (by first | exact .inl rfl | exact .inr rfl))) (by decide) (fun _ _ _ _ _ => tsv_nil) (fun _ _ _ _ _ => (pv_call G_fn_is_word (hr.mono (by decide)) rfl M_fn_is_word K_fn_is_word B_fn_is_word .nil DflW.nil DL.takes0 (av_cons (pv_var (i := 3) rfl (by first | exact .inl rfl | exact .inr (.inl rfl) | exact .inr (.inr rfl))) av_nil)))) av_nil)))))))
  exact ⟨fd, G, F.bindsN fun _ _ _ _ _ _ us hl => match us, hl with | [_, _, _], _ => rfl, Z.d_fn_are_words.mg, F.kp⟩
theorem sc_fn_is_host : FnScope (["value"]) ["value"] (defScope (top 25)) := C8.fnScope_by (by decide +kernel)
theorem ok_fn_is_host (Z : Fx K mg) : DefOk P w K mg base 3 "is_host" ["value"] fn_is_host := by
  obtain ⟨fd, F⟩ := Z.d_fn_is_host.fd
  obtain ⟨fd_fn_are_words, G_fn_are_words, B_fn_are_words, M_fn_are_words, K_fn_are_words⟩ := ok_fn_are_words (P := P) (w := w) (base := base) Z
  have S := sc_fn_is_host
  have G : FnOk P w K mg base (L2.CX P w) 3 (He.ga K "is_host") fd ["value"] (spOf K mg 1 fn_is_host) := fn_ok F S (by decide) fun cdv A outer s H E hr tk => by
    have hu := room65 hr
    have hu1 := room1 hr
    have hu64 := Room.units hr
    exact (ssv_one (sv_ret (pv_call G_fn_are_words (hr.mono (by decide)) rfl M_fn_are_words K_fn_are_words B_fn_are_words .nil DflW.nil tk (av_cons (pv_var (i := 0) rfl (by first | exact .inl rfl | exact .inr (.inl rfl) | exact .inr (.inr rfl))) (av_cons pv_int (av_cons (pv_con Z.v_MOST_WORDS rfl) av_nil))))))
  exact ⟨fd, G, F.bindsN fun _ _ _ _ _ _ us hl => match us, hl with | [_], _ => rfl, Z.d_fn_is_host.mg, F.kp⟩
theorem sc_fn_are_hosts : FnScope (["value", "low", "high", "host"]) ["value", "low", "high"] (defScope (top 30)) := C8.fnScope_by (by decide +kernel)
theorem ok_fn_are_hosts (Z : Fx K mg) : DefOk P w K mg base 4 "are_hosts" ["value", "low", "high"] fn_are_hosts := by
  obtain ⟨fd, F⟩ := Z.d_fn_are_hosts.fd
  obtain ⟨fd_fn_is_row, G_fn_is_row, B_fn_is_row, M_fn_is_row, K_fn_is_row⟩ := ok_fn_is_row (P := P) (w := w) (base := base) Z
  obtain ⟨fd_fn_is_host, G_fn_is_host, B_fn_is_host, M_fn_is_host, K_fn_is_host⟩ := ok_fn_is_host (P := P) (w := w) (base := base) Z
  have S := sc_fn_are_hosts
  have G : FnOk P w K mg base (L2.CX P w) 4 (He.ga K "are_hosts") fd ["value", "low", "high"] (spOf K mg 3 fn_are_hosts) := fn_ok F S (by decide) fun cdv A outer s H E hr tk => by
    have hu := room65 hr
    have hu1 := room1 hr
    have hu64 := Room.units hr
    exact (ssv_cons (sv_if (tv_w (wv_or (tv_not (tv_val (pv_call G_fn_is_row (hr.mono (by decide)) rfl M_fn_is_row K_fn_is_row B_fn_is_row .nil DflW.nil tk (av_cons (pv_var (i := 0) rfl (by first | exact .inl rfl | exact .inr (.inl rfl) | exact .inr (.inr rfl))) av_nil)))) (wv_or (tv_not (tv_chain op_le op_le opd_le opd_le (pv_var (i := 1) rfl (by first | exact .inl rfl | exact .inr (.inl rfl) | exact .inr (.inr rfl))) (pv_callB call_lenA bd_len rfl Z.m_len bt_len (av_cons (pv_var (i := 0) rfl (by first | exact .inl rfl | exact .inr (.inl rfl) | exact .inr (.inr rfl))) av_nil)) (pv_var (i := 2) rfl (by first | exact .inl rfl | exact .inr (.inl rfl) | exact .inr (.inr rfl))))) (wv_or1 (tv_not (tv_val (pv_callB (cr_all rfl) bd_all rfl Z.m_all bt_all (av_cons (pv_lc (own := [("host", 3)]) rfl S.nd (iv_any (pv_var (i := 0) rfl (by first | exact .inl rfl | exact .inr (.inl rfl) | exact .inr (.inr rfl)))) (blkOk_by (by kernel_rfl)) (fun _ _ _ _ _ => (gg_name S.nd (i := 3) rfl (by first | exact .inl rfl | exact .inr rfl))) (by decide) (fun _ _ _ _ _ => tsv_nil) (fun _ _ _ _ _ => (pv_call G_fn_is_host (hr.mono (by decide)) rfl M_fn_is_host K_fn_is_host B_fn_is_host .nil DflW.nil DL.takes0 (av_cons (pv_var (i := 3) rfl (by first | exact .inl rfl | exact .inr (.inl rfl) | exact .inr (.inr rfl))) av_nil)))) av_nil)))))))) (ssv_one (sv_ret pv_bl)) ssv_nil)
    (ssv_one (sv_ret (pv_cmp (op_eqD hu64) opd_eq (pv_callB call_lenA bd_len rfl Z.m_len bt_len (av_cons (pv_dcN (own := [("host", 3)]) hu rfl S.nd (iv_any (pv_var (i := 0) rfl (by first | exact .inl rfl | exact .inr (.inl rfl) | exact .inr (.inr rfl)))) (blkOk_by (by kernel_rfl)) (fun _ _ _ _ _ => (gg_name S.nd (i := 3) rfl (by first | exact .inl rfl | exact .inr rfl))) (by decide) (fun _ _ _ _ _ => tsv_nil) (fun _ _ _ _ _ => (pv_var (i := 3) rfl (by first | exact .inl rfl | exact .inr (.inl rfl) | exact .inr (.inr rfl))))) av_nil)) (pv_callB call_lenA bd_len rfl Z.m_len bt_len (av_cons (pv_var (i := 0) rfl (by first | exact .inl rfl | exact .inr (.inl rfl) | exact .inr (.inr rfl))) av_nil)) (by with_unfolding_all rfl)))))
  exact ⟨fd, G, F.bindsN fun _ _ _ _ _ _ us hl => match us, hl with | [_, _, _], _ => rfl, Z.d_fn_are_hosts.mg, F.kp⟩
end
end Lw
set_option Elab.async false
set_option linter.all false
set_option maxRecDepth 100000
set_option maxHeartbeats 0
namespace Lw
open PySem PySem.Spec PyProof.Rows L2 DL
section
variable {P : Program} {w : World} {K : PySem.W.Frag} {mg : (Str → Option Value)} {base : Heap}
theorem sc_fn_Land_init : FnScope (["self", "houses", "common"]) ["self", "houses", "common"] (defScope (clsStmt (top 31) 0)) := C8.fnScope_by (by decide +kernel)
theorem ok_fn_Land_init (Z : Fx K mg) : ∃ fd, FunD K "__init__" "Land.__init__" (defArgs (clsStmt (top 31) 0)) (defBody (clsStmt (top 31) 0)) (defScope (clsStmt (top 31) 0)) [.ref (He.dflAt ("Land", some "__init__") 0 K)] [] (He.ma K (He.ga K "Land") "__init__") fd ∧ FnOk P w K mg base (L2.CX P w) 5 (He.ma K (He.ga K "Land") "__init__") fd ["self", "houses", "common"] (spOf K mg 3 fn_Land_init) := by
  obtain ⟨fd, F⟩ := Z.d_fn_Land_init.fd
  obtain ⟨fd_fn_are_hosts, G_fn_are_hosts, B_fn_are_hosts, M_fn_are_hosts, K_fn_are_hosts⟩ := ok_fn_are_hosts (P := P) (w := w) (base := base) Z
  have S := sc_fn_Land_init
  refine ⟨fd, F, fn_ok F S (by decide) fun cdv A outer s H E hr tk => by
    have hu := room65 hr
    have hu1 := room1 hr
    have hu64 := Room.units hr
    exact (ssv_cons (sv_if (tv_not (tv_val (pv_call G_fn_are_hosts (hr.mono (by decide)) rfl M_fn_are_hosts K_fn_are_hosts B_fn_are_hosts .nil DflW.nil tk (av_cons (pv_var (i := 1) rfl (by first | exact .inl rfl | exact .inr (.inl rfl) | exact .inr (.inr rfl))) (av_cons pv_int (av_cons (pv_con Z.v_MOST_HOUSES rfl) av_nil)))))) (ssv_one sv_stuck) ssv_nil)
    (ssv_cons (sv_if (tv_not (tv_val (pv_call G_fn_are_hosts (hr.mono (by decide)) rfl M_fn_are_hosts K_fn_are_hosts B_fn_are_hosts .nil DflW.nil tk (av_cons (pv_var (i := 2) rfl (by first | exact .inl rfl | exact .inr (.inl rfl) | exact .inr (.inr rfl))) (av_cons pv_int (av_cons (pv_con Z.v_MOST_COMMON rfl) av_nil)))))) (ssv_one sv_stuck) ssv_nil)
    (ssv_cons (sv_fldSet Z.k_Land Z.n_Land_own_houses (pv_var (i := 0) rfl (by first | exact .inl rfl | exact .inr (.inl rfl) | exact .inr (.inr rfl))) (pv_callTy call_list_of bd_list rfl Z.m_list bt_list (av_cons (pv_var (i := 1) rfl (by first | exact .inl rfl | exact .inr (.inl rfl) | exact .inr (.inr rfl))) av_nil)))
    (ssv_one (sv_fldSet Z.k_Land Z.n_Land_own_common (pv_var (i := 0) rfl (by first | exact .inl rfl | exact .inr (.inl rfl) | exact .inr (.inr rfl))) (pv_callTy call_list_of bd_list rfl Z.m_list bt_list (av_cons (pv_var (i := 2) rfl (by first | exact .inl rfl | exact .inr (.inl rfl) | exact .inr (.inr rfl))) av_nil)))))))⟩
theorem sc_fn__law_made_land : FnScope (["_law_land_here"]) ["_law_land_here"] (defScope (top 83)) := C8.fnScope_by (by decide +kernel)
theorem ok_fn__law_made_land (Z : Fx K mg) : DefOk P w K mg base 7 "_law_made_land" ["_law_land_here"] fn__law_made_land := by
  obtain ⟨fd, F⟩ := Z.d_fn__law_made_land.fd
  obtain ⟨fd_fn_Land_init, F_fn_Land_init, G_fn_Land_init⟩ := ok_fn_Land_init (P := P) (w := w) (base := base) Z
  have E_fn_Land_init := Z.d_fn_Land_init.me
  obtain ⟨ds_fn_Land_init, r_fn_Land_init, B_fn_Land_init⟩ := F_fn_Land_init.binds1 (ps := ["self", "houses", "common"]) 3 1 (by simp) rfl fun _ _ _ _ _ _ _ us its l1 l2 => match us, l1, its, l2 with | [_, _, _], _, [_], _ => ⟨_, rfl, rfl⟩
  cases r_fn_Land_init
  have S := sc_fn__law_made_land
  have G : FnOk P w K mg base (L2.CX P w) 7 (He.ga K "_law_made_land") fd ["_law_land_here"] (spOf K mg 1 fn__law_made_land) := fn_ok F S (by decide) fun cdv A outer s H E hr tk => by
    have hu := room65 hr
    have hu1 := room1 hr
    have hu64 := Room.units hr
    exact (ssv_one (sv_ret (pv_make (keep := false) Z.k_Land Z.mk_Land G_fn_Land_init (hr.mono (by decide)) rfl B_fn_Land_init .nil DflW.nil tk (av_cons (pv_ix hu1 (pv_var (i := 0) rfl (by first | exact .inl rfl | exact .inr (.inl rfl) | exact .inr (.inr rfl))) pv_str) (av_cons (pv_ix hu1 (pv_var (i := 0) rfl (by first | exact .inl rfl | exact .inr (.inl rfl) | exact .inr (.inr rfl))) pv_str) av_nil)))))
  exact ⟨fd, G, F.bindsN fun _ _ _ _ _ _ us hl => match us, hl with | [_], _ => rfl, Z.d_fn__law_made_land.mg, F.kp⟩
theorem sc_fn_is_path : FnScope (["value"]) ["value"] (defScope (top 26)) := C8.fnScope_by (by decide +kernel)
theorem ok_fn_is_path (Z : Fx K mg) : DefOk P w K mg base 3 "is_path" ["value"] fn_is_path := by
  obtain ⟨fd, F⟩ := Z.d_fn_is_path.fd
  obtain ⟨fd_fn_are_words, G_fn_are_words, B_fn_are_words, M_fn_are_words, K_fn_are_words⟩ := ok_fn_are_words (P := P) (w := w) (base := base) Z
  have S := sc_fn_is_path
  have G : FnOk P w K mg base (L2.CX P w) 3 (He.ga K "is_path") fd ["value"] (spOf K mg 1 fn_is_path) := fn_ok F S (by decide) fun cdv A outer s H E hr tk => by
    have hu := room65 hr
    have hu1 := room1 hr
    have hu64 := Room.units hr
    exact (ssv_one (sv_ret (pv_call G_fn_are_words (hr.mono (by decide)) rfl M_fn_are_words K_fn_are_words B_fn_are_words .nil DflW.nil tk (av_cons (pv_var (i := 0) rfl (by first | exact .inl rfl | exact .inr (.inl rfl) | exact .inr (.inr rfl))) (av_cons pv_int (av_cons (pv_con Z.v_MOST_PATH rfl) av_nil))))))
  exact ⟨fd, G, F.bindsN fun _ _ _ _ _ _ us hl => match us, hl with | [_], _ => rfl, Z.d_fn_is_path.mg, F.kp⟩
theorem sc_fn_is_end : FnScope (["value"]) ["value"] (defScope (top 34)) := C8.fnScope_by (by decide +kernel)
theorem ok_fn_is_end (Z : Fx K mg) : DefOk P w K mg base 3 "is_end" ["value"] fn_is_end := by
  obtain ⟨fd, F⟩ := Z.d_fn_is_end.fd
  obtain ⟨fd_fn_is_number, G_fn_is_number, B_fn_is_number, M_fn_is_number, K_fn_is_number⟩ := ok_fn_is_number (P := P) (w := w) (base := base) Z
  have S := sc_fn_is_end
  have G : FnOk P w K mg base (L2.CX P w) 3 (He.ga K "is_end") fd ["value"] (spOf K mg 1 fn_is_end) := fn_ok F S (by decide) fun cdv A outer s H E hr tk => by
    have hu := room65 hr
    have hu1 := room1 hr
    have hu64 := Room.units hr
    exact (ssv_one (sv_ret (pv_or (pv_cmp op_isA opd_is (pv_var (i := 0) rfl (by first | exact .inl rfl | exact .inr (.inl rfl) | exact .inr (.inr rfl))) pv_non (by with_unfolding_all rfl)) (pv_one (pv_call G_fn_is_number (hr.mono (by decide)) rfl M_fn_is_number K_fn_is_number B_fn_is_number .nil DflW.nil tk (av_cons (pv_var (i := 0) rfl (by first | exact .inl rfl | exact .inr (.inl rfl) | exact .inr (.inr rfl))) (av_cons pv_int (av_cons (pv_con Z.v_LAST_DAY rfl) av_nil))))))))
  exact ⟨fd, G, F.bindsN fun _ _ _ _ _ _ us hl => match us, hl with | [_], _ => rfl, Z.d_fn_is_end.mg, F.kp⟩
theorem sc_fn_is_slip : FnScope (["value", "name", "worth", "host", "wide", "path", "end", "marks"]) ["value"] (defScope (top 35)) := C8.fnScope_by (by decide +kernel)
theorem ok_fn_is_slip (Z : Fx K mg) : DefOk P w K mg base 4 "is_slip" ["value"] fn_is_slip := by
  obtain ⟨fd, F⟩ := Z.d_fn_is_slip.fd
  obtain ⟨fd_fn_is_word, G_fn_is_word, B_fn_is_word, M_fn_is_word, K_fn_is_word⟩ := ok_fn_is_word (P := P) (w := w) (base := base) Z
  obtain ⟨fd_fn_is_host, G_fn_is_host, B_fn_is_host, M_fn_is_host, K_fn_is_host⟩ := ok_fn_is_host (P := P) (w := w) (base := base) Z
  obtain ⟨fd_fn_is_path, G_fn_is_path, B_fn_is_path, M_fn_is_path, K_fn_is_path⟩ := ok_fn_is_path (P := P) (w := w) (base := base) Z
  obtain ⟨fd_fn_is_end, G_fn_is_end, B_fn_is_end, M_fn_is_end, K_fn_is_end⟩ := ok_fn_is_end (P := P) (w := w) (base := base) Z
  obtain ⟨fd_fn_are_of, G_fn_are_of, B_fn_are_of, M_fn_are_of, K_fn_are_of⟩ := ok_fn_are_of (P := P) (w := w) (base := base) Z
  have S := sc_fn_is_slip
  have G : FnOk P w K mg base (L2.CX P w) 4 (He.ga K "is_slip") fd ["value"] (spOf K mg 1 fn_is_slip) := fn_ok F S (by decide) fun cdv A outer s H E hr tk => by
    have hu := room65 hr
    have hu1 := room1 hr
    have hu64 := Room.units hr
    exact (ssv_cons (sv_if (tv_w (wv_or (tv_not (tv_val (pv_callB call_isiA bd_isi rfl Z.m_isinstance bt_isinstance (av_cons (pv_var (i := 0) rfl (by first | exact .inl rfl | exact .inr (.inl rfl) | exact .inr (.inr rfl))) (av_cons (pv_ty rfl Z.m_tuple bt_tuple) av_nil))))) (wv_or1 (tv_cmp (op_neD hu64) opd_ne (pv_callB call_lenA bd_len rfl Z.m_len bt_len (av_cons (pv_var (i := 0) rfl (by first | exact .inl rfl | exact .inr (.inl rfl) | exact .inr (.inr rfl))) av_nil)) pv_int (by with_unfolding_all rfl))))) (ssv_one (sv_ret pv_bl)) ssv_nil)
    (ssv_cons (sv_asg (pv_var (i := 0) rfl (by first | exact .inl rfl | exact .inr (.inl rfl) | exact .inr (.inr rfl))) (gg_tup rfl (gg_cons (gg_name S.nd (i := 1) rfl (by first | exact .inl rfl | exact .inr rfl)) (gg_cons (gg_name S.nd (i := 2) rfl (by first | exact .inl rfl | exact .inr rfl)) (gg_cons (gg_name S.nd (i := 3) rfl (by first | exact .inl rfl | exact .inr rfl)) (gg_cons (gg_name S.nd (i := 4) rfl (by first | exact .inl rfl | exact .inr rfl)) (gg_cons (gg_name S.nd (i := 5) rfl (by first | exact .inl rfl | exact .inr rfl)) (gg_cons (gg_name S.nd (i := 6) rfl (by first | exact .inl rfl | exact .inr rfl)) (gg_cons (gg_name S.nd (i := 7) rfl (by first | exact .inl rfl | exact .inr rfl)) gg_nil)))))))))
    (ssv_cons (sv_if (tv_w (wv_or (tv_not (tv_val (pv_call G_fn_is_word (hr.mono (by decide)) rfl M_fn_is_word K_fn_is_word B_fn_is_word .nil DflW.nil tk (av_cons (pv_var (i := 1) rfl (by first | exact .inl rfl | exact .inr (.inl rfl) | exact .inr (.inr rfl))) av_nil)))) (wv_or (tv_not (tv_val (pv_call G_fn_is_word (hr.mono (by decide)) rfl M_fn_is_word K_fn_is_word B_fn_is_word .nil DflW.nil tk (av_cons (pv_var (i := 2) rfl (by first | exact .inl rfl | exact .inr (.inl rfl) | exact .inr (.inr rfl))) av_nil)))) (wv_or (tv_not (tv_val (pv_call G_fn_is_host (hr.mono (by decide)) rfl M_fn_is_host K_fn_is_host B_fn_is_host .nil DflW.nil tk (av_cons (pv_var (i := 3) rfl (by first | exact .inl rfl | exact .inr (.inl rfl) | exact .inr (.inr rfl))) av_nil)))) (wv_or1 (tv_not (tv_val (pv_callB call_isiA bd_isi rfl Z.m_isinstance bt_isinstance (av_cons (pv_var (i := 4) rfl (by first | exact .inl rfl | exact .inr (.inl rfl) | exact .inr (.inr rfl))) (av_cons (pv_ty rfl Z.m_bool bt_bool) av_nil)))))))))) (ssv_one (sv_ret pv_bl)) ssv_nil)
    (ssv_one (sv_ret (pv_and (pv_call G_fn_is_path (hr.mono (by decide)) rfl M_fn_is_path K_fn_is_path B_fn_is_path .nil DflW.nil tk (av_cons (pv_var (i := 5) rfl (by first | exact .inl rfl | exact .inr (.inl rfl) | exact .inr (.inr rfl))) av_nil)) (pv_and (pv_call G_fn_is_end (hr.mono (by decide)) rfl M_fn_is_end K_fn_is_end B_fn_is_end .nil DflW.nil tk (av_cons (pv_var (i := 6) rfl (by first | exact .inl rfl | exact .inr (.inl rfl) | exact .inr (.inr rfl))) av_nil)) (pv_one (pv_call G_fn_are_of (hr.mono (by decide)) rfl M_fn_are_of K_fn_are_of B_fn_are_of .nil DflW.nil tk (av_cons (pv_var (i := 7) rfl (by first | exact .inl rfl | exact .inr (.inl rfl) | exact .inr (.inr rfl))) (av_cons (pv_con Z.v_MARKS rfl) av_nil)))))))))))
  exact ⟨fd, G, F.bindsN fun _ _ _ _ _ _ us hl => match us, hl with | [_], _ => rfl, Z.d_fn_is_slip.mg, F.kp⟩
theorem sc_fn_over_on : FnScope (["slip", "day"]) ["slip", "day"] (defScope (top 36)) := C8.fnScope_by (by decide +kernel)
theorem ok_fn_over_on (Z : Fx K mg) : DefOk P w K mg base 1 "over_on" ["slip", "day"] fn_over_on := by
  obtain ⟨fd, F⟩ := Z.d_fn_over_on.fd
  have S := sc_fn_over_on
  have G : FnOk P w K mg base (L2.CX P w) 1 (He.ga K "over_on") fd ["slip", "day"] (spOf K mg 2 fn_over_on) := fn_ok F S (by decide) fun cdv A outer s H E hr tk => by
    have hu := room65 hr
    have hu1 := room1 hr
    have hu64 := Room.units hr
    exact (ssv_one (sv_ret (pv_and (pv_cmp op_isNotA opd_isNot (pv_ix hu1 (pv_var (i := 0) rfl (by first | exact .inl rfl | exact .inr (.inl rfl) | exact .inr (.inr rfl))) pv_int) pv_non (by with_unfolding_all rfl)) (pv_one (pv_cmp op_le opd_le (pv_ix hu1 (pv_var (i := 0) rfl (by first | exact .inl rfl | exact .inr (.inl rfl) | exact .inr (.inr rfl))) pv_int) (pv_var (i := 1) rfl (by first | exact .inl rfl | exact .inr (.inl rfl) | exact .inr (.inr rfl))) (by with_unfolding_all rfl))))))
  exact ⟨fd, G, F.bindsN fun _ _ _ _ _ _ us hl => match us, hl with | [_, _], _ => rfl, Z.d_fn_over_on.mg, F.kp⟩
theorem sc_fn_Rules_plain_key : FnScope (["self", "slip"]) ["self", "slip"] (defScope (clsStmt (top 67) 4)) := C8.fnScope_by (by decide +kernel)
theorem ok_fn_Rules_plain_key (Z : Fx K mg) : ∃ fd, FunD K "plain_key" "Rules.plain_key" (defArgs (clsStmt (top 67) 4)) (defBody (clsStmt (top 67) 4)) (defScope (clsStmt (top 67) 4)) [] [] (He.ma K (He.ga K "Rules") "plain_key") fd ∧ FnOk P w K mg base (L2.CX P w) 1 (He.ma K (He.ga K "Rules") "plain_key") fd ["self", "slip"] (spOf K mg 2 fn_Rules_plain_key) := by
  obtain ⟨fd, F⟩ := Z.d_fn_Rules_plain_key.fd
  have S := sc_fn_Rules_plain_key
  refine ⟨fd, F, fn_ok F S (by decide) fun cdv A outer s H E hr tk => by
    have hu := room65 hr
    have hu1 := room1 hr
    have hu64 := Room.units hr
    exact (ssv_one (sv_ret (pv_ifExp (tv_val (pv_fld Z.k_Rules Z.n_Rules_wide_key (pv_var (i := 0) rfl (by first | exact .inl rfl | exact .inr (.inl rfl) | exact .inr (.inr rfl))))) (pv_tup (av_cons (pv_ix hu1 (pv_var (i := 1) rfl (by first | exact .inl rfl | exact .inr (.inl rfl) | exact .inr (.inr rfl))) pv_int) (av_cons (pv_ix hu1 (pv_var (i := 1) rfl (by first | exact .inl rfl | exact .inr (.inl rfl) | exact .inr (.inr rfl))) pv_int) (av_cons (pv_ix hu1 (pv_var (i := 1) rfl (by first | exact .inl rfl | exact .inr (.inl rfl) | exact .inr (.inr rfl))) pv_int) (av_cons (pv_ix hu1 (pv_var (i := 1) rfl (by first | exact .inl rfl | exact .inr (.inl rfl) | exact .inr (.inr rfl))) pv_int) av_nil))))) (pv_tup (av_cons (pv_ix hu1 (pv_var (i := 1) rfl (by first | exact .inl rfl | exact .inr (.inl rfl) | exact .inr (.inr rfl))) pv_int) (av_cons (pv_ix hu1 (pv_var (i := 1) rfl (by first | exact .inl rfl | exact .inr (.inl rfl) | exact .inr (.inr rfl))) pv_int) (av_cons (pv_ix hu1 (pv_var (i := 1) rfl (by first | exact .inl rfl | exact .inr (.inl rfl) | exact .inr (.inr rfl))) pv_int) av_nil)))))))⟩
end
end Lw
set_option Elab.async false
set_option linter.all false
set_option maxRecDepth 100000
set_option maxHeartbeats 0
namespace Lw
open PySem PySem.Spec PyProof.Rows L2 DL
section
variable {P : Program} {w : World} {K : PySem.W.Frag} {mg : (Str → Option Value)} {base : Heap}
theorem sc_fn_starts_of : FnScope (["host", "many"]) ["host"] (defScope (top 29)) := C8.fnScope_by (by decide +kernel)
theorem ok_fn_starts_of (Z : Fx K mg) : DefOk P w K mg base 1 "starts_of" ["host"] fn_starts_of := by
  obtain ⟨fd, F⟩ := Z.d_fn_starts_of.fd
  have S := sc_fn_starts_of
  have G : FnOk P w K mg base (L2.CX P w) 1 (He.ga K "starts_of") fd ["host"] (spOf K mg 1 fn_starts_of) := fn_ok F S (by decide) fun cdv A outer s H E hr tk => by
    have hu := room65 hr
    have hu1 := room1 hr
    have hu64 := Room.units hr
    exact (ssv_one (sv_ret (pv_lc (own := [("many", 1)]) rfl S.nd (iv_range1 rfl Z.m_range (pv_callB call_lenA bd_len rfl Z.m_len bt_len (av_cons (pv_var (i := 0) rfl (by first | exact .inl rfl | exact .inr (.inl rfl) | exact .inr (.inr rfl))) av_nil))) (blkOk_by (by kernel_rfl)) (fun _ _ _ _ _ => (gg_name S.nd (i := 1) rfl (by first | exact .inl rfl | exact .inr rfl))) (by decide) (fun _ _ _ _ _ => tsv_nil) (fun _ _ _ _ _ => (pv_slice (pv_var (i := 0) rfl (by first | exact .inl rfl | exact .inr (.inl rfl) | exact .inr (.inr rfl))) ov_none (ov_some (pv_op op_addA opd_add (pv_var (i := 1) rfl (by first | exact .inl rfl | exact .inr (.inl rfl) | exact .inr (.inr rfl))) pv_int)))))))
  exact ⟨fd, G, F.bindsN fun _ _ _ _ _ _ us hl => match us, hl with | [_], _ => rfl, Z.d_fn_starts_of.mg, F.kp⟩
theorem sc_fn_Land_round_of : FnScope (["self", "host", "some", "start"]) ["self", "host"] (defScope (clsStmt (top 31) 5)) := C8.fnScope_by (by decide +kernel)
theorem ok_fn_Land_round_of (Z : Fx K mg) : ∃ fd, FunD K "round_of" "Land.round_of" (defArgs (clsStmt (top 31) 5)) (defBody (clsStmt (top 31) 5)) (defScope (clsStmt (top 31) 5)) [] [] (He.ma K (He.ga K "Land") "round_of") fd ∧ FnOk P w K mg base (L2.CX P w) 2 (He.ma K (He.ga K "Land") "round_of") fd ["self", "host"] (spOf K mg 2 fn_Land_round_of) := by
  obtain ⟨fd, F⟩ := Z.d_fn_Land_round_of.fd
  obtain ⟨fd_fn_starts_of, G_fn_starts_of, B_fn_starts_of, M_fn_starts_of, K_fn_starts_of⟩ := ok_fn_starts_of (P := P) (w := w) (base := base) Z
  have S := sc_fn_Land_round_of
  refine ⟨fd, F, fn_ok F S (by decide) fun cdv A outer s H E hr tk => by
    have hu := room65 hr
    have hu1 := room1 hr
    have hu64 := Room.units hr
    exact (ssv_cons (sv_lc (own := [("start", 3)]) (i := 2) rfl S.nd rfl rfl rfl (iv_any (pv_call G_fn_starts_of (hr.mono (by decide)) rfl M_fn_starts_of K_fn_starts_of B_fn_starts_of .nil DflW.nil tk (av_cons (pv_var (i := 1) rfl (by first | exact .inl rfl | exact .inr (.inl rfl) | exact .inr (.inr rfl))) av_nil))) (blkOk_by (by kernel_rfl)) (fun _ _ _ _ _ => (gg_name S.nd (i := 3) rfl (by first | exact .inl rfl | exact .inr rfl))) (by decide) (fun _ _ _ _ _ => (tsv_one (tv_cmp (op_notInA hu) opd_notIn (pv_var (i := 3) rfl (by first | exact .inl rfl | exact .inr (.inl rfl) | exact .inr (.inr rfl))) (pv_fld Z.k_Land Z.n_Land_own_common (pv_var (i := 0) rfl (by first | exact .inl rfl | exact .inr (.inl rfl) | exact .inr (.inr rfl)))) (by with_unfolding_all rfl)))) (fun _ _ _ _ _ => (pv_var (i := 3) rfl (by first | exact .inl rfl | exact .inr (.inl rfl) | exact .inr (.inr rfl)))))
    (ssv_one (sv_ret (pv_ifExp (tv_cmp op_gt opd_gt (pv_callB call_lenA bd_len rfl Z.m_len bt_len (av_cons (pv_var (i := 2) rfl (by first | exact .inl rfl | exact .inr (.inl rfl) | exact .inr (.inr rfl))) av_nil)) pv_int (by with_unfolding_all rfl)) (pv_ix hu1 (pv_var (i := 2) rfl (by first | exact .inl rfl | exact .inr (.inl rfl) | exact .inr (.inr rfl))) pv_int) (pv_var (i := 1) rfl (by first | exact .inl rfl | exact .inr (.inl rfl) | exact .inr (.inr rfl)))))))⟩
theorem sc_fn_are_kept : FnScope (["land", "rules", "slips", "keys", "rounds", "slip", "one"]) ["land", "rules", "slips"] (defScope (top 39)) := C8.fnScope_by (by decide +kernel)
theorem ok_fn_are_kept (Z : Fx K mg) : DefOk P w K mg base 3 "are_kept" ["land", "rules", "slips"] fn_are_kept := by
  obtain ⟨fd, F⟩ := Z.d_fn_are_kept.fd
  obtain ⟨fd_fn_Rules_plain_key, F_fn_Rules_plain_key, G_fn_Rules_plain_key⟩ := ok_fn_Rules_plain_key (P := P) (w := w) (base := base) Z
  have E_fn_Rules_plain_key := Z.d_fn_Rules_plain_key.me
  have B_fn_Rules_plain_key : Binds K fd_fn_Rules_plain_key ["self", "slip"] [] := F_fn_Rules_plain_key.bindsN fun _ _ _ _ _ _ us hl => match us, hl with | [_, _], _ => rfl
  obtain ⟨fd_fn_Land_round_of, F_fn_Land_round_of, G_fn_Land_round_of⟩ := ok_fn_Land_round_of (P := P) (w := w) (base := base) Z
  have E_fn_Land_round_of := Z.d_fn_Land_round_of.me
  have B_fn_Land_round_of : Binds K fd_fn_Land_round_of ["self", "host"] [] := F_fn_Land_round_of.bindsN fun _ _ _ _ _ _ us hl => match us, hl with | [_, _], _ => rfl
  have S := sc_fn_are_kept
  have G : FnOk P w K mg base (L2.CX P w) 3 (He.ga K "are_kept") fd ["land", "rules", "slips"] (spOf K mg 3 fn_are_kept) := fn_ok F S (by decide) fun cdv A outer s H E hr tk => by
    have hu := room65 hr
    have hu1 := room1 hr
    have hu64 := Room.units hr
    exact (ssv_cons (sv_dcN (own := [("slip", 5)]) (i := 3) hu rfl S.nd rfl rfl rfl (iv_any (pv_var (i := 2) rfl (by first | exact .inl rfl | exact .inr (.inl rfl) | exact .inr (.inr rfl)))) (blkOk_by (by kernel_rfl)) (fun _ _ _ _ _ => (gg_name S.nd (i := 5) rfl (by first | exact .inl rfl | exact .inr rfl))) (by decide) (fun _ _ _ _ _ => tsv_nil) (fun _ _ _ _ _ => (pv_meth Z.k_Rules E_fn_Rules_plain_key (pv_var (i := 1) rfl (by first | exact .inl rfl | exact .inr (.inl rfl) | exact .inr (.inr rfl))) G_fn_Rules_plain_key (hr.mono (by decide)) B_fn_Rules_plain_key .nil DflW.nil DL.takes0 (av_cons (pv_var (i := 5) rfl (by first | exact .inl rfl | exact .inr (.inl rfl) | exact .inr (.inr rfl))) av_nil))))
    (ssv_cons (sv_if (tv_cmp op_lt opd_lt (pv_callB call_lenA bd_len rfl Z.m_len bt_len (av_cons (pv_var (i := 3) rfl (by first | exact .inl rfl | exact .inr (.inl rfl) | exact .inr (.inr rfl))) av_nil)) (pv_callB call_lenA bd_len rfl Z.m_len bt_len (av_cons (pv_var (i := 2) rfl (by first | exact .inl rfl | exact .inr (.inl rfl) | exact .inr (.inr rfl))) av_nil)) (by with_unfolding_all rfl)) (ssv_one (sv_ret pv_bl)) ssv_nil)
    (ssv_cons (sv_set S.nd (i := 4) rfl (by first | exact .inl rfl | exact .inr rfl) (pv_lc (own := [("slip", 5)]) rfl S.nd (iv_any (pv_var (i := 2) rfl (by first | exact .inl rfl | exact .inr (.inl rfl) | exact .inr (.inr rfl)))) (blkOk_by (by kernel_rfl)) (fun _ _ _ _ _ => (gg_name S.nd (i := 5) rfl (by first | exact .inl rfl | exact .inr rfl))) (by decide) (fun _ _ _ _ _ => tsv_nil) (fun _ _ _ _ _ => (pv_meth Z.k_Land E_fn_Land_round_of (pv_var (i := 0) rfl (by first | exact .inl rfl | exact .inr (.inl rfl) | exact .inr (.inr rfl))) G_fn_Land_round_of (hr.mono (by decide)) B_fn_Land_round_of .nil DflW.nil DL.takes0 (av_cons (pv_ix hu1 (pv_var (i := 5) rfl (by first | exact .inl rfl | exact .inr (.inl rfl) | exact .inr (.inr rfl))) pv_int) av_nil)))))
    (ssv_one (sv_ret (pv_callB (cr_all rfl) bd_all rfl Z.m_all bt_all (av_cons (pv_lc (own := [("one", 6)]) rfl S.nd (iv_any (pv_var (i := 4) rfl (by first | exact .inl rfl | exact .inr (.inl rfl) | exact .inr (.inr rfl)))) (blkOk_by (by kernel_rfl)) (fun _ _ _ _ _ => (gg_name S.nd (i := 6) rfl (by first | exact .inl rfl | exact .inr rfl))) (by decide) (fun _ _ _ _ _ => tsv_nil) (fun _ _ _ _ _ => (pv_cmp op_le opd_le (pv_count hu (pv_var (i := 4) rfl (by first | exact .inl rfl | exact .inr (.inl rfl) | exact .inr (.inr rfl))) (pv_var (i := 6) rfl (by first | exact .inl rfl | exact .inr (.inl rfl) | exact .inr (.inr rfl)))) (pv_fld Z.k_Rules Z.n_Rules_most (pv_var (i := 1) rfl (by first | exact .inl rfl | exact .inr (.inl rfl) | exact .inr (.inr rfl)))) (by with_unfolding_all rfl)))) av_nil)))))))
  exact ⟨fd, G, F.bindsN fun _ _ _ _ _ _ us hl => match us, hl with | [_, _, _], _ => rfl, Z.d_fn_are_kept.mg, F.kp⟩
theorem sc_fn_is_store : FnScope (["land", "rules", "value", "day", "slips", "slip"]) ["land", "rules", "value"] (defScope (top 40)) := C8.fnScope_by (by decide +kernel)
theorem ok_fn_is_store (Z : Fx K mg) : DefOk P w K mg base 5 "is_store" ["land", "rules", "value"] fn_is_store := by
  obtain ⟨fd, F⟩ := Z.d_fn_is_store.fd
  obtain ⟨fd_fn_is_number, G_fn_is_number, B_fn_is_number, M_fn_is_number, K_fn_is_number⟩ := ok_fn_is_number (P := P) (w := w) (base := base) Z
  obtain ⟨fd_fn_is_slip, G_fn_is_slip, B_fn_is_slip, M_fn_is_slip, K_fn_is_slip⟩ := ok_fn_is_slip (P := P) (w := w) (base := base) Z
  obtain ⟨fd_fn_over_on, G_fn_over_on, B_fn_over_on, M_fn_over_on, K_fn_over_on⟩ := ok_fn_over_on (P := P) (w := w) (base := base) Z
  obtain ⟨fd_fn_are_kept, G_fn_are_kept, B_fn_are_kept, M_fn_are_kept, K_fn_are_kept⟩ := ok_fn_are_kept (P := P) (w := w) (base := base) Z
  have S := sc_fn_is_store
  have G : FnOk P w K mg base (L2.CX P w) 5 (He.ga K "is_store") fd ["land", "rules", "value"] (spOf K mg 3 fn_is_store) := fn_ok F S (by decide) fun cdv A outer s H E hr tk => by
    have hu := room65 hr
    have hu1 := room1 hr
    have hu64 := Room.units hr
    exact (ssv_cons (sv_if (tv_w (wv_or (tv_not (tv_val (pv_callB call_isiA bd_isi rfl Z.m_isinstance bt_isinstance (av_cons (pv_var (i := 2) rfl (by first | exact .inl rfl | exact .inr (.inl rfl) | exact .inr (.inr rfl))) (av_cons (pv_ty rfl Z.m_tuple bt_tuple) av_nil))))) (wv_or (tv_cmp (op_neD hu64) opd_ne (pv_callB call_lenA bd_len rfl Z.m_len bt_len (av_cons (pv_var (i := 2) rfl (by first | exact .inl rfl | exact .inr (.inl rfl) | exact .inr (.inr rfl))) av_nil)) pv_int (by with_unfolding_all rfl)) (wv_or1 (tv_not (tv_val (pv_call G_fn_is_number (hr.mono (by decide)) rfl M_fn_is_number K_fn_is_number B_fn_is_number .nil DflW.nil tk (av_cons (pv_ix hu1 (pv_var (i := 2) rfl (by first | exact .inl rfl | exact .inr (.inl rfl) | exact .inr (.inr rfl))) pv_int) (av_cons pv_int (av_cons (pv_con Z.v_LAST_DAY rfl) av_nil)))))))))) (ssv_one (sv_ret pv_bl)) ssv_nil)
    (ssv_cons (sv_asg (pv_var (i := 2) rfl (by first | exact .inl rfl | exact .inr (.inl rfl) | exact .inr (.inr rfl))) (gg_tup rfl (gg_cons (gg_name S.nd (i := 3) rfl (by first | exact .inl rfl | exact .inr rfl)) (gg_cons (gg_name S.nd (i := 4) rfl (by first | exact .inl rfl | exact .inr rfl)) gg_nil))))
    (ssv_cons (sv_if (tv_w (wv_or (tv_not (tv_val (pv_callB call_isiA bd_isi rfl Z.m_isinstance bt_isinstance (av_cons (pv_var (i := 4) rfl (by first | exact .inl rfl | exact .inr (.inl rfl) | exact .inr (.inr rfl))) (av_cons (pv_ty rfl Z.m_tuple bt_tuple) av_nil))))) (wv_or1 (tv_not (tv_val (pv_callB (cr_all rfl) bd_all rfl Z.m_all bt_all (av_cons (pv_lc (own := [("slip", 5)]) rfl S.nd (iv_any (pv_var (i := 4) rfl (by first | exact .inl rfl | exact .inr (.inl rfl) | exact .inr (.inr rfl)))) (blkOk_by (by kernel_rfl)) (fun _ _ _ _ _ => (gg_name S.nd (i := 5) rfl (by first | exact .inl rfl | exact .inr rfl))) (by decide) (fun _ _ _ _ _ => tsv_nil) (fun _ _ _ _ _ => (pv_and (pv_call G_fn_is_slip (hr.mono (by decide)) rfl M_fn_is_slip K_fn_is_slip B_fn_is_slip .nil DflW.nil DL.takes0 (av_cons (pv_var (i := 5) rfl (by first | exact .inl rfl | exact .inr (.inl rfl) | exact .inr (.inr rfl))) av_nil)) (pv_one (pv_notV (pv_call G_fn_over_on (hr.mono (by decide)) rfl M_fn_over_on K_fn_over_on B_fn_over_on .nil DflW.nil DL.takes0 (av_cons (pv_var (i := 5) rfl (by first | exact .inl rfl | exact .inr (.inl rfl) | exact .inr (.inr rfl))) (av_cons (pv_var (i := 3) rfl (by first | exact .inl rfl | exact .inr (.inl rfl) | exact .inr (.inr rfl))) av_nil)))))))) av_nil))))))) (ssv_one (sv_ret pv_bl)) ssv_nil)
    (ssv_one (sv_ret (pv_call G_fn_are_kept (hr.mono (by decide)) rfl M_fn_are_kept K_fn_are_kept B_fn_are_kept .nil DflW.nil tk (av_cons (pv_var (i := 0) rfl (by first | exact .inl rfl | exact .inr (.inl rfl) | exact .inr (.inr rfl))) (av_cons (pv_var (i := 1) rfl (by first | exact .inl rfl | exact .inr (.inl rfl) | exact .inr (.inr rfl))) (av_cons (pv_var (i := 4) rfl (by first | exact .inl rfl | exact .inr (.inl rfl) | exact .inr (.inr rfl))) av_nil)))))))))
  exact ⟨fd, G, F.bindsN fun _ _ _ _ _ _ us hl => match us, hl with | [_, _, _], _ => rfl, Z.d_fn_is_store.mg, F.kp⟩
theorem sc_fn_look_at_store : FnScope (["land", "rules", "store"]) ["land", "rules", "store"] (defScope (top 53)) := C8.fnScope_by (by decide +kernel)
theorem ok_fn_look_at_store (Z : Fx K mg) : DefOk P w K mg base 6 "look_at_store" ["land", "rules", "store"] fn_look_at_store := by
  obtain ⟨fd, F⟩ := Z.d_fn_look_at_store.fd
  obtain ⟨fd_fn_is_store, G_fn_is_store, B_fn_is_store, M_fn_is_store, K_fn_is_store⟩ := ok_fn_is_store (P := P) (w := w) (base := base) Z
  have S := sc_fn_look_at_store
  have G : FnOk P w K mg base (L2.CX P w) 6 (He.ga K "look_at_store") fd ["land", "rules", "store"] (spOf K mg 3 fn_look_at_store) := fn_ok F S (by decide) fun cdv A outer s H E hr tk => by
    have hu := room65 hr
    have hu1 := room1 hr
    have hu64 := Room.units hr
    exact (ssv_one (sv_if (tv_not (tv_val (pv_call G_fn_is_store (hr.mono (by decide)) rfl M_fn_is_store K_fn_is_store B_fn_is_store .nil DflW.nil tk (av_cons (pv_var (i := 0) rfl (by first | exact .inl rfl | exact .inr (.inl rfl) | exact .inr (.inr rfl))) (av_cons (pv_var (i := 1) rfl (by first | exact .inl rfl | exact .inr (.inl rfl) | exact .inr (.inr rfl))) (av_cons (pv_var (i := 2) rfl (by first | exact .inl rfl | exact .inr (.inl rfl) | exact .inr (.inr rfl))) av_nil)))))) (ssv_one sv_stuck) ssv_nil))
  exact ⟨fd, G, F.bindsN fun _ _ _ _ _ _ us hl => match us, hl with | [_, _, _], _ => rfl, Z.d_fn_look_at_store.mg, F.kp⟩
theorem sc_fn_is_put : FnScope (["value"]) ["value"] (defScope (top 41)) := C8.fnScope_by (by decide +kernel)
theorem ok_fn_is_put (Z : Fx K mg) : DefOk P w K mg base 5 "is_put" ["value"] fn_is_put := by
  obtain ⟨fd, F⟩ := Z.d_fn_is_put.fd
  obtain ⟨fd_fn_is_host, G_fn_is_host, B_fn_is_host, M_fn_is_host, K_fn_is_host⟩ := ok_fn_is_host (P := P) (w := w) (base := base) Z
  obtain ⟨fd_fn_is_slip, G_fn_is_slip, B_fn_is_slip, M_fn_is_slip, K_fn_is_slip⟩ := ok_fn_is_slip (P := P) (w := w) (base := base) Z
  have S := sc_fn_is_put
  have G : FnOk P w K mg base (L2.CX P w) 5 (He.ga K "is_put") fd ["value"] (spOf K mg 1 fn_is_put) := fn_ok F S (by decide) fun cdv A outer s H E hr tk => by
    have hu := room65 hr
    have hu1 := room1 hr
    have hu64 := Room.units hr
    exact (ssv_cons (sv_if (tv_w (wv_or (tv_not (tv_val (pv_callB call_isiA bd_isi rfl Z.m_isinstance bt_isinstance (av_cons (pv_var (i := 0) rfl (by first | exact .inl rfl | exact .inr (.inl rfl) | exact .inr (.inr rfl))) (av_cons (pv_ty rfl Z.m_tuple bt_tuple) av_nil))))) (wv_or (tv_cmp (op_neD hu64) opd_ne (pv_callB call_lenA bd_len rfl Z.m_len bt_len (av_cons (pv_var (i := 0) rfl (by first | exact .inl rfl | exact .inr (.inl rfl) | exact .inr (.inr rfl))) av_nil)) pv_int (by with_unfolding_all rfl)) (wv_or1 (tv_cmp (op_neD hu64) opd_ne (pv_ix hu1 (pv_var (i := 0) rfl (by first | exact .inl rfl | exact .inr (.inl rfl) | exact .inr (.inr rfl))) pv_int) pv_str (by with_unfolding_all rfl)))))) (ssv_one (sv_ret pv_bl)) ssv_nil)
    (ssv_one (sv_ret (pv_and (pv_call G_fn_is_host (hr.mono (by decide)) rfl M_fn_is_host K_fn_is_host B_fn_is_host .nil DflW.nil tk (av_cons (pv_ix hu1 (pv_var (i := 0) rfl (by first | exact .inl rfl | exact .inr (.inl rfl) | exact .inr (.inr rfl))) pv_int) av_nil)) (pv_and (pv_callB call_isiA bd_isi rfl Z.m_isinstance bt_isinstance (av_cons (pv_ix hu1 (pv_var (i := 0) rfl (by first | exact .inl rfl | exact .inr (.inl rfl) | exact .inr (.inr rfl))) pv_int) (av_cons (pv_ty rfl Z.m_bool bt_bool) av_nil))) (pv_one (pv_call G_fn_is_slip (hr.mono (by decide)) rfl M_fn_is_slip K_fn_is_slip B_fn_is_slip .nil DflW.nil tk (av_cons (pv_ix hu1 (pv_var (i := 0) rfl (by first | exact .inl rfl | exact .inr (.inl rfl) | exact .inr (.inr rfl))) pv_int) av_nil))))))))
  exact ⟨fd, G, F.bindsN fun _ _ _ _ _ _ us hl => match us, hl with | [_], _ => rfl, Z.d_fn_is_put.mg, F.kp⟩
theorem sc_fn_is_deed : FnScope (["value"]) ["value"] (defScope (top 42)) := C8.fnScope_by (by decide +kernel)
theorem ok_fn_is_deed (Z : Fx K mg) : DefOk P w K mg base 6 "is_deed" ["value"] fn_is_deed := by
  obtain ⟨fd, F⟩ := Z.d_fn_is_deed.fd
  obtain ⟨fd_fn_is_number, G_fn_is_number, B_fn_is_number, M_fn_is_number, K_fn_is_number⟩ := ok_fn_is_number (P := P) (w := w) (base := base) Z
  obtain ⟨fd_fn_is_put, G_fn_is_put, B_fn_is_put, M_fn_is_put, K_fn_is_put⟩ := ok_fn_is_put (P := P) (w := w) (base := base) Z
  have S := sc_fn_is_deed
  have G : FnOk P w K mg base (L2.CX P w) 6 (He.ga K "is_deed") fd ["value"] (spOf K mg 1 fn_is_deed) := fn_ok F S (by decide) fun cdv A outer s H E hr tk => by
    have hu := room65 hr
    have hu1 := room1 hr
    have hu64 := Room.units hr
    exact (ssv_cons (sv_if (tv_w (wv_or (tv_not (tv_val (pv_callB call_isiA bd_isi rfl Z.m_isinstance bt_isinstance (av_cons (pv_var (i := 0) rfl (by first | exact .inl rfl | exact .inr (.inl rfl) | exact .inr (.inr rfl))) (av_cons (pv_ty rfl Z.m_tuple bt_tuple) av_nil))))) (wv_or (tv_cmp op_lt opd_lt (pv_callB call_lenA bd_len rfl Z.m_len bt_len (av_cons (pv_var (i := 0) rfl (by first | exact .inl rfl | exact .inr (.inl rfl) | exact .inr (.inr rfl))) av_nil)) pv_int (by with_unfolding_all rfl)) (wv_or1 (tv_not (tv_val (pv_callB call_isiA bd_isi rfl Z.m_isinstance bt_isinstance (av_cons (pv_ix hu1 (pv_var (i := 0) rfl (by first | exact .inl rfl | exact .inr (.inl rfl) | exact .inr (.inr rfl))) pv_int) (av_cons (pv_ty rfl Z.m_str bt_str) av_nil))))))))) (ssv_one (sv_ret pv_bl)) ssv_nil)
    (ssv_cons (sv_if (tv_cmp (op_eqD hu64) opd_eq (pv_ix hu1 (pv_var (i := 0) rfl (by first | exact .inl rfl | exact .inr (.inl rfl) | exact .inr (.inr rfl))) pv_int) pv_str (by with_unfolding_all rfl)) (ssv_one (sv_ret (pv_and (pv_cmp (op_eqD hu64) opd_eq (pv_callB call_lenA bd_len rfl Z.m_len bt_len (av_cons (pv_var (i := 0) rfl (by first | exact .inl rfl | exact .inr (.inl rfl) | exact .inr (.inr rfl))) av_nil)) pv_int (by with_unfolding_all rfl)) (pv_one (pv_call G_fn_is_number (hr.mono (by decide)) rfl M_fn_is_number K_fn_is_number B_fn_is_number .nil DflW.nil tk (av_cons (pv_ix hu1 (pv_var (i := 0) rfl (by first | exact .inl rfl | exact .inr (.inl rfl) | exact .inr (.inr rfl))) pv_int) (av_cons pv_int (av_cons (pv_con Z.v_LAST_DAY rfl) av_nil)))))))) ssv_nil)
    (ssv_one (sv_ret (pv_call G_fn_is_put (hr.mono (by decide)) rfl M_fn_is_put K_fn_is_put B_fn_is_put .nil DflW.nil tk (av_cons (pv_var (i := 0) rfl (by first | exact .inl rfl | exact .inr (.inl rfl) | exact .inr (.inr rfl))) av_nil))))))
  exact ⟨fd, G, F.bindsN fun _ _ _ _ _ _ us hl => match us, hl with | [_], _ => rfl, Z.d_fn_is_deed.mg, F.kp⟩
end
end Lw
set_option Elab.async false
set_option linter.all false
set_option maxRecDepth 100000
set_option maxHeartbeats 0
namespace Lw
open PySem PySem.Spec PyProof.Rows L2 DL
section
variable {P : Program} {w : World} {K : PySem.W.Frag} {mg : (Str → Option Value)} {base : Heap}
theorem sc_fn_look_at_deeds : FnScope (["deeds", "deed"]) ["deeds"] (defScope (top 54)) := C8.fnScope_by (by decide +kernel)
theorem ok_fn_look_at_deeds (Z : Fx K mg) : DefOk P w K mg base 7 "look_at_deeds" ["deeds"] fn_look_at_deeds := by
  obtain ⟨fd, F⟩ := Z.d_fn_look_at_deeds.fd
  obtain ⟨fd_fn_is_row, G_fn_is_row, B_fn_is_row, M_fn_is_row, K_fn_is_row⟩ := ok_fn_is_row (P := P) (w := w) (base := base) Z
  obtain ⟨fd_fn_is_deed, G_fn_is_deed, B_fn_is_deed, M_fn_is_deed, K_fn_is_deed⟩ := ok_fn_is_deed (P := P) (w := w) (base := base) Z
  have S := sc_fn_look_at_deeds
  have G : FnOk P w K mg base (L2.CX P w) 7 (He.ga K "look_at_deeds") fd ["deeds"] (spOf K mg 1 fn_look_at_deeds) := fn_ok F S (by decide) fun cdv A outer s H E hr tk => by
    have hu := room65 hr
    have hu1 := room1 hr
    have hu64 := Room.units hr
    exact (ssv_cons (sv_if (tv_not (tv_val (pv_call G_fn_is_row (hr.mono (by decide)) rfl M_fn_is_row K_fn_is_row B_fn_is_row .nil DflW.nil tk (av_cons (pv_var (i := 0) rfl (by first | exact .inl rfl | exact .inr (.inl rfl) | exact .inr (.inr rfl))) av_nil)))) (ssv_one sv_stuck) ssv_nil)
    (ssv_one (sv_for (passes_of rfl) rfl (iv_any (pv_var (i := 0) rfl (by first | exact .inl rfl | exact .inr (.inl rfl) | exact .inr (.inr rfl)))) (gg_name S.nd (i := 1) rfl (by first | exact .inl rfl | exact .inr rfl)) (ssv_one (sv_if (tv_not (tv_val (pv_call G_fn_is_deed (hr.mono (by decide)) rfl M_fn_is_deed K_fn_is_deed B_fn_is_deed .nil DflW.nil tk (av_cons (pv_var (i := 1) rfl (by first | exact .inl rfl | exact .inr (.inl rfl) | exact .inr (.inr rfl))) av_nil)))) (ssv_one sv_stuck) ssv_nil)))))
  exact ⟨fd, G, F.bindsN fun _ _ _ _ _ _ us hl => match us, hl with | [_], _ => rfl, Z.d_fn_look_at_deeds.mg, F.kp⟩
theorem sc_fn_begins : FnScope (["row", "longer"]) ["row", "longer"] (defScope (top 28)) := C8.fnScope_by (by decide +kernel)
theorem ok_fn_begins (Z : Fx K mg) : DefOk P w K mg base 1 "begins" ["row", "longer"] fn_begins := by
  obtain ⟨fd, F⟩ := Z.d_fn_begins.fd
  have S := sc_fn_begins
  have G : FnOk P w K mg base (L2.CX P w) 1 (He.ga K "begins") fd ["row", "longer"] (spOf K mg 2 fn_begins) := fn_ok F S (by decide) fun cdv A outer s H E hr tk => by
    have hu := room65 hr
    have hu1 := room1 hr
    have hu64 := Room.units hr
    exact (ssv_one (sv_ret (pv_cmp (op_eqD hu64) opd_eq (pv_slice (pv_var (i := 1) rfl (by first | exact .inl rfl | exact .inr (.inl rfl) | exact .inr (.inr rfl))) ov_none (ov_some (pv_callB call_lenA bd_len rfl Z.m_len bt_len (av_cons (pv_var (i := 0) rfl (by first | exact .inl rfl | exact .inr (.inl rfl) | exact .inr (.inr rfl))) av_nil)))) (pv_var (i := 0) rfl (by first | exact .inl rfl | exact .inr (.inl rfl) | exact .inr (.inr rfl))) (by with_unfolding_all rfl))))
  exact ⟨fd, G, F.bindsN fun _ _ _ _ _ _ us hl => match us, hl with | [_, _], _ => rfl, Z.d_fn_begins.mg, F.kp⟩
theorem sc_fn_has_right : FnScope (["land", "house", "slip"]) ["land", "house", "slip"] (defScope (top 43)) := C8.fnScope_by (by decide +kernel)
theorem ok_fn_has_right (Z : Fx K mg) : DefOk P w K mg base 2 "has_right" ["land", "house", "slip"] fn_has_right := by
  obtain ⟨fd, F⟩ := Z.d_fn_has_right.fd
  obtain ⟨fd_fn_begins, G_fn_begins, B_fn_begins, M_fn_begins, K_fn_begins⟩ := ok_fn_begins (P := P) (w := w) (base := base) Z
  have S := sc_fn_has_right
  have G : FnOk P w K mg base (L2.CX P w) 2 (He.ga K "has_right") fd ["land", "house", "slip"] (spOf K mg 3 fn_has_right) := fn_ok F S (by decide) fun cdv A outer s H E hr tk => by
    have hu := room65 hr
    have hu1 := room1 hr
    have hu64 := Room.units hr
    exact (ssv_cons (sv_if (tv_not (tv_val (pv_ix hu1 (pv_var (i := 2) rfl (by first | exact .inl rfl | exact .inr (.inl rfl) | exact .inr (.inr rfl))) pv_int))) (ssv_one (sv_ret (pv_cmp (op_eqD hu64) opd_eq (pv_ix hu1 (pv_var (i := 2) rfl (by first | exact .inl rfl | exact .inr (.inl rfl) | exact .inr (.inr rfl))) pv_int) (pv_var (i := 1) rfl (by first | exact .inl rfl | exact .inr (.inl rfl) | exact .inr (.inr rfl))) (by with_unfolding_all rfl)))) ssv_nil)
    (ssv_one (sv_ret (pv_and (pv_call G_fn_begins (hr.mono (by decide)) rfl M_fn_begins K_fn_begins B_fn_begins .nil DflW.nil tk (av_cons (pv_ix hu1 (pv_var (i := 2) rfl (by first | exact .inl rfl | exact .inr (.inl rfl) | exact .inr (.inr rfl))) pv_int) (av_cons (pv_var (i := 1) rfl (by first | exact .inl rfl | exact .inr (.inl rfl) | exact .inr (.inr rfl))) av_nil))) (pv_one (pv_cmp (op_notInA hu) opd_notIn (pv_ix hu1 (pv_var (i := 2) rfl (by first | exact .inl rfl | exact .inr (.inl rfl) | exact .inr (.inr rfl))) pv_int) (pv_fld Z.k_Land Z.n_Land_own_common (pv_var (i := 0) rfl (by first | exact .inl rfl | exact .inr (.inl rfl) | exact .inr (.inr rfl)))) (by with_unfolding_all rfl)))))))
  exact ⟨fd, G, F.bindsN fun _ _ _ _ _ _ us hl => match us, hl with | [_, _, _], _ => rfl, Z.d_fn_has_right.mg, F.kp⟩
theorem sc_fn_Rules_asked_of : FnScope (["self", "name", "some", "beginning", "words", "word"]) ["self", "name"] (defScope (clsStmt (top 67) 6)) := C8.fnScope_by (by decide +kernel)
theorem ok_fn_Rules_asked_of (Z : Fx K mg) : ∃ fd, FunD K "asked_of" "Rules.asked_of" (defArgs (clsStmt (top 67) 6)) (defBody (clsStmt (top 67) 6)) (defScope (clsStmt (top 67) 6)) [] [] (He.ma K (He.ga K "Rules") "asked_of") fd ∧ FnOk P w K mg base (L2.CX P w) 1 (He.ma K (He.ga K "Rules") "asked_of") fd ["self", "name"] (spOf K mg 2 fn_Rules_asked_of) := by
  obtain ⟨fd, F⟩ := Z.d_fn_Rules_asked_of.fd
  have S := sc_fn_Rules_asked_of
  refine ⟨fd, F, fn_ok F S (by decide) fun cdv A outer s H E hr tk => by
    have hu := room65 hr
    have hu1 := room1 hr
    have hu64 := Room.units hr
    exact (ssv_cons (sv_dp2 (own := [("beginning", 3), ("words", 4), ("word", 5)]) (vs1 := [5]) (i := 2) rfl S.nd rfl rfl rfl (iv_any (pv_fld Z.k_Rules Z.n_Rules_names (pv_var (i := 0) rfl (by first | exact .inl rfl | exact .inr (.inl rfl) | exact .inr (.inr rfl))))) (blkOk_by (by kernel_rfl)) (by decide) (fun _ _ _ _ _ => (gg_tup rfl (gg_cons (gg_name S.nd (i := 3) rfl (by first | exact .inl rfl | exact .inr rfl)) (gg_cons (gg_name S.nd (i := 4) rfl (by first | exact .inl rfl | exact .inr rfl)) gg_nil)))) (by decide) (fun _ _ _ _ _ => (tsv_one (tv_val (pv_starts (pv_var (i := 1) rfl (by first | exact .inl rfl | exact .inr (.inl rfl) | exact .inr (.inr rfl))) (pv_var (i := 3) rfl (by first | exact .inl rfl | exact .inr (.inl rfl) | exact .inr (.inr rfl))))))) (fun _ _ _ _ _ => (iv_any (pv_var (i := 4) rfl (by first | exact .inl rfl | exact .inr (.inl rfl) | exact .inr (.inr rfl))))) (fun _ _ _ _ _ => (gg_name S.nd (i := 5) rfl (by first | exact .inl rfl | exact .inr rfl))) (by decide) (fun _ _ _ _ _ => tsv_nil) (fun _ _ _ _ _ => (pv_var (i := 5) rfl (by first | exact .inl rfl | exact .inr (.inl rfl) | exact .inr (.inr rfl)))) (fun _ _ _ _ _ => pv_bl))
    (ssv_one (sv_ret (pv_callTy call_tuple_of bd_tuple rfl Z.m_tuple bt_tuple (av_cons (pv_callB cr_sortedS bd_sorted rfl Z.m_sorted bt_sorted (av_cons (pv_lcK (own := [("word", 5)]) (i := 2) rfl (by first | exact .inl rfl | exact .inr (.inl rfl) | exact .inr (.inr rfl)) rfl S.nd (blkOk_by (by kernel_rfl)) (fun _ _ _ _ _ => (gg_name S.nd (i := 5) rfl (by first | exact .inl rfl | exact .inr rfl))) (by decide) (fun _ _ _ _ _ => tsv_nil) (fun _ _ _ _ _ => (pv_callTy SkE.call_str_str bd_str rfl Z.m_str bt_str (av_cons (pv_var (i := 5) rfl (by first | exact .inl rfl | exact .inr (.inl rfl) | exact .inr (.inr rfl))) av_nil)))) av_nil)) av_nil)))))⟩
theorem sc_fn_meets_names : FnScope (["rules", "slip", "asked"]) ["rules", "slip"] (defScope (top 44)) := C8.fnScope_by (by decide +kernel)
theorem ok_fn_meets_names (Z : Fx K mg) : DefOk P w K mg base 2 "meets_names" ["rules", "slip"] fn_meets_names := by
  obtain ⟨fd, F⟩ := Z.d_fn_meets_names.fd
  obtain ⟨fd_fn_Rules_asked_of, F_fn_Rules_asked_of, G_fn_Rules_asked_of⟩ := ok_fn_Rules_asked_of (P := P) (w := w) (base := base) Z
  have E_fn_Rules_asked_of := Z.d_fn_Rules_asked_of.me
  have B_fn_Rules_asked_of : Binds K fd_fn_Rules_asked_of ["self", "name"] [] := F_fn_Rules_asked_of.bindsN fun _ _ _ _ _ _ us hl => match us, hl with | [_, _], _ => rfl
  have S := sc_fn_meets_names
  have G : FnOk P w K mg base (L2.CX P w) 2 (He.ga K "meets_names") fd ["rules", "slip"] (spOf K mg 2 fn_meets_names) := fn_ok F S (by decide) fun cdv A outer s H E hr tk => by
    have hu := room65 hr
    have hu1 := room1 hr
    have hu64 := Room.units hr
    exact (ssv_cons (sv_set S.nd (i := 2) rfl (by first | exact .inl rfl | exact .inr rfl) (pv_meth Z.k_Rules E_fn_Rules_asked_of (pv_var (i := 0) rfl (by first | exact .inl rfl | exact .inr (.inl rfl) | exact .inr (.inr rfl))) G_fn_Rules_asked_of (hr.mono (by decide)) B_fn_Rules_asked_of .nil DflW.nil tk (av_cons (pv_ix hu1 (pv_var (i := 1) rfl (by first | exact .inl rfl | exact .inr (.inl rfl) | exact .inr (.inr rfl))) pv_int) av_nil)))
    (ssv_cons (sv_if (tv_w (wv_or (tv_w (wv_and (tv_cmp (op_inA hu) opd_in pv_str (pv_var (i := 2) rfl (by first | exact .inl rfl | exact .inr (.inl rfl) | exact .inr (.inr rfl))) (by with_unfolding_all rfl)) (wv_and1 (tv_val (pv_ix hu1 (pv_var (i := 1) rfl (by first | exact .inl rfl | exact .inr (.inl rfl) | exact .inr (.inr rfl))) pv_int))))) (wv_or1 (tv_w (wv_and (tv_cmp (op_inA hu) opd_in pv_str (pv_var (i := 2) rfl (by first | exact .inl rfl | exact .inr (.inl rfl) | exact .inr (.inr rfl))) (by with_unfolding_all rfl)) (wv_and1 (tv_cmp (op_neD hu64) opd_ne (pv_ix hu1 (pv_var (i := 1) rfl (by first | exact .inl rfl | exact .inr (.inl rfl) | exact .inr (.inr rfl))) pv_int) (pv_tup av_nil) (by with_unfolding_all rfl)))))))) (ssv_one (sv_ret pv_bl)) ssv_nil)
    (ssv_one (sv_ret (pv_or (pv_cmp (op_notInA hu) opd_notIn pv_str (pv_var (i := 2) rfl (by first | exact .inl rfl | exact .inr (.inl rfl) | exact .inr (.inr rfl))) (by with_unfolding_all rfl)) (pv_one (pv_cmp (op_inA hu) opd_in pv_str (pv_ix hu1 (pv_var (i := 1) rfl (by first | exact .inl rfl | exact .inr (.inl rfl) | exact .inr (.inr rfl))) pv_int) (by with_unfolding_all rfl))))))))
  exact ⟨fd, G, F.bindsN fun _ _ _ _ _ _ us hl => match us, hl with | [_, _], _ => rfl, Z.d_fn_meets_names.mg, F.kp⟩
theorem sc_fn_is_allowed : FnScope (["land", "rules", "house", "closed", "slip"]) ["land", "rules", "house", "closed", "slip"] (defScope (top 45)) := C8.fnScope_by (by decide +kernel)
theorem ok_fn_is_allowed (Z : Fx K mg) : DefOk P w K mg base 3 "is_allowed" ["land", "rules", "house", "closed", "slip"] fn_is_allowed := by
  obtain ⟨fd, F⟩ := Z.d_fn_is_allowed.fd
  obtain ⟨fd_fn_has_right, G_fn_has_right, B_fn_has_right, M_fn_has_right, K_fn_has_right⟩ := ok_fn_has_right (P := P) (w := w) (base := base) Z
  obtain ⟨fd_fn_meets_names, G_fn_meets_names, B_fn_meets_names, M_fn_meets_names, K_fn_meets_names⟩ := ok_fn_meets_names (P := P) (w := w) (base := base) Z
  have S := sc_fn_is_allowed
  have G : FnOk P w K mg base (L2.CX P w) 3 (He.ga K "is_allowed") fd ["land", "rules", "house", "closed", "slip"] (spOf K mg 5 fn_is_allowed) := fn_ok F S (by decide) fun cdv A outer s H E hr tk => by
    have hu := room65 hr
    have hu1 := room1 hr
    have hu64 := Room.units hr
    exact (ssv_cons (sv_if (tv_w (wv_or (tv_not (tv_val (pv_call G_fn_has_right (hr.mono (by decide)) rfl M_fn_has_right K_fn_has_right B_fn_has_right .nil DflW.nil tk (av_cons (pv_var (i := 0) rfl (by first | exact .inl rfl | exact .inr (.inl rfl) | exact .inr (.inr rfl))) (av_cons (pv_var (i := 2) rfl (by first | exact .inl rfl | exact .inr (.inl rfl) | exact .inr (.inr rfl))) (av_cons (pv_var (i := 4) rfl (by first | exact .inl rfl | exact .inr (.inl rfl) | exact .inr (.inr rfl))) av_nil)))))) (wv_or1 (tv_w (wv_and (tv_cmp (op_inA hu) opd_in pv_str (pv_ix hu1 (pv_var (i := 4) rfl (by first | exact .inl rfl | exact .inr (.inl rfl) | exact .inr (.inr rfl))) pv_int) (by with_unfolding_all rfl)) (wv_and1 (tv_not (tv_val (pv_var (i := 3) rfl (by first | exact .inl rfl | exact .inr (.inl rfl) | exact .inr (.inr rfl))))))))))) (ssv_one (sv_ret pv_bl)) ssv_nil)
    (ssv_one (sv_ret (pv_call G_fn_meets_names (hr.mono (by decide)) rfl M_fn_meets_names K_fn_meets_names B_fn_meets_names .nil DflW.nil tk (av_cons (pv_var (i := 1) rfl (by first | exact .inl rfl | exact .inr (.inl rfl) | exact .inr (.inr rfl))) (av_cons (pv_var (i := 4) rfl (by first | exact .inl rfl | exact .inr (.inl rfl) | exact .inr (.inr rfl))) av_nil))))))
  exact ⟨fd, G, F.bindsN fun _ _ _ _ _ _ us hl => match us, hl with | [_, _, _, _, _], _ => rfl, Z.d_fn_is_allowed.mg, F.kp⟩
theorem sc_fn_found_at : FnScope (["rules", "slips", "slip", "key", "spots", "spot", "kept"]) ["rules", "slips", "slip"] (defScope (top 47)) := C8.fnScope_by (by decide +kernel)
theorem ok_fn_found_at (Z : Fx K mg) : DefOk P w K mg base 2 "found_at" ["rules", "slips", "slip"] fn_found_at := by
  obtain ⟨fd, F⟩ := Z.d_fn_found_at.fd
  obtain ⟨fd_fn_Rules_plain_key, F_fn_Rules_plain_key, G_fn_Rules_plain_key⟩ := ok_fn_Rules_plain_key (P := P) (w := w) (base := base) Z
  have E_fn_Rules_plain_key := Z.d_fn_Rules_plain_key.me
  have B_fn_Rules_plain_key : Binds K fd_fn_Rules_plain_key ["self", "slip"] [] := F_fn_Rules_plain_key.bindsN fun _ _ _ _ _ _ us hl => match us, hl with | [_, _], _ => rfl
  have S := sc_fn_found_at
  have G : FnOk P w K mg base (L2.CX P w) 2 (He.ga K "found_at") fd ["rules", "slips", "slip"] (spOf K mg 3 fn_found_at) := fn_ok F S (by decide) fun cdv A outer s H E hr tk => by
    have hu := room65 hr
    have hu1 := room1 hr
    have hu64 := Room.units hr
    exact (ssv_cons (sv_set S.nd (i := 3) rfl (by first | exact .inl rfl | exact .inr rfl) (pv_meth Z.k_Rules E_fn_Rules_plain_key (pv_var (i := 0) rfl (by first | exact .inl rfl | exact .inr (.inl rfl) | exact .inr (.inr rfl))) G_fn_Rules_plain_key (hr.mono (by decide)) B_fn_Rules_plain_key .nil DflW.nil tk (av_cons (pv_var (i := 2) rfl (by first | exact .inl rfl | exact .inr (.inl rfl) | exact .inr (.inr rfl))) av_nil)))
    (ssv_cons (sv_lc (own := [("spot", 5), ("kept", 6)]) (i := 4) rfl S.nd rfl rfl rfl (iv_enum rfl Z.m_enumerate (pv_var (i := 1) rfl (by first | exact .inl rfl | exact .inr (.inl rfl) | exact .inr (.inr rfl)))) (blkOk_by (by kernel_rfl)) (fun _ _ _ _ _ => (gg_tup rfl (gg_cons (gg_name S.nd (i := 5) rfl (by first | exact .inl rfl | exact .inr rfl)) (gg_cons (gg_name S.nd (i := 6) rfl (by first | exact .inl rfl | exact .inr rfl)) gg_nil)))) (by decide) (fun _ _ _ _ _ => (tsv_one (tv_cmp (op_eqD hu64) opd_eq (pv_meth Z.k_Rules E_fn_Rules_plain_key (pv_var (i := 0) rfl (by first | exact .inl rfl | exact .inr (.inl rfl) | exact .inr (.inr rfl))) G_fn_Rules_plain_key (hr.mono (by decide)) B_fn_Rules_plain_key .nil DflW.nil DL.takes0 (av_cons (pv_var (i := 6) rfl (by first | exact .inl rfl | exact .inr (.inl rfl) | exact .inr (.inr rfl))) av_nil)) (pv_var (i := 3) rfl (by first | exact .inl rfl | exact .inr (.inl rfl) | exact .inr (.inr rfl))) (by with_unfolding_all rfl)))) (fun _ _ _ _ _ => (pv_var (i := 5) rfl (by first | exact .inl rfl | exact .inr (.inl rfl) | exact .inr (.inr rfl)))))
    (ssv_one (sv_ret (pv_ifExp (tv_cmp op_gt opd_gt (pv_callB call_lenA bd_len rfl Z.m_len bt_len (av_cons (pv_var (i := 4) rfl (by first | exact .inl rfl | exact .inr (.inl rfl) | exact .inr (.inr rfl))) av_nil)) pv_int (by with_unfolding_all rfl)) (pv_ix hu1 (pv_var (i := 4) rfl (by first | exact .inl rfl | exact .inr (.inl rfl) | exact .inr (.inr rfl))) pv_int) pv_non)))))
  exact ⟨fd, G, F.bindsN fun _ _ _ _ _ _ us hl => match us, hl with | [_, _, _], _ => rfl, Z.d_fn_found_at.mg, F.kp⟩
end
end Lw
set_option Elab.async false
set_option linter.all false
set_option maxRecDepth 100000
set_option maxHeartbeats 0
namespace Lw
open PySem PySem.Spec PyProof.Rows L2 DL
section
variable {P : Program} {w : World} {K : PySem.W.Frag} {mg : (Str → Option Value)} {base : Heap}
theorem sc_fn_exchanged : FnScope (["rules", "slips", "spot", "slip"]) ["rules", "slips", "spot", "slip"] (defScope (top 50)) := C8.fnScope_by (by decide +kernel)
theorem ok_fn_exchanged (Z : Fx K mg) : DefOk P w K mg base 1 "exchanged" ["rules", "slips", "spot", "slip"] fn_exchanged := by
  obtain ⟨fd, F⟩ := Z.d_fn_exchanged.fd
  have S := sc_fn_exchanged
  have G : FnOk P w K mg base (L2.CX P w) 1 (He.ga K "exchanged") fd ["rules", "slips", "spot", "slip"] (spOf K mg 4 fn_exchanged) := fn_ok F S (by decide) fun cdv A outer s H E hr tk => by
    have hu := room65 hr
    have hu1 := room1 hr
    have hu64 := Room.units hr
    exact (ssv_cons (sv_if (tv_val (pv_fld Z.k_Rules Z.n_Rules_renewed (pv_var (i := 0) rfl (by first | exact .inl rfl | exact .inr (.inl rfl) | exact .inr (.inr rfl))))) (ssv_one (sv_ret (pv_op op_addA opd_add (pv_op op_addA opd_add (pv_slice (pv_var (i := 1) rfl (by first | exact .inl rfl | exact .inr (.inl rfl) | exact .inr (.inr rfl))) ov_none (ov_some (pv_var (i := 2) rfl (by first | exact .inl rfl | exact .inr (.inl rfl) | exact .inr (.inr rfl))))) (pv_slice (pv_var (i := 1) rfl (by first | exact .inl rfl | exact .inr (.inl rfl) | exact .inr (.inr rfl))) (ov_some (pv_op op_addA opd_add (pv_var (i := 2) rfl (by first | exact .inl rfl | exact .inr (.inl rfl) | exact .inr (.inr rfl))) pv_int)) ov_none)) (pv_tup (av_cons (pv_var (i := 3) rfl (by first | exact .inl rfl | exact .inr (.inl rfl) | exact .inr (.inr rfl))) av_nil))))) ssv_nil)
    (ssv_one (sv_ret (pv_op op_addA opd_add (pv_op op_addA opd_add (pv_slice (pv_var (i := 1) rfl (by first | exact .inl rfl | exact .inr (.inl rfl) | exact .inr (.inr rfl))) ov_none (ov_some (pv_var (i := 2) rfl (by first | exact .inl rfl | exact .inr (.inl rfl) | exact .inr (.inr rfl))))) (pv_tup (av_cons (pv_var (i := 3) rfl (by first | exact .inl rfl | exact .inr (.inl rfl) | exact .inr (.inr rfl))) av_nil))) (pv_slice (pv_var (i := 1) rfl (by first | exact .inl rfl | exact .inr (.inl rfl) | exact .inr (.inr rfl))) (ov_some (pv_op op_addA opd_add (pv_var (i := 2) rfl (by first | exact .inl rfl | exact .inr (.inl rfl) | exact .inr (.inr rfl))) pv_int)) ov_none)))))
  exact ⟨fd, G, F.bindsN fun _ _ _ _ _ _ us hl => match us, hl with | [_, _, _, _], _ => rfl, Z.d_fn_exchanged.mg, F.kp⟩
theorem sc_fn_drop_spot : FnScope (["land", "rules", "slips", "one", "spots", "plain", "spot", "slip"]) ["land", "rules", "slips", "one"] (defScope (top 48)) := C8.fnScope_by (by decide +kernel)
theorem ok_fn_drop_spot (Z : Fx K mg) : DefOk P w K mg base 3 "drop_spot" ["land", "rules", "slips", "one"] fn_drop_spot := by
  obtain ⟨fd, F⟩ := Z.d_fn_drop_spot.fd
  obtain ⟨fd_fn_Land_round_of, F_fn_Land_round_of, G_fn_Land_round_of⟩ := ok_fn_Land_round_of (P := P) (w := w) (base := base) Z
  have E_fn_Land_round_of := Z.d_fn_Land_round_of.me
  have B_fn_Land_round_of : Binds K fd_fn_Land_round_of ["self", "host"] [] := F_fn_Land_round_of.bindsN fun _ _ _ _ _ _ us hl => match us, hl with | [_, _], _ => rfl
  have S := sc_fn_drop_spot
  have G : FnOk P w K mg base (L2.CX P w) 3 (He.ga K "drop_spot") fd ["land", "rules", "slips", "one"] (spOf K mg 4 fn_drop_spot) := fn_ok F S (by decide) fun cdv A outer s H E hr tk => by
    have hu := room65 hr
    have hu1 := room1 hr
    have hu64 := Room.units hr
    exact (ssv_cons (sv_lc (own := [("spot", 6), ("slip", 7)]) (i := 4) rfl S.nd rfl rfl rfl (iv_enum rfl Z.m_enumerate (pv_var (i := 2) rfl (by first | exact .inl rfl | exact .inr (.inl rfl) | exact .inr (.inr rfl)))) (blkOk_by (by kernel_rfl)) (fun _ _ _ _ _ => (gg_tup rfl (gg_cons (gg_name S.nd (i := 6) rfl (by first | exact .inl rfl | exact .inr rfl)) (gg_cons (gg_name S.nd (i := 7) rfl (by first | exact .inl rfl | exact .inr rfl)) gg_nil)))) (by decide) (fun _ _ _ _ _ => (tsv_one (tv_cmp (op_eqD hu64) opd_eq (pv_meth Z.k_Land E_fn_Land_round_of (pv_var (i := 0) rfl (by first | exact .inl rfl | exact .inr (.inl rfl) | exact .inr (.inr rfl))) G_fn_Land_round_of (hr.mono (by decide)) B_fn_Land_round_of .nil DflW.nil DL.takes0 (av_cons (pv_ix hu1 (pv_var (i := 7) rfl (by first | exact .inl rfl | exact .inr (.inl rfl) | exact .inr (.inr rfl))) pv_int) av_nil)) (pv_var (i := 3) rfl (by first | exact .inl rfl | exact .inr (.inl rfl) | exact .inr (.inr rfl))) (by with_unfolding_all rfl)))) (fun _ _ _ _ _ => (pv_var (i := 6) rfl (by first | exact .inl rfl | exact .inr (.inl rfl) | exact .inr (.inr rfl)))))
    (ssv_cons (sv_if (tv_cmp (op_eqD hu64) opd_eq (pv_fld Z.k_Rules Z.n_Rules_drop (pv_var (i := 1) rfl (by first | exact .inl rfl | exact .inr (.inl rfl) | exact .inr (.inr rfl)))) pv_str (by with_unfolding_all rfl)) (ssv_cons (sv_lc (own := [("spot", 6)]) (i := 5) rfl S.nd rfl rfl rfl (iv_any (pv_var (i := 4) rfl (by first | exact .inl rfl | exact .inr (.inl rfl) | exact .inr (.inr rfl)))) (blkOk_by (by kernel_rfl)) (fun _ _ _ _ _ => (gg_name S.nd (i := 6) rfl (by first | exact .inl rfl | exact .inr rfl))) (by decide) (fun _ _ _ _ _ => (tsv_one (tv_cmp (op_notInA hu) opd_notIn pv_str (pv_ix hu1 (pv_ix hu1 (pv_var (i := 2) rfl (by first | exact .inl rfl | exact .inr (.inl rfl) | exact .inr (.inr rfl))) (pv_var (i := 6) rfl (by first | exact .inl rfl | exact .inr (.inl rfl) | exact .inr (.inr rfl)))) pv_int) (by with_unfolding_all rfl)))) (fun _ _ _ _ _ => (pv_var (i := 6) rfl (by first | exact .inl rfl | exact .inr (.inl rfl) | exact .inr (.inr rfl)))))
    (ssv_one (sv_ret (pv_ix hu1 (pv_lst (av_star (pv_var (i := 5) rfl (by first | exact .inl rfl | exact .inr (.inl rfl) | exact .inr (.inr rfl))) (av_star (pv_var (i := 4) rfl (by first | exact .inl rfl | exact .inr (.inl rfl) | exact .inr (.inr rfl))) av_nil))) pv_int)))) ssv_nil)
    (ssv_one (sv_ret (pv_ix hu1 (pv_var (i := 4) rfl (by first | exact .inl rfl | exact .inr (.inl rfl) | exact .inr (.inr rfl))) pv_int)))))
  exact ⟨fd, G, F.bindsN fun _ _ _ _ _ _ us hl => match us, hl with | [_, _, _, _], _ => rfl, Z.d_fn_drop_spot.mg, F.kp⟩
theorem sc_fn_with_new : FnScope (["land", "rules", "slips", "slip", "later", "one", "spot", "kept"]) ["land", "rules", "slips", "slip"] (defScope (top 49)) := C8.fnScope_by (by decide +kernel)
theorem ok_fn_with_new (Z : Fx K mg) : DefOk P w K mg base 4 "with_new" ["land", "rules", "slips", "slip"] fn_with_new := by
  obtain ⟨fd, F⟩ := Z.d_fn_with_new.fd
  obtain ⟨fd_fn_Land_round_of, F_fn_Land_round_of, G_fn_Land_round_of⟩ := ok_fn_Land_round_of (P := P) (w := w) (base := base) Z
  have E_fn_Land_round_of := Z.d_fn_Land_round_of.me
  have B_fn_Land_round_of : Binds K fd_fn_Land_round_of ["self", "host"] [] := F_fn_Land_round_of.bindsN fun _ _ _ _ _ _ us hl => match us, hl with | [_, _], _ => rfl
  obtain ⟨fd_fn_drop_spot, G_fn_drop_spot, B_fn_drop_spot, M_fn_drop_spot, K_fn_drop_spot⟩ := ok_fn_drop_spot (P := P) (w := w) (base := base) Z
  have S := sc_fn_with_new
  have G : FnOk P w K mg base (L2.CX P w) 4 (He.ga K "with_new") fd ["land", "rules", "slips", "slip"] (spOf K mg 4 fn_with_new) := fn_ok F S (by decide) fun cdv A outer s H E hr tk => by
    have hu := room65 hr
    have hu1 := room1 hr
    have hu64 := Room.units hr
    exact (ssv_cons (sv_asgT rfl (av_cons (pv_tup (av_star (pv_var (i := 2) rfl (by first | exact .inl rfl | exact .inr (.inl rfl) | exact .inr (.inr rfl))) (av_cons (pv_var (i := 3) rfl (by first | exact .inl rfl | exact .inr (.inl rfl) | exact .inr (.inr rfl))) av_nil))) (av_cons (pv_meth Z.k_Land E_fn_Land_round_of (pv_var (i := 0) rfl (by first | exact .inl rfl | exact .inr (.inl rfl) | exact .inr (.inr rfl))) G_fn_Land_round_of (hr.mono (by decide)) B_fn_Land_round_of .nil DflW.nil tk (av_cons (pv_ix hu1 (pv_var (i := 3) rfl (by first | exact .inl rfl | exact .inr (.inl rfl) | exact .inr (.inr rfl))) pv_int) av_nil)) av_nil)) (gg_cons (gg_name S.nd (i := 4) rfl (by first | exact .inl rfl | exact .inr rfl)) (gg_cons (gg_name S.nd (i := 5) rfl (by first | exact .inl rfl | exact .inr rfl)) gg_nil)))
    (ssv_cons (sv_if (tv_cmp op_le opd_le (pv_callB call_lenA bd_len rfl Z.m_len bt_len (av_cons (pv_lc (own := [("kept", 7)]) rfl S.nd (iv_any (pv_var (i := 4) rfl (by first | exact .inl rfl | exact .inr (.inl rfl) | exact .inr (.inr rfl)))) (blkOk_by (by kernel_rfl)) (fun _ _ _ _ _ => (gg_name S.nd (i := 7) rfl (by first | exact .inl rfl | exact .inr rfl))) (by decide) (fun _ _ _ _ _ => (tsv_one (tv_cmp (op_eqD hu64) opd_eq (pv_meth Z.k_Land E_fn_Land_round_of (pv_var (i := 0) rfl (by first | exact .inl rfl | exact .inr (.inl rfl) | exact .inr (.inr rfl))) G_fn_Land_round_of (hr.mono (by decide)) B_fn_Land_round_of .nil DflW.nil DL.takes0 (av_cons (pv_ix hu1 (pv_var (i := 7) rfl (by first | exact .inl rfl | exact .inr (.inl rfl) | exact .inr (.inr rfl))) pv_int) av_nil)) (pv_var (i := 5) rfl (by first | exact .inl rfl | exact .inr (.inl rfl) | exact .inr (.inr rfl))) (by with_unfolding_all rfl)))) (fun _ _ _ _ _ => (pv_var (i := 7) rfl (by first | exact .inl rfl | exact .inr (.inl rfl) | exact .inr (.inr rfl))))) av_nil)) (pv_fld Z.k_Rules Z.n_Rules_most (pv_var (i := 1) rfl (by first | exact .inl rfl | exact .inr (.inl rfl) | exact .inr (.inr rfl)))) (by with_unfolding_all rfl)) (ssv_one (sv_ret (pv_var (i := 4) rfl (by first | exact .inl rfl | exact .inr (.inl rfl) | exact .inr (.inr rfl))))) ssv_nil)
    (ssv_cons (sv_set S.nd (i := 6) rfl (by first | exact .inl rfl | exact .inr rfl) (pv_call G_fn_drop_spot (hr.mono (by decide)) rfl M_fn_drop_spot K_fn_drop_spot B_fn_drop_spot .nil DflW.nil tk (av_cons (pv_var (i := 0) rfl (by first | exact .inl rfl | exact .inr (.inl rfl) | exact .inr (.inr rfl))) (av_cons (pv_var (i := 1) rfl (by first | exact .inl rfl | exact .inr (.inl rfl) | exact .inr (.inr rfl))) (av_cons (pv_var (i := 4) rfl (by first | exact .inl rfl | exact .inr (.inl rfl) | exact .inr (.inr rfl))) (av_cons (pv_var (i := 5) rfl (by first | exact .inl rfl | exact .inr (.inl rfl) | exact .inr (.inr rfl))) av_nil))))))
    (ssv_one (sv_ret (pv_op op_addA opd_add (pv_slice (pv_var (i := 4) rfl (by first | exact .inl rfl | exact .inr (.inl rfl) | exact .inr (.inr rfl))) ov_none (ov_some (pv_var (i := 6) rfl (by first | exact .inl rfl | exact .inr (.inl rfl) | exact .inr (.inr rfl))))) (pv_slice (pv_var (i := 4) rfl (by first | exact .inl rfl | exact .inr (.inl rfl) | exact .inr (.inr rfl))) (ov_some (pv_op op_addA opd_add (pv_var (i := 6) rfl (by first | exact .inl rfl | exact .inr (.inl rfl) | exact .inr (.inr rfl))) pv_int)) ov_none)))))))
  exact ⟨fd, G, F.bindsN fun _ _ _ _ _ _ us hl => match us, hl with | [_, _, _, _], _ => rfl, Z.d_fn_with_new.mg, F.kp⟩
theorem sc_fn_put_in : FnScope (["land", "rules", "store", "deed", "day", "slips", "kind", "house", "closed", "slip", "spot"]) ["land", "rules", "store", "deed"] (defScope (top 51)) := C8.fnScope_by (by decide +kernel)
theorem ok_fn_put_in (Z : Fx K mg) : DefOk P w K mg base 5 "put_in" ["land", "rules", "store", "deed"] fn_put_in := by
  obtain ⟨fd, F⟩ := Z.d_fn_put_in.fd
  obtain ⟨fd_fn_is_allowed, G_fn_is_allowed, B_fn_is_allowed, M_fn_is_allowed, K_fn_is_allowed⟩ := ok_fn_is_allowed (P := P) (w := w) (base := base) Z
  obtain ⟨fd_fn_found_at, G_fn_found_at, B_fn_found_at, M_fn_found_at, K_fn_found_at⟩ := ok_fn_found_at (P := P) (w := w) (base := base) Z
  obtain ⟨fd_fn_over_on, G_fn_over_on, B_fn_over_on, M_fn_over_on, K_fn_over_on⟩ := ok_fn_over_on (P := P) (w := w) (base := base) Z
  obtain ⟨fd_fn_exchanged, G_fn_exchanged, B_fn_exchanged, M_fn_exchanged, K_fn_exchanged⟩ := ok_fn_exchanged (P := P) (w := w) (base := base) Z
  obtain ⟨fd_fn_with_new, G_fn_with_new, B_fn_with_new, M_fn_with_new, K_fn_with_new⟩ := ok_fn_with_new (P := P) (w := w) (base := base) Z
  have S := sc_fn_put_in
  have G : FnOk P w K mg base (L2.CX P w) 5 (He.ga K "put_in") fd ["land", "rules", "store", "deed"] (spOf K mg 4 fn_put_in) := fn_ok F S (by decide) fun cdv A outer s H E hr tk => by
    have hu := room65 hr
    have hu1 := room1 hr
    have hu64 := Room.units hr
    exact (ssv_cons (sv_asg (pv_var (i := 2) rfl (by first | exact .inl rfl | exact .inr (.inl rfl) | exact .inr (.inr rfl))) (gg_tup rfl (gg_cons (gg_name S.nd (i := 4) rfl (by first | exact .inl rfl | exact .inr rfl)) (gg_cons (gg_name S.nd (i := 5) rfl (by first | exact .inl rfl | exact .inr rfl)) gg_nil))))
    (ssv_cons (sv_asg (pv_var (i := 3) rfl (by first | exact .inl rfl | exact .inr (.inl rfl) | exact .inr (.inr rfl))) (gg_tup rfl (gg_cons (gg_name S.nd (i := 6) rfl (by first | exact .inl rfl | exact .inr rfl)) (gg_cons (gg_name S.nd (i := 7) rfl (by first | exact .inl rfl | exact .inr rfl)) (gg_cons (gg_name S.nd (i := 8) rfl (by first | exact .inl rfl | exact .inr rfl)) (gg_cons (gg_name S.nd (i := 9) rfl (by first | exact .inl rfl | exact .inr rfl)) gg_nil))))))
    (ssv_cons (sv_if (tv_not (tv_val (pv_call G_fn_is_allowed (hr.mono (by decide)) rfl M_fn_is_allowed K_fn_is_allowed B_fn_is_allowed .nil DflW.nil tk (av_cons (pv_var (i := 0) rfl (by first | exact .inl rfl | exact .inr (.inl rfl) | exact .inr (.inr rfl))) (av_cons (pv_var (i := 1) rfl (by first | exact .inl rfl | exact .inr (.inl rfl) | exact .inr (.inr rfl))) (av_cons (pv_var (i := 7) rfl (by first | exact .inl rfl | exact .inr (.inl rfl) | exact .inr (.inr rfl))) (av_cons (pv_var (i := 8) rfl (by first | exact .inl rfl | exact .inr (.inl rfl) | exact .inr (.inr rfl))) (av_cons (pv_var (i := 9) rfl (by first | exact .inl rfl | exact .inr (.inl rfl) | exact .inr (.inr rfl))) av_nil)))))))) (ssv_one (sv_ret (pv_var (i := 2) rfl (by first | exact .inl rfl | exact .inr (.inl rfl) | exact .inr (.inr rfl))))) ssv_nil)
    (ssv_cons (sv_set S.nd (i := 10) rfl (by first | exact .inl rfl | exact .inr rfl) (pv_call G_fn_found_at (hr.mono (by decide)) rfl M_fn_found_at K_fn_found_at B_fn_found_at .nil DflW.nil tk (av_cons (pv_var (i := 1) rfl (by first | exact .inl rfl | exact .inr (.inl rfl) | exact .inr (.inr rfl))) (av_cons (pv_var (i := 5) rfl (by first | exact .inl rfl | exact .inr (.inl rfl) | exact .inr (.inr rfl))) (av_cons (pv_var (i := 9) rfl (by first | exact .inl rfl | exact .inr (.inl rfl) | exact .inr (.inr rfl))) av_nil)))))
    (ssv_cons (sv_if (tv_w (wv_and (tv_cmp op_isNotA opd_isNot (pv_var (i := 10) rfl (by first | exact .inl rfl | exact .inr (.inl rfl) | exact .inr (.inr rfl))) pv_non (by with_unfolding_all rfl)) (wv_and (tv_val (pv_fld Z.k_Rules Z.n_Rules_guarded (pv_var (i := 1) rfl (by first | exact .inl rfl | exact .inr (.inl rfl) | exact .inr (.inr rfl))))) (wv_and (tv_cmp (op_inA hu) opd_in pv_str (pv_ix hu1 (pv_ix hu1 (pv_var (i := 5) rfl (by first | exact .inl rfl | exact .inr (.inl rfl) | exact .inr (.inr rfl))) (pv_var (i := 10) rfl (by first | exact .inl rfl | exact .inr (.inl rfl) | exact .inr (.inr rfl)))) pv_int) (by with_unfolding_all rfl)) (wv_and1 (tv_not (tv_val (pv_var (i := 8) rfl (by first | exact .inl rfl | exact .inr (.inl rfl) | exact .inr (.inr rfl)))))))))) (ssv_one (sv_ret (pv_var (i := 2) rfl (by first | exact .inl rfl | exact .inr (.inl rfl) | exact .inr (.inr rfl))))) ssv_nil)
    (ssv_cons (sv_if (tv_val (pv_call G_fn_over_on (hr.mono (by decide)) rfl M_fn_over_on K_fn_over_on B_fn_over_on .nil DflW.nil tk (av_cons (pv_var (i := 9) rfl (by first | exact .inl rfl | exact .inr (.inl rfl) | exact .inr (.inr rfl))) (av_cons (pv_var (i := 4) rfl (by first | exact .inl rfl | exact .inr (.inl rfl) | exact .inr (.inr rfl))) av_nil)))) (ssv_one (sv_ret (pv_ifExp (tv_cmp op_isA opd_is (pv_var (i := 10) rfl (by first | exact .inl rfl | exact .inr (.inl rfl) | exact .inr (.inr rfl))) pv_non (by with_unfolding_all rfl)) (pv_var (i := 2) rfl (by first | exact .inl rfl | exact .inr (.inl rfl) | exact .inr (.inr rfl))) (pv_tup (av_cons (pv_var (i := 4) rfl (by first | exact .inl rfl | exact .inr (.inl rfl) | exact .inr (.inr rfl))) (av_cons (pv_op op_addA opd_add (pv_slice (pv_var (i := 5) rfl (by first | exact .inl rfl | exact .inr (.inl rfl) | exact .inr (.inr rfl))) ov_none (ov_some (pv_var (i := 10) rfl (by first | exact .inl rfl | exact .inr (.inl rfl) | exact .inr (.inr rfl))))) (pv_slice (pv_var (i := 5) rfl (by first | exact .inl rfl | exact .inr (.inl rfl) | exact .inr (.inr rfl))) (ov_some (pv_op op_addA opd_add (pv_var (i := 10) rfl (by first | exact .inl rfl | exact .inr (.inl rfl) | exact .inr (.inr rfl))) pv_int)) ov_none)) av_nil)))))) ssv_nil)
    (ssv_cons (sv_if (tv_cmp op_isNotA opd_isNot (pv_var (i := 10) rfl (by first | exact .inl rfl | exact .inr (.inl rfl) | exact .inr (.inr rfl))) pv_non (by with_unfolding_all rfl)) (ssv_one (sv_ret (pv_tup (av_cons (pv_var (i := 4) rfl (by first | exact .inl rfl | exact .inr (.inl rfl) | exact .inr (.inr rfl))) (av_cons (pv_call G_fn_exchanged (hr.mono (by decide)) rfl M_fn_exchanged K_fn_exchanged B_fn_exchanged .nil DflW.nil tk (av_cons (pv_var (i := 1) rfl (by first | exact .inl rfl | exact .inr (.inl rfl) | exact .inr (.inr rfl))) (av_cons (pv_var (i := 5) rfl (by first | exact .inl rfl | exact .inr (.inl rfl) | exact .inr (.inr rfl))) (av_cons (pv_var (i := 10) rfl (by first | exact .inl rfl | exact .inr (.inl rfl) | exact .inr (.inr rfl))) (av_cons (pv_var (i := 9) rfl (by first | exact .inl rfl | exact .inr (.inl rfl) | exact .inr (.inr rfl))) av_nil))))) av_nil))))) ssv_nil)
    (ssv_one (sv_ret (pv_tup (av_cons (pv_var (i := 4) rfl (by first | exact .inl rfl | exact .inr (.inl rfl) | exact .inr (.inr rfl))) (av_cons (pv_call G_fn_with_new (hr.mono (by decide)) rfl M_fn_with_new K_fn_with_new B_fn_with_new .nil DflW.nil tk (av_cons (pv_var (i := 0) rfl (by first | exact .inl rfl | exact .inr (.inl rfl) | exact .inr (.inr rfl))) (av_cons (pv_var (i := 1) rfl (by first | exact .inl rfl | exact .inr (.inl rfl) | exact .inr (.inr rfl))) (av_cons (pv_var (i := 5) rfl (by first | exact .inl rfl | exact .inr (.inl rfl) | exact .inr (.inr rfl))) (av_cons (pv_var (i := 9) rfl (by first | exact .inl rfl | exact .inr (.inl rfl) | exact .inr (.inr rfl))) av_nil))))) av_nil))))))))))))
  exact ⟨fd, G, F.bindsN fun _ _ _ _ _ _ us hl => match us, hl with | [_, _, _, _], _ => rfl, Z.d_fn_put_in.mg, F.kp⟩
theorem sc_fn_behind : FnScope (["land", "rules", "store", "deed", "day", "slip"]) ["land", "rules", "store", "deed"] (defScope (top 52)) := C8.fnScope_by (by decide +kernel)
theorem ok_fn_behind (Z : Fx K mg) : DefOk P w K mg base 6 "behind" ["land", "rules", "store", "deed"] fn_behind := by
  obtain ⟨fd, F⟩ := Z.d_fn_behind.fd
  obtain ⟨fd_fn_put_in, G_fn_put_in, B_fn_put_in, M_fn_put_in, K_fn_put_in⟩ := ok_fn_put_in (P := P) (w := w) (base := base) Z
  obtain ⟨fd_fn_over_on, G_fn_over_on, B_fn_over_on, M_fn_over_on, K_fn_over_on⟩ := ok_fn_over_on (P := P) (w := w) (base := base) Z
  have S := sc_fn_behind
  have G : FnOk P w K mg base (L2.CX P w) 6 (He.ga K "behind") fd ["land", "rules", "store", "deed"] (spOf K mg 4 fn_behind) := fn_ok F S (by decide) fun cdv A outer s H E hr tk => by
    have hu := room65 hr
    have hu1 := room1 hr
    have hu64 := Room.units hr
    exact (ssv_cons (sv_if (tv_cmp (op_eqD hu64) opd_eq (pv_ix hu1 (pv_var (i := 3) rfl (by first | exact .inl rfl | exact .inr (.inl rfl) | exact .inr (.inr rfl))) pv_int) pv_str (by with_unfolding_all rfl)) (ssv_one (sv_ret (pv_call G_fn_put_in (hr.mono (by decide)) rfl M_fn_put_in K_fn_put_in B_fn_put_in .nil DflW.nil tk (av_cons (pv_var (i := 0) rfl (by first | exact .inl rfl | exact .inr (.inl rfl) | exact .inr (.inr rfl))) (av_cons (pv_var (i := 1) rfl (by first | exact .inl rfl | exact .inr (.inl rfl) | exact .inr (.inr rfl))) (av_cons (pv_var (i := 2) rfl (by first | exact .inl rfl | exact .inr (.inl rfl) | exact .inr (.inr rfl))) (av_cons (pv_var (i := 3) rfl (by first | exact .inl rfl | exact .inr (.inl rfl) | exact .inr (.inr rfl))) av_nil))))))) ssv_nil)
    (ssv_cons (sv_set S.nd (i := 4) rfl (by first | exact .inl rfl | exact .inr rfl) (pv_callB (call_min2 rfl) bd_min rfl Z.m_min bt_min (av_cons (pv_con Z.v_LAST_DAY rfl) (av_cons (pv_op op_addA opd_add (pv_ix hu1 (pv_var (i := 2) rfl (by first | exact .inl rfl | exact .inr (.inl rfl) | exact .inr (.inr rfl))) pv_int) (pv_ix hu1 (pv_var (i := 3) rfl (by first | exact .inl rfl | exact .inr (.inl rfl) | exact .inr (.inr rfl))) pv_int)) av_nil))))
    (ssv_one (sv_ret (pv_tup (av_cons (pv_var (i := 4) rfl (by first | exact .inl rfl | exact .inr (.inl rfl) | exact .inr (.inr rfl))) (av_cons (pv_callTy call_tuple_of bd_tuple rfl Z.m_tuple bt_tuple (av_cons (pv_lc (own := [("slip", 5)]) rfl S.nd (iv_any (pv_ix hu1 (pv_var (i := 2) rfl (by first | exact .inl rfl | exact .inr (.inl rfl) | exact .inr (.inr rfl))) pv_int)) (blkOk_by (by kernel_rfl)) (fun _ _ _ _ _ => (gg_name S.nd (i := 5) rfl (by first | exact .inl rfl | exact .inr rfl))) (by decide) (fun _ _ _ _ _ => (tsv_one (tv_not (tv_val (pv_call G_fn_over_on (hr.mono (by decide)) rfl M_fn_over_on K_fn_over_on B_fn_over_on .nil DflW.nil DL.takes0 (av_cons (pv_var (i := 5) rfl (by first | exact .inl rfl | exact .inr (.inl rfl) | exact .inr (.inr rfl))) (av_cons (pv_var (i := 4) rfl (by first | exact .inl rfl | exact .inr (.inl rfl) | exact .inr (.inr rfl))) av_nil))))))) (fun _ _ _ _ _ => (pv_var (i := 5) rfl (by first | exact .inl rfl | exact .inr (.inl rfl) | exact .inr (.inr rfl))))) av_nil)) av_nil)))))))
  exact ⟨fd, G, F.bindsN fun _ _ _ _ _ _ us hl => match us, hl with | [_, _, _, _], _ => rfl, Z.d_fn_behind.mg, F.kp⟩
theorem sc_fn_after_all : FnScope (["land", "rules", "store", "deeds", "deed"]) ["land", "rules", "store", "deeds"] (defScope (top 55)) := C8.fnScope_by (by decide +kernel)
theorem ok_fn_after_all (Z : Fx K mg) : DefOk P w K mg base 8 "after_all" ["land", "rules", "store", "deeds"] fn_after_all := by
  obtain ⟨fd, F⟩ := Z.d_fn_after_all.fd
  obtain ⟨fd_fn_look_at_store, G_fn_look_at_store, B_fn_look_at_store, M_fn_look_at_store, K_fn_look_at_store⟩ := ok_fn_look_at_store (P := P) (w := w) (base := base) Z
  obtain ⟨fd_fn_look_at_deeds, G_fn_look_at_deeds, B_fn_look_at_deeds, M_fn_look_at_deeds, K_fn_look_at_deeds⟩ := ok_fn_look_at_deeds (P := P) (w := w) (base := base) Z
  obtain ⟨fd_fn_behind, G_fn_behind, B_fn_behind, M_fn_behind, K_fn_behind⟩ := ok_fn_behind (P := P) (w := w) (base := base) Z
  have S := sc_fn_after_all
  have G : FnOk P w K mg base (L2.CX P w) 8 (He.ga K "after_all") fd ["land", "rules", "store", "deeds"] (spOf K mg 4 fn_after_all) := fn_ok F S (by decide) fun cdv A outer s H E hr tk => by
    have hu := room65 hr
    have hu1 := room1 hr
    have hu64 := Room.units hr
    exact (ssv_cons (sv_expr (pv_call G_fn_look_at_store (hr.mono (by decide)) rfl M_fn_look_at_store K_fn_look_at_store B_fn_look_at_store .nil DflW.nil tk (av_cons (pv_var (i := 0) rfl (by first | exact .inl rfl | exact .inr (.inl rfl) | exact .inr (.inr rfl))) (av_cons (pv_var (i := 1) rfl (by first | exact .inl rfl | exact .inr (.inl rfl) | exact .inr (.inr rfl))) (av_cons (pv_var (i := 2) rfl (by first | exact .inl rfl | exact .inr (.inl rfl) | exact .inr (.inr rfl))) av_nil)))))
    (ssv_cons (sv_expr (pv_call G_fn_look_at_deeds (hr.mono (by decide)) rfl M_fn_look_at_deeds K_fn_look_at_deeds B_fn_look_at_deeds .nil DflW.nil tk (av_cons (pv_var (i := 3) rfl (by first | exact .inl rfl | exact .inr (.inl rfl) | exact .inr (.inr rfl))) av_nil)))
    (ssv_cons (sv_for (passes_of rfl) rfl (iv_any (pv_var (i := 3) rfl (by first | exact .inl rfl | exact .inr (.inl rfl) | exact .inr (.inr rfl)))) (gg_name S.nd (i := 4) rfl (by first | exact .inl rfl | exact .inr rfl)) (ssv_one (sv_set S.nd (i := 2) rfl (by first | exact .inl rfl | exact .inr rfl) (pv_call G_fn_behind (hr.mono (by decide)) rfl M_fn_behind K_fn_behind B_fn_behind .nil DflW.nil tk (av_cons (pv_var (i := 0) rfl (by first | exact .inl rfl | exact .inr (.inl rfl) | exact .inr (.inr rfl))) (av_cons (pv_var (i := 1) rfl (by first | exact .inl rfl | exact .inr (.inl rfl) | exact .inr (.inr rfl))) (av_cons (pv_var (i := 2) rfl (by first | exact .inl rfl | exact .inr (.inl rfl) | exact .inr (.inr rfl))) (av_cons (pv_var (i := 4) rfl (by first | exact .inl rfl | exact .inr (.inl rfl) | exact .inr (.inr rfl))) av_nil))))))))
    (ssv_one (sv_ret (pv_var (i := 2) rfl (by first | exact .inl rfl | exact .inr (.inl rfl) | exact .inr (.inr rfl))))))))
  exact ⟨fd, G, F.bindsN fun _ _ _ _ _ _ us hl => match us, hl with | [_, _, _, _], _ => rfl, Z.d_fn_after_all.mg, F.kp⟩
theorem sc_fn__law_marks : FnScope (["_law_pool_here"]) ["_law_pool_here"] (defScope (top 78)) := C8.fnScope_by (by decide +kernel)
theorem ok_fn__law_marks (Z : Fx K mg) : DefOk P w K mg base 3 "_law_marks" ["_law_pool_here"] fn__law_marks := by
  obtain ⟨fd, F⟩ := Z.d_fn__law_marks.fd
  obtain ⟨fd_fn__law_turned, G_fn__law_turned, B_fn__law_turned, M_fn__law_turned, K_fn__law_turned⟩ := ok_fn__law_turned (P := P) (w := w) (base := base) Z
  obtain ⟨fd_fn__law_one, G_fn__law_one, B_fn__law_one, M_fn__law_one, K_fn__law_one⟩ := ok_fn__law_one (P := P) (w := w) (base := base) Z
  have S := sc_fn__law_marks
  have G : FnOk P w K mg base (L2.CX P w) 3 (He.ga K "_law_marks") fd ["_law_pool_here"] (spOf K mg 1 fn__law_marks) := fn_ok F S (by decide) fun cdv A outer s H E hr tk => by
    have hu := room65 hr
    have hu1 := room1 hr
    have hu64 := Room.units hr
    exact (ssv_one (sv_ret (pv_callTy call_tuple_of bd_tuple rfl Z.m_tuple bt_tuple (av_cons (pv_callB cr_sortedS bd_sorted rfl Z.m_sorted bt_sorted (av_cons (pv_slice (pv_call G_fn__law_turned (hr.mono (by decide)) rfl M_fn__law_turned K_fn__law_turned B_fn__law_turned .nil DflW.nil tk (av_cons (pv_var (i := 0) rfl (by first | exact .inl rfl | exact .inr (.inl rfl) | exact .inr (.inr rfl))) (av_cons (pv_lst (av_cons pv_str (av_cons pv_str (av_cons pv_str av_nil)))) av_nil))) ov_none (ov_some (pv_call G_fn__law_one (hr.mono (by decide)) rfl M_fn__law_one K_fn__law_one B_fn__law_one .nil DflW.nil tk (av_cons (pv_var (i := 0) rfl (by first | exact .inl rfl | exact .inr (.inl rfl) | exact .inr (.inr rfl))) (av_cons (pv_lst (av_cons pv_int (av_cons pv_int (av_cons pv_int (av_cons pv_int (av_cons pv_int (av_cons pv_int av_nil))))))) av_nil))))) av_nil)) av_nil))))
  exact ⟨fd, G, F.bindsN fun _ _ _ _ _ _ us hl => match us, hl with | [_], _ => rfl, Z.d_fn__law_marks.mg, F.kp⟩
end
end Lw
set_option Elab.async false
set_option linter.all false
set_option maxRecDepth 100000
set_option maxHeartbeats 0
namespace Lw
open PySem PySem.Spec PyProof.Rows L2 DL
section
variable {P : Program} {w : World} {K : PySem.W.Frag} {mg : (Str → Option Value)} {base : Heap}
theorem sc_fn__law_end : FnScope (["_law_pool_here"]) ["_law_pool_here"] (defScope (top 79)) := C8.fnScope_by (by decide +kernel)
theorem ok_fn__law_end (Z : Fx K mg) : DefOk P w K mg base 2 "_law_end" ["_law_pool_here"] fn__law_end := by
  obtain ⟨fd, F⟩ := Z.d_fn__law_end.fd
  obtain ⟨fd_fn__law_take, G_fn__law_take, B_fn__law_take, M_fn__law_take, K_fn__law_take⟩ := ok_fn__law_take (P := P) (w := w) (base := base) Z
  have S := sc_fn__law_end
  have G : FnOk P w K mg base (L2.CX P w) 2 (He.ga K "_law_end") fd ["_law_pool_here"] (spOf K mg 1 fn__law_end) := fn_ok F S (by decide) fun cdv A outer s H E hr tk => by
    have hu := room65 hr
    have hu1 := room1 hr
    have hu64 := Room.units hr
    exact (ssv_one (sv_ret (pv_ifExp (tv_cmp (op_eqD hu64) opd_eq (pv_call G_fn__law_take (hr.mono (by decide)) rfl M_fn__law_take K_fn__law_take B_fn__law_take .nil DflW.nil tk (av_cons (pv_var (i := 0) rfl (by first | exact .inl rfl | exact .inr (.inl rfl) | exact .inr (.inr rfl))) (av_cons pv_int av_nil))) pv_int (by with_unfolding_all rfl)) pv_non (pv_op op_addA opd_add pv_int (pv_call G_fn__law_take (hr.mono (by decide)) rfl M_fn__law_take K_fn__law_take B_fn__law_take .nil DflW.nil tk (av_cons (pv_var (i := 0) rfl (by first | exact .inl rfl | exact .inr (.inl rfl) | exact .inr (.inr rfl))) (av_cons pv_int av_nil)))))))
  exact ⟨fd, G, F.bindsN fun _ _ _ _ _ _ us hl => match us, hl with | [_], _ => rfl, Z.d_fn__law_end.mg, F.kp⟩
theorem sc_fn__law_path : FnScope (["_law_pool_here"]) ["_law_pool_here"] (defScope (top 77)) := C8.fnScope_by (by decide +kernel)
theorem ok_fn__law_path (Z : Fx K mg) : DefOk P w K mg base 3 "_law_path" ["_law_pool_here"] fn__law_path := by
  obtain ⟨fd, F⟩ := Z.d_fn__law_path.fd
  obtain ⟨fd_fn__law_one, G_fn__law_one, B_fn__law_one, M_fn__law_one, K_fn__law_one⟩ := ok_fn__law_one (P := P) (w := w) (base := base) Z
  have S := sc_fn__law_path
  have G : FnOk P w K mg base (L2.CX P w) 3 (He.ga K "_law_path") fd ["_law_pool_here"] (spOf K mg 1 fn__law_path) := fn_ok F S (by decide) fun cdv A outer s H E hr tk => by
    have hu := room65 hr
    have hu1 := room1 hr
    have hu64 := Room.units hr
    exact (ssv_one (sv_ret (pv_callTy call_tuple_of bd_tuple rfl Z.m_tuple bt_tuple (av_cons (pv_call G_fn__law_one (hr.mono (by decide)) rfl M_fn__law_one K_fn__law_one B_fn__law_one .nil DflW.nil tk (av_cons (pv_var (i := 0) rfl (by first | exact .inl rfl | exact .inr (.inl rfl) | exact .inr (.inr rfl))) (av_cons (pv_lst (av_cons (pv_lst av_nil) (av_cons (pv_lst (av_cons pv_str av_nil)) (av_cons (pv_lst (av_cons pv_str (av_cons pv_str av_nil))) (av_cons (pv_lst (av_cons pv_str (av_cons pv_str (av_cons pv_str av_nil)))) (av_cons (pv_lst (av_cons pv_str av_nil)) (av_cons (pv_lst (av_cons pv_str (av_cons pv_str av_nil))) av_nil))))))) av_nil))) av_nil))))
  exact ⟨fd, G, F.bindsN fun _ _ _ _ _ _ us hl => match us, hl with | [_], _ => rfl, Z.d_fn__law_path.mg, F.kp⟩
theorem sc_fn__law_host : FnScope (["_law_pool_here", "_law_land_here", "_law_house", "_law_way"]) ["_law_pool_here", "_law_land_here"] (defScope (top 80)) := C8.fnScope_by (by decide +kernel)
theorem ok_fn__law_host (Z : Fx K mg) : DefOk P w K mg base 3 "_law_host" ["_law_pool_here", "_law_land_here"] fn__law_host := by
  obtain ⟨fd, F⟩ := Z.d_fn__law_host.fd
  obtain ⟨fd_fn__law_one, G_fn__law_one, B_fn__law_one, M_fn__law_one, K_fn__law_one⟩ := ok_fn__law_one (P := P) (w := w) (base := base) Z
  obtain ⟨fd_fn__law_take, G_fn__law_take, B_fn__law_take, M_fn__law_take, K_fn__law_take⟩ := ok_fn__law_take (P := P) (w := w) (base := base) Z
  have S := sc_fn__law_host
  have G : FnOk P w K mg base (L2.CX P w) 3 (He.ga K "_law_host") fd ["_law_pool_here", "_law_land_here"] (spOf K mg 2 fn__law_host) := fn_ok F S (by decide) fun cdv A outer s H E hr tk => by
    have hu := room65 hr
    have hu1 := room1 hr
    have hu64 := Room.units hr
    exact (ssv_cons (sv_set S.nd (i := 2) rfl (by first | exact .inl rfl | exact .inr rfl) (pv_call G_fn__law_one (hr.mono (by decide)) rfl M_fn__law_one K_fn__law_one B_fn__law_one .nil DflW.nil tk (av_cons (pv_var (i := 0) rfl (by first | exact .inl rfl | exact .inr (.inl rfl) | exact .inr (.inr rfl))) (av_cons (pv_ix hu1 (pv_var (i := 1) rfl (by first | exact .inl rfl | exact .inr (.inl rfl) | exact .inr (.inr rfl))) pv_str) av_nil))))
    (ssv_cons (sv_set S.nd (i := 3) rfl (by first | exact .inl rfl | exact .inr rfl) (pv_call G_fn__law_take (hr.mono (by decide)) rfl M_fn__law_take K_fn__law_take B_fn__law_take .nil DflW.nil tk (av_cons (pv_var (i := 0) rfl (by first | exact .inl rfl | exact .inr (.inl rfl) | exact .inr (.inr rfl))) (av_cons pv_int av_nil))))
    (ssv_cons (sv_if (tv_cmp (op_eqD hu64) opd_eq (pv_var (i := 3) rfl (by first | exact .inl rfl | exact .inr (.inl rfl) | exact .inr (.inr rfl))) pv_int (by with_unfolding_all rfl)) (ssv_one (sv_ret (pv_slice (pv_var (i := 2) rfl (by first | exact .inl rfl | exact .inr (.inl rfl) | exact .inr (.inr rfl))) ov_none (ov_some (pv_op op_addA opd_add pv_int (pv_call G_fn__law_take (hr.mono (by decide)) rfl M_fn__law_take K_fn__law_take B_fn__law_take .nil DflW.nil tk (av_cons (pv_var (i := 0) rfl (by first | exact .inl rfl | exact .inr (.inl rfl) | exact .inr (.inr rfl))) (av_cons (pv_callB call_lenA bd_len rfl Z.m_len bt_len (av_cons (pv_var (i := 2) rfl (by first | exact .inl rfl | exact .inr (.inl rfl) | exact .inr (.inr rfl))) av_nil)) av_nil)))))))) ssv_nil)
    (ssv_one (sv_ret (pv_ifExp (tv_w (wv_and (tv_cmp (op_eqD hu64) opd_eq (pv_var (i := 3) rfl (by first | exact .inl rfl | exact .inr (.inl rfl) | exact .inr (.inr rfl))) pv_int (by with_unfolding_all rfl)) (wv_and1 (tv_cmp op_lt opd_lt (pv_callB call_lenA bd_len rfl Z.m_len bt_len (av_cons (pv_var (i := 2) rfl (by first | exact .inl rfl | exact .inr (.inl rfl) | exact .inr (.inr rfl))) av_nil)) pv_int (by with_unfolding_all rfl))))) (pv_op op_addA opd_add (pv_var (i := 2) rfl (by first | exact .inl rfl | exact .inr (.inl rfl) | exact .inr (.inr rfl))) (pv_tup (av_cons pv_str av_nil))) (pv_var (i := 2) rfl (by first | exact .inl rfl | exact .inr (.inl rfl) | exact .inr (.inr rfl)))))))))
  exact ⟨fd, G, F.bindsN fun _ _ _ _ _ _ us hl => match us, hl with | [_, _], _ => rfl, Z.d_fn__law_host.mg, F.kp⟩
theorem sc_fn__law_slip : FnScope (["_law_pool_here", "_law_land_here", "_law_name", "_law_worth", "_law_wide"]) ["_law_pool_here", "_law_land_here"] (defScope (top 81)) := C8.fnScope_by (by decide +kernel)
theorem ok_fn__law_slip (Z : Fx K mg) : DefOk P w K mg base 4 "_law_slip" ["_law_pool_here", "_law_land_here"] fn__law_slip := by
  obtain ⟨fd, F⟩ := Z.d_fn__law_slip.fd
  obtain ⟨fd_fn__law_one, G_fn__law_one, B_fn__law_one, M_fn__law_one, K_fn__law_one⟩ := ok_fn__law_one (P := P) (w := w) (base := base) Z
  obtain ⟨fd_fn__law_take, G_fn__law_take, B_fn__law_take, M_fn__law_take, K_fn__law_take⟩ := ok_fn__law_take (P := P) (w := w) (base := base) Z
  obtain ⟨fd_fn__law_marks, G_fn__law_marks, B_fn__law_marks, M_fn__law_marks, K_fn__law_marks⟩ := ok_fn__law_marks (P := P) (w := w) (base := base) Z
  obtain ⟨fd_fn__law_end, G_fn__law_end, B_fn__law_end, M_fn__law_end, K_fn__law_end⟩ := ok_fn__law_end (P := P) (w := w) (base := base) Z
  obtain ⟨fd_fn__law_path, G_fn__law_path, B_fn__law_path, M_fn__law_path, K_fn__law_path⟩ := ok_fn__law_path (P := P) (w := w) (base := base) Z
  obtain ⟨fd_fn__law_host, G_fn__law_host, B_fn__law_host, M_fn__law_host, K_fn__law_host⟩ := ok_fn__law_host (P := P) (w := w) (base := base) Z
  have S := sc_fn__law_slip
  have G : FnOk P w K mg base (L2.CX P w) 4 (He.ga K "_law_slip") fd ["_law_pool_here", "_law_land_here"] (spOf K mg 2 fn__law_slip) := fn_ok F S (by decide) fun cdv A outer s H E hr tk => by
    have hu := room65 hr
    have hu1 := room1 hr
    have hu64 := Room.units hr
    exact (ssv_cons (sv_par (i := 2) (j := 3) rfl S.nd rfl rfl (by decide) rfl rfl (av_cons (pv_call G_fn__law_one (hr.mono (by decide)) rfl M_fn__law_one K_fn__law_one B_fn__law_one .nil DflW.nil tk (av_cons (pv_var (i := 0) rfl (by first | exact .inl rfl | exact .inr (.inl rfl) | exact .inr (.inr rfl))) (av_cons (pv_lst (av_cons pv_str (av_cons pv_str (av_cons pv_str (av_cons pv_str av_nil))))) av_nil))) (av_cons (pv_call G_fn__law_one (hr.mono (by decide)) rfl M_fn__law_one K_fn__law_one B_fn__law_one .nil DflW.nil tk (av_cons (pv_var (i := 0) rfl (by first | exact .inl rfl | exact .inr (.inl rfl) | exact .inr (.inr rfl))) (av_cons (pv_lst (av_cons pv_str (av_cons pv_str av_nil))) av_nil))) av_nil)) rfl)
    (ssv_cons (sv_set S.nd (i := 4) rfl (by first | exact .inl rfl | exact .inr rfl) (pv_cmp (op_eqD hu64) opd_eq (pv_call G_fn__law_take (hr.mono (by decide)) rfl M_fn__law_take K_fn__law_take B_fn__law_take .nil DflW.nil tk (av_cons (pv_var (i := 0) rfl (by first | exact .inl rfl | exact .inr (.inl rfl) | exact .inr (.inr rfl))) (av_cons pv_int av_nil))) pv_int (by with_unfolding_all rfl)))
    (ssv_one (sv_ret (pv_tup (av_cons (pv_var (i := 2) rfl (by first | exact .inl rfl | exact .inr (.inl rfl) | exact .inr (.inr rfl))) (av_cons (pv_var (i := 3) rfl (by first | exact .inl rfl | exact .inr (.inl rfl) | exact .inr (.inr rfl))) (av_cons (pv_call G_fn__law_host (hr.mono (by decide)) rfl M_fn__law_host K_fn__law_host B_fn__law_host .nil DflW.nil tk (av_cons (pv_var (i := 0) rfl (by first | exact .inl rfl | exact .inr (.inl rfl) | exact .inr (.inr rfl))) (av_cons (pv_var (i := 1) rfl (by first | exact .inl rfl | exact .inr (.inl rfl) | exact .inr (.inr rfl))) av_nil))) (av_cons (pv_var (i := 4) rfl (by first | exact .inl rfl | exact .inr (.inl rfl) | exact .inr (.inr rfl))) (av_cons (pv_call G_fn__law_path (hr.mono (by decide)) rfl M_fn__law_path K_fn__law_path B_fn__law_path .nil DflW.nil tk (av_cons (pv_var (i := 0) rfl (by first | exact .inl rfl | exact .inr (.inl rfl) | exact .inr (.inr rfl))) av_nil)) (av_cons (pv_call G_fn__law_end (hr.mono (by decide)) rfl M_fn__law_end K_fn__law_end B_fn__law_end .nil DflW.nil tk (av_cons (pv_var (i := 0) rfl (by first | exact .inl rfl | exact .inr (.inl rfl) | exact .inr (.inr rfl))) av_nil)) (av_cons (pv_call G_fn__law_marks (hr.mono (by decide)) rfl M_fn__law_marks K_fn__law_marks B_fn__law_marks .nil DflW.nil tk (av_cons (pv_var (i := 0) rfl (by first | exact .inl rfl | exact .inr (.inl rfl) | exact .inr (.inr rfl))) av_nil)) av_nil))))))))))))
  exact ⟨fd, G, F.bindsN fun _ _ _ _ _ _ us hl => match us, hl with | [_, _], _ => rfl, Z.d_fn__law_slip.mg, F.kp⟩
theorem sc_fn__law_put : FnScope (["_law_pool_here", "_law_land_here", "_law_house", "_law_slip_here", "_law_host_here"]) ["_law_pool_here", "_law_land_here"] (defScope (top 82)) := C8.fnScope_by (by decide +kernel)
theorem ok_fn__law_put (Z : Fx K mg) : DefOk P w K mg base 5 "_law_put" ["_law_pool_here", "_law_land_here"] fn__law_put := by
  obtain ⟨fd, F⟩ := Z.d_fn__law_put.fd
  obtain ⟨fd_fn__law_slip, G_fn__law_slip, B_fn__law_slip, M_fn__law_slip, K_fn__law_slip⟩ := ok_fn__law_slip (P := P) (w := w) (base := base) Z
  obtain ⟨fd_fn__law_one, G_fn__law_one, B_fn__law_one, M_fn__law_one, K_fn__law_one⟩ := ok_fn__law_one (P := P) (w := w) (base := base) Z
  obtain ⟨fd_fn__law_take, G_fn__law_take, B_fn__law_take, M_fn__law_take, K_fn__law_take⟩ := ok_fn__law_take (P := P) (w := w) (base := base) Z
  have S := sc_fn__law_put
  have G : FnOk P w K mg base (L2.CX P w) 5 (He.ga K "_law_put") fd ["_law_pool_here", "_law_land_here"] (spOf K mg 2 fn__law_put) := fn_ok F S (by decide) fun cdv A outer s H E hr tk => by
    have hu := room65 hr
    have hu1 := room1 hr
    have hu64 := Room.units hr
    exact (ssv_cons (sv_par (i := 2) (j := 3) rfl S.nd rfl rfl (by decide) rfl rfl (av_cons (pv_call G_fn__law_one (hr.mono (by decide)) rfl M_fn__law_one K_fn__law_one B_fn__law_one .nil DflW.nil tk (av_cons (pv_var (i := 0) rfl (by first | exact .inl rfl | exact .inr (.inl rfl) | exact .inr (.inr rfl))) (av_cons (pv_ix hu1 (pv_var (i := 1) rfl (by first | exact .inl rfl | exact .inr (.inl rfl) | exact .inr (.inr rfl))) pv_str) av_nil))) (av_cons (pv_call G_fn__law_slip (hr.mono (by decide)) rfl M_fn__law_slip K_fn__law_slip B_fn__law_slip .nil DflW.nil tk (av_cons (pv_var (i := 0) rfl (by first | exact .inl rfl | exact .inr (.inl rfl) | exact .inr (.inr rfl))) (av_cons (pv_var (i := 1) rfl (by first | exact .inl rfl | exact .inr (.inl rfl) | exact .inr (.inr rfl))) av_nil))) av_nil)) rfl)
    (ssv_cons (sv_if (tv_cmp op_gt opd_gt (pv_call G_fn__law_take (hr.mono (by decide)) rfl M_fn__law_take K_fn__law_take B_fn__law_take .nil DflW.nil tk (av_cons (pv_var (i := 0) rfl (by first | exact .inl rfl | exact .inr (.inl rfl) | exact .inr (.inr rfl))) (av_cons pv_int av_nil))) pv_int (by with_unfolding_all rfl)) (ssv_cons (sv_set S.nd (i := 4) rfl (by first | exact .inl rfl | exact .inr rfl) (pv_ifExp (tv_val (pv_ix hu1 (pv_var (i := 3) rfl (by first | exact .inl rfl | exact .inr (.inl rfl) | exact .inr (.inr rfl))) pv_int)) (pv_slice (pv_var (i := 2) rfl (by first | exact .inl rfl | exact .inr (.inl rfl) | exact .inr (.inr rfl))) ov_none (ov_some (pv_op op_addA opd_add pv_int (pv_call G_fn__law_take (hr.mono (by decide)) rfl M_fn__law_take K_fn__law_take B_fn__law_take .nil DflW.nil tk (av_cons (pv_var (i := 0) rfl (by first | exact .inl rfl | exact .inr (.inl rfl) | exact .inr (.inr rfl))) (av_cons (pv_callB call_lenA bd_len rfl Z.m_len bt_len (av_cons (pv_var (i := 2) rfl (by first | exact .inl rfl | exact .inr (.inl rfl) | exact .inr (.inr rfl))) av_nil)) av_nil)))))) (pv_var (i := 2) rfl (by first | exact .inl rfl | exact .inr (.inl rfl) | exact .inr (.inr rfl)))))
    (ssv_one (sv_set S.nd (i := 3) rfl (by first | exact .inl rfl | exact .inr rfl) (pv_op op_addA opd_add (pv_op op_addA opd_add (pv_slice (pv_var (i := 3) rfl (by first | exact .inl rfl | exact .inr (.inl rfl) | exact .inr (.inr rfl))) ov_none (ov_some pv_int)) (pv_tup (av_cons (pv_var (i := 4) rfl (by first | exact .inl rfl | exact .inr (.inl rfl) | exact .inr (.inr rfl))) av_nil))) (pv_slice (pv_var (i := 3) rfl (by first | exact .inl rfl | exact .inr (.inl rfl) | exact .inr (.inr rfl))) (ov_some pv_int) ov_none))))) ssv_nil)
    (ssv_one (sv_ret (pv_tup (av_cons pv_str (av_cons (pv_var (i := 2) rfl (by first | exact .inl rfl | exact .inr (.inl rfl) | exact .inr (.inr rfl))) (av_cons (pv_cmp (op_eqD hu64) opd_eq (pv_call G_fn__law_take (hr.mono (by decide)) rfl M_fn__law_take K_fn__law_take B_fn__law_take .nil DflW.nil tk (av_cons (pv_var (i := 0) rfl (by first | exact .inl rfl | exact .inr (.inl rfl) | exact .inr (.inr rfl))) (av_cons pv_int av_nil))) pv_int (by with_unfolding_all rfl)) (av_cons (pv_var (i := 3) rfl (by first | exact .inl rfl | exact .inr (.inl rfl) | exact .inr (.inr rfl))) av_nil)))))))))
  exact ⟨fd, G, F.bindsN fun _ _ _ _ _ _ us hl => match us, hl with | [_, _], _ => rfl, Z.d_fn__law_put.mg, F.kp⟩
theorem sc_fn__law_circle : FnScope (["_law_land_here", "_law_host_here", "_law_some", "_law_many", "_law_one_here"]) ["_law_land_here", "_law_host_here"] (defScope (top 85)) := C8.fnScope_by (by decide +kernel)
theorem ok_fn__law_circle (Z : Fx K mg) : DefOk P w K mg base 1 "_law_circle" ["_law_land_here", "_law_host_here"] fn__law_circle := by
  obtain ⟨fd, F⟩ := Z.d_fn__law_circle.fd
  have S := sc_fn__law_circle
  have G : FnOk P w K mg base (L2.CX P w) 1 (He.ga K "_law_circle") fd ["_law_land_here", "_law_host_here"] (spOf K mg 2 fn__law_circle) := fn_ok F S (by decide) fun cdv A outer s H E hr tk => by
    have hu := room65 hr
    have hu1 := room1 hr
    have hu64 := Room.units hr
    exact (ssv_cons (sv_lc (own := [("_law_many", 3)]) (i := 2) rfl S.nd rfl rfl rfl (iv_any (pv_listRg rfl rfl Z.m_list rfl Z.m_range (pv_callB call_lenA bd_len rfl Z.m_len bt_len (av_cons (pv_var (i := 1) rfl (by first | exact .inl rfl | exact .inr (.inl rfl) | exact .inr (.inr rfl))) av_nil)))) (blkOk_by (by kernel_rfl)) (fun _ _ _ _ _ => (gg_name S.nd (i := 3) rfl (by first | exact .inl rfl | exact .inr rfl))) (by decide) (fun _ _ _ _ _ => tsv_nil) (fun _ _ _ _ _ => (pv_slice (pv_var (i := 1) rfl (by first | exact .inl rfl | exact .inr (.inl rfl) | exact .inr (.inr rfl))) ov_none (ov_some (pv_op op_addA opd_add (pv_var (i := 3) rfl (by first | exact .inl rfl | exact .inr (.inl rfl) | exact .inr (.inr rfl))) pv_int)))))
    (ssv_cons (sv_lc (own := [("_law_one_here", 4)]) (i := 2) rfl S.nd rfl rfl rfl (iv_any (pv_var (i := 2) rfl (by first | exact .inl rfl | exact .inr (.inl rfl) | exact .inr (.inr rfl)))) (blkOk_by (by kernel_rfl)) (fun _ _ _ _ _ => (gg_name S.nd (i := 4) rfl (by first | exact .inl rfl | exact .inr rfl))) (by decide) (fun _ _ _ _ _ => (tsv_one (tv_cmp (op_notInA hu) opd_notIn (pv_var (i := 4) rfl (by first | exact .inl rfl | exact .inr (.inl rfl) | exact .inr (.inr rfl))) (pv_ix hu1 (pv_var (i := 0) rfl (by first | exact .inl rfl | exact .inr (.inl rfl) | exact .inr (.inr rfl))) pv_str) (by with_unfolding_all rfl)))) (fun _ _ _ _ _ => (pv_var (i := 4) rfl (by first | exact .inl rfl | exact .inr (.inl rfl) | exact .inr (.inr rfl)))))
    (ssv_one (sv_ret (pv_ifExp (tv_cmp (op_neD hu64) opd_ne (pv_var (i := 2) rfl (by first | exact .inl rfl | exact .inr (.inl rfl) | exact .inr (.inr rfl))) (pv_lst av_nil) (by with_unfolding_all rfl)) (pv_ix hu1 (pv_var (i := 2) rfl (by first | exact .inl rfl | exact .inr (.inl rfl) | exact .inr (.inr rfl))) pv_int) (pv_var (i := 1) rfl (by first | exact .inl rfl | exact .inr (.inl rfl) | exact .inr (.inr rfl))))))))
  exact ⟨fd, G, F.bindsN fun _ _ _ _ _ _ us hl => match us, hl with | [_, _], _ => rfl, Z.d_fn__law_circle.mg, F.kp⟩
theorem sc_fn__law_parts : FnScope (["_law_land_here", "_law_store", "_law_hosts", "_law_found", "_law_one_here", "_law_slip_here"]) ["_law_land_here", "_law_store", "_law_hosts"] (defScope (top 87)) := C8.fnScope_by (by decide +kernel)
theorem ok_fn__law_parts (Z : Fx K mg) : DefOk P w K mg base 2 "_law_parts" ["_law_land_here", "_law_store", "_law_hosts"] fn__law_parts := by
  obtain ⟨fd, F⟩ := Z.d_fn__law_parts.fd
  obtain ⟨fd_fn__law_circle, G_fn__law_circle, B_fn__law_circle, M_fn__law_circle, K_fn__law_circle⟩ := ok_fn__law_circle (P := P) (w := w) (base := base) Z
  have S := sc_fn__law_parts
  have G : FnOk P w K mg base (L2.CX P w) 2 (He.ga K "_law_parts") fd ["_law_land_here", "_law_store", "_law_hosts"] (spOf K mg 3 fn__law_parts) := fn_ok F S (by decide) fun cdv A outer s H E hr tk => by
    have hu := room65 hr
    have hu1 := room1 hr
    have hu64 := Room.units hr
    exact (ssv_cons (sv_set S.nd (i := 3) rfl (by first | exact .inl rfl | exact .inr rfl) (pv_lstC av_nil))
    (ssv_cons (sv_for (passes_of rfl) rfl (iv_any (pv_var (i := 2) rfl (by first | exact .inl rfl | exact .inr (.inl rfl) | exact .inr (.inr rfl)))) (gg_name S.nd (i := 4) rfl (by first | exact .inl rfl | exact .inr rfl)) (ssv_one (sv_expr (pv_lm PySem.F.slot_list_append PySem.F.type_list_append mt_append lm_append (pv_var (i := 3) rfl (by first | exact .inl rfl | exact .inr (.inl rfl) | exact .inr (.inr rfl))) (av_cons (pv_lc (own := [("_law_slip_here", 5)]) rfl S.nd (iv_any (pv_ix hu1 (pv_var (i := 1) rfl (by first | exact .inl rfl | exact .inr (.inl rfl) | exact .inr (.inr rfl))) pv_int)) (blkOk_by (by kernel_rfl)) (fun _ _ _ _ _ => (gg_name S.nd (i := 5) rfl (by first | exact .inl rfl | exact .inr rfl))) (by decide) (fun _ _ _ _ _ => (tsv_one (tv_cmp (op_eqD hu64) opd_eq (pv_call G_fn__law_circle (hr.mono (by decide)) rfl M_fn__law_circle K_fn__law_circle B_fn__law_circle .nil DflW.nil DL.takes0 (av_cons (pv_var (i := 0) rfl (by first | exact .inl rfl | exact .inr (.inl rfl) | exact .inr (.inr rfl))) (av_cons (pv_ix hu1 (pv_var (i := 5) rfl (by first | exact .inl rfl | exact .inr (.inl rfl) | exact .inr (.inr rfl))) pv_int) av_nil))) (pv_var (i := 4) rfl (by first | exact .inl rfl | exact .inr (.inl rfl) | exact .inr (.inr rfl))) (by with_unfolding_all rfl)))) (fun _ _ _ _ _ => (pv_var (i := 5) rfl (by first | exact .inl rfl | exact .inr (.inl rfl) | exact .inr (.inr rfl))))) av_nil)))))
    (ssv_one (sv_ret (pv_var (i := 3) rfl (by first | exact .inl rfl | exact .inr (.inl rfl) | exact .inr (.inr rfl)))))))
  exact ⟨fd, G, F.bindsN fun _ _ _ _ _ _ us hl => match us, hl with | [_, _, _], _ => rfl, Z.d_fn__law_parts.mg, F.kp⟩
end
end Lw
set_option Elab.async false
set_option linter.all false
set_option maxRecDepth 100000
set_option maxHeartbeats 0
namespace Lw
open PySem PySem.Spec PyProof.Rows L2 DL
section
variable {P : Program} {w : World} {K : PySem.W.Frag} {mg : (Str → Option Value)} {base : Heap}
theorem sc_fn_may_put : FnScope (["land", "rules", "house", "closed", "slip"]) ["land", "rules", "house", "closed", "slip"] (defScope (top 46)) := C8.fnScope_by (by decide +kernel)
theorem ok_fn_may_put (Z : Fx K mg) : DefOk P w K mg base 6 "may_put" ["land", "rules", "house", "closed", "slip"] fn_may_put := by
  obtain ⟨fd, F⟩ := Z.d_fn_may_put.fd
  obtain ⟨fd_fn_is_put, G_fn_is_put, B_fn_is_put, M_fn_is_put, K_fn_is_put⟩ := ok_fn_is_put (P := P) (w := w) (base := base) Z
  obtain ⟨fd_fn_is_allowed, G_fn_is_allowed, B_fn_is_allowed, M_fn_is_allowed, K_fn_is_allowed⟩ := ok_fn_is_allowed (P := P) (w := w) (base := base) Z
  have S := sc_fn_may_put
  have G : FnOk P w K mg base (L2.CX P w) 6 (He.ga K "may_put") fd ["land", "rules", "house", "closed", "slip"] (spOf K mg 5 fn_may_put) := fn_ok F S (by decide) fun cdv A outer s H E hr tk => by
    have hu := room65 hr
    have hu1 := room1 hr
    have hu64 := Room.units hr
    exact (ssv_cons (sv_if (tv_not (tv_val (pv_call G_fn_is_put (hr.mono (by decide)) rfl M_fn_is_put K_fn_is_put B_fn_is_put .nil DflW.nil tk (av_cons (pv_tup (av_cons pv_str (av_cons (pv_var (i := 2) rfl (by first | exact .inl rfl | exact .inr (.inl rfl) | exact .inr (.inr rfl))) (av_cons (pv_var (i := 3) rfl (by first | exact .inl rfl | exact .inr (.inl rfl) | exact .inr (.inr rfl))) (av_cons (pv_var (i := 4) rfl (by first | exact .inl rfl | exact .inr (.inl rfl) | exact .inr (.inr rfl))) av_nil))))) av_nil)))) (ssv_one sv_stuck) ssv_nil)
    (ssv_one (sv_ret (pv_call G_fn_is_allowed (hr.mono (by decide)) rfl M_fn_is_allowed K_fn_is_allowed B_fn_is_allowed .nil DflW.nil tk (av_cons (pv_var (i := 0) rfl (by first | exact .inl rfl | exact .inr (.inl rfl) | exact .inr (.inr rfl))) (av_cons (pv_var (i := 1) rfl (by first | exact .inl rfl | exact .inr (.inl rfl) | exact .inr (.inr rfl))) (av_cons (pv_var (i := 2) rfl (by first | exact .inl rfl | exact .inr (.inl rfl) | exact .inr (.inr rfl))) (av_cons (pv_var (i := 3) rfl (by first | exact .inl rfl | exact .inr (.inl rfl) | exact .inr (.inr rfl))) (av_cons (pv_var (i := 4) rfl (by first | exact .inl rfl | exact .inr (.inl rfl) | exact .inr (.inr rfl))) av_nil)))))))))
  exact ⟨fd, G, F.bindsN fun _ _ _ _ _ _ us hl => match us, hl with | [_, _, _, _, _], _ => rfl, Z.d_fn_may_put.mg, F.kp⟩
theorem sc_fn_met : FnScope (["land", "rules", "store", "slip", "spot"]) ["land", "rules", "store", "slip"] (defScope (top 56)) := C8.fnScope_by (by decide +kernel)
theorem ok_fn_met (Z : Fx K mg) : DefOk P w K mg base 7 "met" ["land", "rules", "store", "slip"] fn_met := by
  obtain ⟨fd, F⟩ := Z.d_fn_met.fd
  obtain ⟨fd_fn_look_at_store, G_fn_look_at_store, B_fn_look_at_store, M_fn_look_at_store, K_fn_look_at_store⟩ := ok_fn_look_at_store (P := P) (w := w) (base := base) Z
  obtain ⟨fd_fn_is_slip, G_fn_is_slip, B_fn_is_slip, M_fn_is_slip, K_fn_is_slip⟩ := ok_fn_is_slip (P := P) (w := w) (base := base) Z
  obtain ⟨fd_fn_found_at, G_fn_found_at, B_fn_found_at, M_fn_found_at, K_fn_found_at⟩ := ok_fn_found_at (P := P) (w := w) (base := base) Z
  have S := sc_fn_met
  have G : FnOk P w K mg base (L2.CX P w) 7 (He.ga K "met") fd ["land", "rules", "store", "slip"] (spOf K mg 4 fn_met) := fn_ok F S (by decide) fun cdv A outer s H E hr tk => by
    have hu := room65 hr
    have hu1 := room1 hr
    have hu64 := Room.units hr
    exact (ssv_cons (sv_expr (pv_call G_fn_look_at_store (hr.mono (by decide)) rfl M_fn_look_at_store K_fn_look_at_store B_fn_look_at_store .nil DflW.nil tk (av_cons (pv_var (i := 0) rfl (by first | exact .inl rfl | exact .inr (.inl rfl) | exact .inr (.inr rfl))) (av_cons (pv_var (i := 1) rfl (by first | exact .inl rfl | exact .inr (.inl rfl) | exact .inr (.inr rfl))) (av_cons (pv_var (i := 2) rfl (by first | exact .inl rfl | exact .inr (.inl rfl) | exact .inr (.inr rfl))) av_nil)))))
    (ssv_cons (sv_if (tv_not (tv_val (pv_call G_fn_is_slip (hr.mono (by decide)) rfl M_fn_is_slip K_fn_is_slip B_fn_is_slip .nil DflW.nil tk (av_cons (pv_var (i := 3) rfl (by first | exact .inl rfl | exact .inr (.inl rfl) | exact .inr (.inr rfl))) av_nil)))) (ssv_one sv_stuck) ssv_nil)
    (ssv_cons (sv_set S.nd (i := 4) rfl (by first | exact .inl rfl | exact .inr rfl) (pv_call G_fn_found_at (hr.mono (by decide)) rfl M_fn_found_at K_fn_found_at B_fn_found_at .nil DflW.nil tk (av_cons (pv_var (i := 1) rfl (by first | exact .inl rfl | exact .inr (.inl rfl) | exact .inr (.inr rfl))) (av_cons (pv_ix hu1 (pv_var (i := 2) rfl (by first | exact .inl rfl | exact .inr (.inl rfl) | exact .inr (.inr rfl))) pv_int) (av_cons (pv_var (i := 3) rfl (by first | exact .inl rfl | exact .inr (.inl rfl) | exact .inr (.inr rfl))) av_nil)))))
    (ssv_one (sv_ret (pv_ifExp (tv_cmp op_isA opd_is (pv_var (i := 4) rfl (by first | exact .inl rfl | exact .inr (.inl rfl) | exact .inr (.inr rfl))) pv_non (by with_unfolding_all rfl)) pv_non (pv_ix hu1 (pv_ix hu1 (pv_var (i := 2) rfl (by first | exact .inl rfl | exact .inr (.inl rfl) | exact .inr (.inr rfl))) pv_int) (pv_var (i := 4) rfl (by first | exact .inl rfl | exact .inr (.inl rfl) | exact .inr (.inr rfl))))))))))
  exact ⟨fd, G, F.bindsN fun _ _ _ _ _ _ us hl => match us, hl with | [_, _, _, _], _ => rfl, Z.d_fn_met.mg, F.kp⟩
theorem sc_fn__law_key : FnScope (["_law_own", "_law_slip_here"]) ["_law_own", "_law_slip_here"] (defScope (top 86)) := C8.fnScope_by (by decide +kernel)
theorem ok_fn__law_key (Z : Fx K mg) : DefOk P w K mg base 1 "_law_key" ["_law_own", "_law_slip_here"] fn__law_key := by
  obtain ⟨fd, F⟩ := Z.d_fn__law_key.fd
  have S := sc_fn__law_key
  have G : FnOk P w K mg base (L2.CX P w) 1 (He.ga K "_law_key") fd ["_law_own", "_law_slip_here"] (spOf K mg 2 fn__law_key) := fn_ok F S (by decide) fun cdv A outer s H E hr tk => by
    have hu := room65 hr
    have hu1 := room1 hr
    have hu64 := Room.units hr
    exact (ssv_one (sv_ret (pv_ifExp (tv_val (pv_ix hu1 (pv_var (i := 0) rfl (by first | exact .inl rfl | exact .inr (.inl rfl) | exact .inr (.inr rfl))) pv_str)) (pv_tup (av_cons (pv_ix hu1 (pv_var (i := 1) rfl (by first | exact .inl rfl | exact .inr (.inl rfl) | exact .inr (.inr rfl))) pv_int) (av_cons (pv_ix hu1 (pv_var (i := 1) rfl (by first | exact .inl rfl | exact .inr (.inl rfl) | exact .inr (.inr rfl))) pv_int) (av_cons (pv_ix hu1 (pv_var (i := 1) rfl (by first | exact .inl rfl | exact .inr (.inl rfl) | exact .inr (.inr rfl))) pv_int) (av_cons (pv_ix hu1 (pv_var (i := 1) rfl (by first | exact .inl rfl | exact .inr (.inl rfl) | exact .inr (.inr rfl))) pv_int) av_nil))))) (pv_tup (av_cons (pv_ix hu1 (pv_var (i := 1) rfl (by first | exact .inl rfl | exact .inr (.inl rfl) | exact .inr (.inr rfl))) pv_int) (av_cons (pv_ix hu1 (pv_var (i := 1) rfl (by first | exact .inl rfl | exact .inr (.inl rfl) | exact .inr (.inr rfl))) pv_int) (av_cons (pv_ix hu1 (pv_var (i := 1) rfl (by first | exact .inl rfl | exact .inr (.inl rfl) | exact .inr (.inr rfl))) pv_int) av_nil)))))))
  exact ⟨fd, G, F.bindsN fun _ _ _ _ _ _ us hl => match us, hl with | [_, _], _ => rfl, Z.d_fn__law_key.mg, F.kp⟩
theorem sc_fn_law : FnScope ((["_law_script", "_law_k", "_law_pool_here", "_law_land_here", "_law_own", "_law_made", "_law_rules_here", "_law_store", "_law_turn", "_law_left", "_law_right", "_law_kept", "_law_one_here", "_law_other"] : List PySem.Str) ++ (["_law_rounds", "_law_parts_here", "_law_allowed", "_law_known", "_law_keys", "_law_deed"] : List PySem.Str)) ["_law_script"] (defScope (top 88)) := C8.fnScope_by (by decide +kernel)
theorem ok_fn_law (Z : Fx K mg) : LawOk P w K mg base 9 ["_law_script"] fn_law (top 88) := by
  obtain ⟨fd, F⟩ := Z.d_fn_law.fd
  obtain ⟨fd_fn__law_pool, G_fn__law_pool, B_fn__law_pool, M_fn__law_pool, K_fn__law_pool⟩ := ok_fn__law_pool (P := P) (w := w) (base := base) Z
  obtain ⟨fd_fn__law_rules, G_fn__law_rules, B_fn__law_rules, M_fn__law_rules, K_fn__law_rules⟩ := ok_fn__law_rules (P := P) (w := w) (base := base) Z
  obtain ⟨fd_fn__law_land, G_fn__law_land, B_fn__law_land, M_fn__law_land, K_fn__law_land⟩ := ok_fn__law_land (P := P) (w := w) (base := base) Z
  obtain ⟨fd_fn__law_made_rules, G_fn__law_made_rules, B_fn__law_made_rules, M_fn__law_made_rules, K_fn__law_made_rules⟩ := ok_fn__law_made_rules (P := P) (w := w) (base := base) Z
  obtain ⟨fd_fn__law_made_land, G_fn__law_made_land, B_fn__law_made_land, M_fn__law_made_land, K_fn__law_made_land⟩ := ok_fn__law_made_land (P := P) (w := w) (base := base) Z
  obtain ⟨fd_fn_after_all, G_fn_after_all, B_fn_after_all, M_fn_after_all, K_fn_after_all⟩ := ok_fn_after_all (P := P) (w := w) (base := base) Z
  obtain ⟨fd_fn__law_take, G_fn__law_take, B_fn__law_take, M_fn__law_take, K_fn__law_take⟩ := ok_fn__law_take (P := P) (w := w) (base := base) Z
  obtain ⟨fd_fn__law_put, G_fn__law_put, B_fn__law_put, M_fn__law_put, K_fn__law_put⟩ := ok_fn__law_put (P := P) (w := w) (base := base) Z
  obtain ⟨fd_fn__law_one, G_fn__law_one, B_fn__law_one, M_fn__law_one, K_fn__law_one⟩ := ok_fn__law_one (P := P) (w := w) (base := base) Z
  obtain ⟨fd_fn__law_circle, G_fn__law_circle, B_fn__law_circle, M_fn__law_circle, K_fn__law_circle⟩ := ok_fn__law_circle (P := P) (w := w) (base := base) Z
  obtain ⟨fd_fn__law_parts, G_fn__law_parts, B_fn__law_parts, M_fn__law_parts, K_fn__law_parts⟩ := ok_fn__law_parts (P := P) (w := w) (base := base) Z
  obtain ⟨fd_fn_may_put, G_fn_may_put, B_fn_may_put, M_fn_may_put, K_fn_may_put⟩ := ok_fn_may_put (P := P) (w := w) (base := base) Z
  obtain ⟨fd_fn_met, G_fn_met, B_fn_met, M_fn_met, K_fn_met⟩ := ok_fn_met (P := P) (w := w) (base := base) Z
  obtain ⟨fd_fn__law_key, G_fn__law_key, B_fn__law_key, M_fn__law_key, K_fn__law_key⟩ := ok_fn__law_key (P := P) (w := w) (base := base) Z
  have S := sc_fn_law
  have G : FnOk P w K mg base (L2.CX P w) 9 (He.ga K "law") fd ["_law_script"] (spOf K mg 1 fn_law) := fn_ok F S (by decide) fun cdv A outer s H E hr tk => by
    have hu := room65 hr
    have hu1 := room1 hr
    have hu64 := Room.units hr
    exact (ssv_cons (sv_for (passes_of rfl) rfl (iv_range1 rfl Z.m_range (pv_callB (call_max2 rfl) bd_max rfl Z.m_max bt_max (av_cons pv_int (av_cons (pv_callB (call_min2 rfl) bd_min rfl Z.m_min bt_min (av_cons pv_int (av_cons (pv_callB call_lenA bd_len rfl Z.m_len bt_len (av_cons (pv_var (i := 0) rfl (by first | exact .inl rfl | exact .inr (.inl rfl) | exact .inr (.inr rfl))) av_nil)) av_nil))) av_nil)))) (gg_name S.nd (i := 1) rfl (by first | exact .inl rfl | exact .inr rfl)) (ssv_scope [2] (ssv_cons (sv_set S.nd (i := 2) rfl (by first | exact .inl rfl | exact .inr rfl) (pv_call G_fn__law_pool (hr.mono (by decide)) rfl M_fn__law_pool K_fn__law_pool B_fn__law_pool .nil DflW.nil tk (av_cons (pv_var (i := 0) rfl (by first | exact .inl rfl | exact .inr (.inl rfl) | exact .inr (.inr rfl))) (av_cons (pv_var (i := 1) rfl (by first | exact .inl rfl | exact .inr (.inl rfl) | exact .inr (.inr rfl))) av_nil))))
    (ssv_cons (sv_asgT rfl (av_cons (pv_call G_fn__law_land (hr.mono (by decide)) rfl M_fn__law_land K_fn__law_land B_fn__law_land .nil DflW.nil tk (av_cons (pv_var (i := 2) rfl (by first | exact .inl rfl | exact .inr (.inl rfl) | exact .inr (.inr rfl))) (av_cons pv_int av_nil))) (av_cons (pv_call G_fn__law_rules (hr.mono (by decide)) rfl M_fn__law_rules K_fn__law_rules B_fn__law_rules .nil DflW.nil tk (av_cons (pv_var (i := 2) rfl (by first | exact .inl rfl | exact .inr (.inl rfl) | exact .inr (.inr rfl))) (av_cons pv_int av_nil))) av_nil)) (gg_cons (gg_name S.nd (i := 3) rfl (by first | exact .inl rfl | exact .inr rfl)) (gg_cons (gg_name S.nd (i := 4) rfl (by first | exact .inl rfl | exact .inr rfl)) gg_nil)))
    (ssv_cons (sv_asgT rfl (av_cons (pv_call G_fn__law_made_land (hr.mono (by decide)) rfl M_fn__law_made_land K_fn__law_made_land B_fn__law_made_land .nil DflW.nil tk (av_cons (pv_var (i := 3) rfl (by first | exact .inl rfl | exact .inr (.inl rfl) | exact .inr (.inr rfl))) av_nil)) (av_cons (pv_call G_fn__law_made_rules (hr.mono (by decide)) rfl M_fn__law_made_rules K_fn__law_made_rules B_fn__law_made_rules .nil DflW.nil tk (av_cons (pv_var (i := 4) rfl (by first | exact .inl rfl | exact .inr (.inl rfl) | exact .inr (.inr rfl))) av_nil)) av_nil)) (gg_cons (gg_name S.nd (i := 5) rfl (by first | exact .inl rfl | exact .inr rfl)) (gg_cons (gg_name S.nd (i := 6) rfl (by first | exact .inl rfl | exact .inr rfl)) gg_nil)))
    (ssv_cons (sv_set S.nd (i := 7) rfl (by first | exact .inl rfl | exact .inr rfl) (pv_call G_fn_after_all (hr.mono (by decide)) rfl M_fn_after_all K_fn_after_all B_fn_after_all .nil DflW.nil tk (av_cons (pv_var (i := 5) rfl (by first | exact .inl rfl | exact .inr (.inl rfl) | exact .inr (.inr rfl))) (av_cons (pv_var (i := 6) rfl (by first | exact .inl rfl | exact .inr (.inl rfl) | exact .inr (.inr rfl))) (av_cons (pv_con Z.v_EMPTY rfl) (av_cons (pv_lc (own := [("_law_turn", 8)]) rfl S.nd (iv_range1 rfl Z.m_range (pv_call G_fn__law_take (hr.mono (by decide)) rfl M_fn__law_take K_fn__law_take B_fn__law_take .nil DflW.nil tk (av_cons (pv_var (i := 2) rfl (by first | exact .inl rfl | exact .inr (.inl rfl) | exact .inr (.inr rfl))) (av_cons pv_int av_nil)))) (blkOk_by (by kernel_rfl)) (fun _ _ _ _ _ => (gg_name S.nd (i := 8) rfl (by first | exact .inl rfl | exact .inr rfl))) (by decide) (fun _ _ _ _ _ => tsv_nil) (fun _ _ _ _ _ => (pv_call G_fn__law_put (hr.mono (by decide)) rfl M_fn__law_put K_fn__law_put B_fn__law_put .nil DflW.nil DL.takes0 (av_cons (pv_var (i := 2) rfl (by first | exact .inl rfl | exact .inr (.inl rfl) | exact .inr (.inr rfl))) (av_cons (pv_var (i := 3) rfl (by first | exact .inl rfl | exact .inr (.inl rfl) | exact .inr (.inr rfl))) av_nil))))) av_nil))))))
    (ssv_one (sv_for (passes_of rfl) rfl (iv_range1 rfl Z.m_range pv_int) (gg_name S.nd (i := 8) rfl (by first | exact .inl rfl | exact .inr rfl)) (ssv_cons (sv_par (i := 9) (j := 10) rfl S.nd rfl rfl (by decide) rfl rfl (av_cons (pv_call G_fn__law_put (hr.mono (by decide)) rfl M_fn__law_put K_fn__law_put B_fn__law_put .nil DflW.nil tk (av_cons (pv_var (i := 2) rfl (by first | exact .inl rfl | exact .inr (.inl rfl) | exact .inr (.inr rfl))) (av_cons (pv_var (i := 3) rfl (by first | exact .inl rfl | exact .inr (.inl rfl) | exact .inr (.inr rfl))) av_nil))) (av_cons (pv_call G_fn__law_put (hr.mono (by decide)) rfl M_fn__law_put K_fn__law_put B_fn__law_put .nil DflW.nil tk (av_cons (pv_var (i := 2) rfl (by first | exact .inl rfl | exact .inr (.inl rfl) | exact .inr (.inr rfl))) (av_cons (pv_var (i := 3) rfl (by first | exact .inl rfl | exact .inr (.inl rfl) | exact .inr (.inr rfl))) av_nil))) av_nil)) rfl)
    (ssv_cons (sv_if (tv_w (wv_and (tv_cmp (op_neD hu64) opd_ne (pv_ix hu1 (pv_var (i := 7) rfl (by first | exact .inl rfl | exact .inr (.inl rfl) | exact .inr (.inr rfl))) pv_int) (pv_tup av_nil) (by with_unfolding_all rfl)) (wv_and1 (tv_cmp (op_eqD hu64) opd_eq (pv_call G_fn__law_take (hr.mono (by decide)) rfl M_fn__law_take K_fn__law_take B_fn__law_take .nil DflW.nil tk (av_cons (pv_var (i := 2) rfl (by first | exact .inl rfl | exact .inr (.inl rfl) | exact .inr (.inr rfl))) (av_cons pv_int av_nil))) pv_int (by with_unfolding_all rfl))))) (ssv_cons (sv_set S.nd (i := 11) rfl (by first | exact .inl rfl | exact .inr rfl) (pv_call G_fn__law_one (hr.mono (by decide)) rfl M_fn__law_one K_fn__law_one B_fn__law_one .nil DflW.nil tk (av_cons (pv_var (i := 2) rfl (by first | exact .inl rfl | exact .inr (.inl rfl) | exact .inr (.inr rfl))) (av_cons (pv_ix hu1 (pv_var (i := 7) rfl (by first | exact .inl rfl | exact .inr (.inl rfl) | exact .inr (.inr rfl))) pv_int) av_nil))))
    (ssv_one (sv_set S.nd (i := 10) rfl (by first | exact .inl rfl | exact .inr rfl) (pv_tup (av_cons pv_str (av_cons (pv_ix hu1 (pv_var (i := 10) rfl (by first | exact .inl rfl | exact .inr (.inl rfl) | exact .inr (.inr rfl))) pv_int) (av_cons (pv_ix hu1 (pv_var (i := 10) rfl (by first | exact .inl rfl | exact .inr (.inl rfl) | exact .inr (.inr rfl))) pv_int) (av_cons (pv_op op_addA opd_add (pv_op op_addA opd_add (pv_slice (pv_var (i := 11) rfl (by first | exact .inl rfl | exact .inr (.inl rfl) | exact .inr (.inr rfl))) ov_none (ov_some pv_int)) (pv_tup (av_cons (pv_ix hu1 (pv_ix hu1 (pv_var (i := 10) rfl (by first | exact .inl rfl | exact .inr (.inl rfl) | exact .inr (.inr rfl))) pv_int) pv_int) av_nil))) (pv_slice (pv_var (i := 11) rfl (by first | exact .inl rfl | exact .inr (.inl rfl) | exact .inr (.inr rfl))) (ov_some pv_int) ov_none)) av_nil)))))))) ssv_nil)
    (ssv_cons (sv_set S.nd (i := 12) rfl (by first | exact .inl rfl | exact .inr rfl) (pv_call G_fn_after_all (hr.mono (by decide)) rfl M_fn_after_all K_fn_after_all B_fn_after_all .nil DflW.nil tk (av_cons (pv_var (i := 5) rfl (by first | exact .inl rfl | exact .inr (.inl rfl) | exact .inr (.inr rfl))) (av_cons (pv_var (i := 6) rfl (by first | exact .inl rfl | exact .inr (.inl rfl) | exact .inr (.inr rfl))) (av_cons (pv_var (i := 7) rfl (by first | exact .inl rfl | exact .inr (.inl rfl) | exact .inr (.inr rfl))) (av_cons (pv_lst (av_cons (pv_var (i := 9) rfl (by first | exact .inl rfl | exact .inr (.inl rfl) | exact .inr (.inr rfl))) (av_cons (pv_var (i := 10) rfl (by first | exact .inl rfl | exact .inr (.inl rfl) | exact .inr (.inr rfl))) av_nil))) av_nil))))))
    (ssv_cons (sv_set S.nd (i := 13) rfl (by first | exact .inl rfl | exact .inr rfl) (pv_call G_fn_after_all (hr.mono (by decide)) rfl M_fn_after_all K_fn_after_all B_fn_after_all .nil DflW.nil tk (av_cons (pv_var (i := 5) rfl (by first | exact .inl rfl | exact .inr (.inl rfl) | exact .inr (.inr rfl))) (av_cons (pv_var (i := 6) rfl (by first | exact .inl rfl | exact .inr (.inl rfl) | exact .inr (.inr rfl))) (av_cons (pv_var (i := 7) rfl (by first | exact .inl rfl | exact .inr (.inl rfl) | exact .inr (.inr rfl))) (av_cons (pv_lst (av_cons (pv_var (i := 10) rfl (by first | exact .inl rfl | exact .inr (.inl rfl) | exact .inr (.inr rfl))) (av_cons (pv_var (i := 9) rfl (by first | exact .inl rfl | exact .inr (.inl rfl) | exact .inr (.inr rfl))) av_nil))) av_nil))))))
    (ssv_cons (sv_set S.nd (i := 14) rfl (by first | exact .inl rfl | exact .inr rfl) (pv_lst (av_cons (pv_call G_fn__law_circle (hr.mono (by decide)) rfl M_fn__law_circle K_fn__law_circle B_fn__law_circle .nil DflW.nil tk (av_cons (pv_var (i := 3) rfl (by first | exact .inl rfl | exact .inr (.inl rfl) | exact .inr (.inr rfl))) (av_cons (pv_ix hu1 (pv_ix hu1 (pv_var (i := 9) rfl (by first | exact .inl rfl | exact .inr (.inl rfl) | exact .inr (.inr rfl))) pv_int) pv_int) av_nil))) (av_cons (pv_call G_fn__law_circle (hr.mono (by decide)) rfl M_fn__law_circle K_fn__law_circle B_fn__law_circle .nil DflW.nil tk (av_cons (pv_var (i := 3) rfl (by first | exact .inl rfl | exact .inr (.inl rfl) | exact .inr (.inr rfl))) (av_cons (pv_ix hu1 (pv_ix hu1 (pv_var (i := 10) rfl (by first | exact .inl rfl | exact .inr (.inl rfl) | exact .inr (.inr rfl))) pv_int) pv_int) av_nil))) av_nil))))
    (ssv_cons (sv_set S.nd (i := 15) rfl (by first | exact .inl rfl | exact .inr rfl) (pv_lst (av_cons (pv_call G_fn__law_parts (hr.mono (by decide)) rfl M_fn__law_parts K_fn__law_parts B_fn__law_parts .nil DflW.nil tk (av_cons (pv_var (i := 3) rfl (by first | exact .inl rfl | exact .inr (.inl rfl) | exact .inr (.inr rfl))) (av_cons (pv_var (i := 12) rfl (by first | exact .inl rfl | exact .inr (.inl rfl) | exact .inr (.inr rfl))) (av_cons (pv_var (i := 14) rfl (by first | exact .inl rfl | exact .inr (.inl rfl) | exact .inr (.inr rfl))) av_nil)))) (av_cons (pv_call G_fn__law_parts (hr.mono (by decide)) rfl M_fn__law_parts K_fn__law_parts B_fn__law_parts .nil DflW.nil tk (av_cons (pv_var (i := 3) rfl (by first | exact .inl rfl | exact .inr (.inl rfl) | exact .inr (.inr rfl))) (av_cons (pv_var (i := 13) rfl (by first | exact .inl rfl | exact .inr (.inl rfl) | exact .inr (.inr rfl))) (av_cons (pv_var (i := 14) rfl (by first | exact .inl rfl | exact .inr (.inl rfl) | exact .inr (.inr rfl))) av_nil)))) av_nil))))
    (ssv_cons (sv_if (tv_w (wv_and (tv_cmp (op_neD hu64) opd_ne (pv_ix hu1 (pv_var (i := 14) rfl (by first | exact .inl rfl | exact .inr (.inl rfl) | exact .inr (.inr rfl))) pv_int) (pv_ix hu1 (pv_var (i := 14) rfl (by first | exact .inl rfl | exact .inr (.inl rfl) | exact .inr (.inr rfl))) pv_int) (by with_unfolding_all rfl)) (wv_and1 (tv_cmp (op_neD hu64) opd_ne (pv_ix hu1 (pv_var (i := 15) rfl (by first | exact .inl rfl | exact .inr (.inl rfl) | exact .inr (.inr rfl))) pv_int) (pv_ix hu1 (pv_var (i := 15) rfl (by first | exact .inl rfl | exact .inr (.inl rfl) | exact .inr (.inr rfl))) pv_int) (by with_unfolding_all rfl))))) (ssv_one (sv_ret pv_bl)) ssv_nil)
    (ssv_cons (sv_lc (own := [("_law_deed", 19)]) (i := 16) rfl S.nd rfl rfl rfl (iv_any (pv_lst (av_cons (pv_var (i := 9) rfl (by first | exact .inl rfl | exact .inr (.inl rfl) | exact .inr (.inr rfl))) (av_cons (pv_var (i := 10) rfl (by first | exact .inl rfl | exact .inr (.inl rfl) | exact .inr (.inr rfl))) av_nil)))) (blkOk_by (by kernel_rfl)) (fun _ _ _ _ _ => (gg_name S.nd (i := 19) rfl (by first | exact .inl rfl | exact .inr rfl))) (by decide) (fun _ _ _ _ _ => tsv_nil) (fun _ _ _ _ _ => (pv_call G_fn_may_put (hr.mono (by decide)) rfl M_fn_may_put K_fn_may_put B_fn_may_put .nil DflW.nil DL.takes0 (av_cons (pv_var (i := 5) rfl (by first | exact .inl rfl | exact .inr (.inl rfl) | exact .inr (.inr rfl))) (av_cons (pv_var (i := 6) rfl (by first | exact .inl rfl | exact .inr (.inl rfl) | exact .inr (.inr rfl))) (av_cons (pv_ix hu1 (pv_var (i := 19) rfl (by first | exact .inl rfl | exact .inr (.inl rfl) | exact .inr (.inr rfl))) pv_int) (av_cons (pv_ix hu1 (pv_var (i := 19) rfl (by first | exact .inl rfl | exact .inr (.inl rfl) | exact .inr (.inr rfl))) pv_int) (av_cons (pv_ix hu1 (pv_var (i := 19) rfl (by first | exact .inl rfl | exact .inr (.inl rfl) | exact .inr (.inr rfl))) pv_int) av_nil))))))))
    (ssv_cons (sv_if (tv_w (wv_and (tv_cmp (op_inA hu) opd_in pv_bl (pv_var (i := 16) rfl (by first | exact .inl rfl | exact .inr (.inl rfl) | exact .inr (.inr rfl))) (by with_unfolding_all rfl)) (wv_and1 (tv_cmp (op_neD hu64) opd_ne (pv_var (i := 12) rfl (by first | exact .inl rfl | exact .inr (.inl rfl) | exact .inr (.inr rfl))) (pv_var (i := 13) rfl (by first | exact .inl rfl | exact .inr (.inl rfl) | exact .inr (.inr rfl))) (by with_unfolding_all rfl))))) (ssv_one (sv_ret pv_bl)) ssv_nil)
    (ssv_cons (sv_lc (own := [("_law_deed", 19)]) (i := 17) rfl S.nd rfl rfl rfl (iv_any (pv_lst (av_cons (pv_var (i := 9) rfl (by first | exact .inl rfl | exact .inr (.inl rfl) | exact .inr (.inr rfl))) (av_cons (pv_var (i := 10) rfl (by first | exact .inl rfl | exact .inr (.inl rfl) | exact .inr (.inr rfl))) av_nil)))) (blkOk_by (by kernel_rfl)) (fun _ _ _ _ _ => (gg_name S.nd (i := 19) rfl (by first | exact .inl rfl | exact .inr rfl))) (by decide) (fun _ _ _ _ _ => tsv_nil) (fun _ _ _ _ _ => (pv_call G_fn_met (hr.mono (by decide)) rfl M_fn_met K_fn_met B_fn_met .nil DflW.nil DL.takes0 (av_cons (pv_var (i := 5) rfl (by first | exact .inl rfl | exact .inr (.inl rfl) | exact .inr (.inr rfl))) (av_cons (pv_var (i := 6) rfl (by first | exact .inl rfl | exact .inr (.inl rfl) | exact .inr (.inr rfl))) (av_cons (pv_var (i := 7) rfl (by first | exact .inl rfl | exact .inr (.inl rfl) | exact .inr (.inr rfl))) (av_cons (pv_ix hu1 (pv_var (i := 19) rfl (by first | exact .inl rfl | exact .inr (.inl rfl) | exact .inr (.inr rfl))) pv_int) av_nil)))))))
    (ssv_cons (sv_lc (own := [("_law_deed", 19)]) (i := 18) rfl S.nd rfl rfl rfl (iv_any (pv_lst (av_cons (pv_var (i := 9) rfl (by first | exact .inl rfl | exact .inr (.inl rfl) | exact .inr (.inr rfl))) (av_cons (pv_var (i := 10) rfl (by first | exact .inl rfl | exact .inr (.inl rfl) | exact .inr (.inr rfl))) av_nil)))) (blkOk_by (by kernel_rfl)) (fun _ _ _ _ _ => (gg_name S.nd (i := 19) rfl (by first | exact .inl rfl | exact .inr rfl))) (by decide) (fun _ _ _ _ _ => tsv_nil) (fun _ _ _ _ _ => (pv_call G_fn__law_key (hr.mono (by decide)) rfl M_fn__law_key K_fn__law_key B_fn__law_key .nil DflW.nil DL.takes0 (av_cons (pv_var (i := 4) rfl (by first | exact .inl rfl | exact .inr (.inl rfl) | exact .inr (.inr rfl))) (av_cons (pv_ix hu1 (pv_var (i := 19) rfl (by first | exact .inl rfl | exact .inr (.inl rfl) | exact .inr (.inr rfl))) pv_int) av_nil)))))
    (ssv_one (sv_if (tv_w (wv_and (tv_cmp (op_notInA hu) opd_notIn pv_non (pv_var (i := 17) rfl (by first | exact .inl rfl | exact .inr (.inl rfl) | exact .inr (.inr rfl))) (by with_unfolding_all rfl)) (wv_and (tv_cmp (op_neD hu64) opd_ne (pv_ix hu1 (pv_var (i := 18) rfl (by first | exact .inl rfl | exact .inr (.inl rfl) | exact .inr (.inr rfl))) pv_int) (pv_ix hu1 (pv_var (i := 18) rfl (by first | exact .inl rfl | exact .inr (.inl rfl) | exact .inr (.inr rfl))) pv_int) (by with_unfolding_all rfl)) (wv_and (tv_not (tv_val (pv_ix hu1 (pv_var (i := 4) rfl (by first | exact .inl rfl | exact .inr (.inl rfl) | exact .inr (.inr rfl))) pv_str))) (wv_and1 (tv_cmp (op_neD hu64) opd_ne (pv_var (i := 12) rfl (by first | exact .inl rfl | exact .inr (.inl rfl) | exact .inr (.inr rfl))) (pv_var (i := 13) rfl (by first | exact .inl rfl | exact .inr (.inl rfl) | exact .inr (.inr rfl))) (by with_unfolding_all rfl))))))) (ssv_one (sv_ret pv_bl)) ssv_nil)))))))))))))))))))))
    (ssv_one (sv_ret pv_bl)))
  exact ⟨fd, F, G, Z.d_fn_law.mg⟩
end
end Lw
set_option Elab.async false
set_option linter.all false
set_option maxRecDepth 100000
set_option maxHeartbeats 0
namespace Lw
open PySem PySem.Spec PyProof.Rows L2 DL

abbrev parts : List HX.Part := [p0, p1, p2, p3]
theorem ba {p q : Bool} (both : (p && q) = true) : p = true ∧ q = true := Bool.and_eq_true_iff.mp both
theorem fx {K : PySem.W.Frag} {h : Heap} {mg : Str → Option Value} (X : K.In h) (G : h.Ns mainGlobals mg) (c : HX.Says parts K) : Fx K mg := by
  obtain ⟨c0, _, _⟩ := c.part 0 (p := p0) rfl
  obtain ⟨c1, hex, z⟩ := c.part 1 (p := p1) rfl
  obtain ⟨c2, _, _⟩ := c.part 2 (p := p2) rfl
  obtain ⟨c3, _, _⟩ := c.part 3 (p := p3) rfl
  have e0 : ex K = true := hex
  obtain ⟨x0, e1⟩ := ba e0
  obtain ⟨x1, e2⟩ := ba e1
  obtain ⟨x2, e3⟩ := ba e2
  obtain ⟨x3, e4⟩ := ba e3
  obtain ⟨x4, e5⟩ := ba e4
  obtain ⟨x5, e6⟩ := ba e5
  obtain ⟨x6, e7⟩ := ba e6
  obtain ⟨x7, e8⟩ := ba e7
  obtain ⟨x8, e9⟩ := ba e8
  obtain ⟨x9, e10⟩ := ba e9
  obtain ⟨x10, e11⟩ := ba e10
  obtain ⟨x11, e12⟩ := ba e11
  obtain ⟨x12, e13⟩ := ba e12
  obtain ⟨x13, e14⟩ := ba e13
  obtain ⟨x14, e15⟩ := ba e14
  obtain ⟨f_fn__law_pool, F_fn__law_pool⟩ := c2.def_ 0 (d := d_fn__law_pool) rfl
  obtain ⟨f_fn__law_take, F_fn__law_take⟩ := c2.def_ 1 (d := d_fn__law_take) rfl
  obtain ⟨f_fn__law_turned, F_fn__law_turned⟩ := c2.def_ 2 (d := d_fn__law_turned) rfl
  obtain ⟨f_fn__law_one, F_fn__law_one⟩ := c2.def_ 3 (d := d_fn__law_one) rfl
  obtain ⟨f_fn__law_rules, F_fn__law_rules⟩ := c2.def_ 4 (d := d_fn__law_rules) rfl
  obtain ⟨f_fn__law_words, F_fn__law_words⟩ := c2.def_ 5 (d := d_fn__law_words) rfl
  obtain ⟨f_fn__law_land, F_fn__law_land⟩ := c2.def_ 6 (d := d_fn__law_land) rfl
  obtain ⟨f_fn_is_whole, F_fn_is_whole⟩ := c2.def_ 7 (d := d_fn_is_whole) rfl
  obtain ⟨f_fn_is_number, F_fn_is_number⟩ := c2.def_ 8 (d := d_fn_is_number) rfl
  obtain ⟨f_fn_is_one_of, F_fn_is_one_of⟩ := c2.def_ 9 (d := d_fn_is_one_of) rfl
  obtain ⟨f_fn_is_row, F_fn_is_row⟩ := c2.def_ 10 (d := d_fn_is_row) rfl
  obtain ⟨f_fn_is_word, F_fn_is_word⟩ := c2.def_ 11 (d := d_fn_is_word) rfl
  obtain ⟨f_fn_are_of, F_fn_are_of⟩ := c2.def_ 12 (d := d_fn_are_of) rfl
  obtain ⟨f_fn_is_name_rule, F_fn_is_name_rule⟩ := c2.def_ 13 (d := d_fn_is_name_rule) rfl
  obtain ⟨f_fn_are_names, F_fn_are_names⟩ := c2.def_ 14 (d := d_fn_are_names) rfl
  obtain ⟨f_fn_look_at_parts, F_fn_look_at_parts⟩ := c2.def_ 15 (d := d_fn_look_at_parts) rfl
  obtain ⟨f_fn_Rules_init, F_fn_Rules_init⟩ := c2.def_ 16 (d := d_fn_Rules_init) rfl
  obtain ⟨f_fn__law_made_rules, F_fn__law_made_rules⟩ := c2.def_ 17 (d := d_fn__law_made_rules) rfl
  obtain ⟨f_fn_are_words, F_fn_are_words⟩ := c2.def_ 18 (d := d_fn_are_words) rfl
  obtain ⟨f_fn_is_host, F_fn_is_host⟩ := c2.def_ 19 (d := d_fn_is_host) rfl
  obtain ⟨f_fn_are_hosts, F_fn_are_hosts⟩ := c2.def_ 20 (d := d_fn_are_hosts) rfl
  obtain ⟨f_fn_Land_init, F_fn_Land_init⟩ := c2.def_ 21 (d := d_fn_Land_init) rfl
  obtain ⟨f_fn__law_made_land, F_fn__law_made_land⟩ := c2.def_ 22 (d := d_fn__law_made_land) rfl
  obtain ⟨f_fn_is_path, F_fn_is_path⟩ := c2.def_ 23 (d := d_fn_is_path) rfl
  obtain ⟨f_fn_is_end, F_fn_is_end⟩ := c2.def_ 24 (d := d_fn_is_end) rfl
  obtain ⟨f_fn_is_slip, F_fn_is_slip⟩ := c2.def_ 25 (d := d_fn_is_slip) rfl
  obtain ⟨f_fn_over_on, F_fn_over_on⟩ := c2.def_ 26 (d := d_fn_over_on) rfl
  obtain ⟨f_fn_Rules_plain_key, F_fn_Rules_plain_key⟩ := c2.def_ 27 (d := d_fn_Rules_plain_key) rfl
  obtain ⟨f_fn_starts_of, F_fn_starts_of⟩ := c2.def_ 28 (d := d_fn_starts_of) rfl
  obtain ⟨f_fn_Land_round_of, F_fn_Land_round_of⟩ := c2.def_ 29 (d := d_fn_Land_round_of) rfl
  obtain ⟨f_fn_are_kept, F_fn_are_kept⟩ := c3.def_ 0 (d := d_fn_are_kept) rfl
  obtain ⟨f_fn_is_store, F_fn_is_store⟩ := c3.def_ 1 (d := d_fn_is_store) rfl
  obtain ⟨f_fn_look_at_store, F_fn_look_at_store⟩ := c3.def_ 2 (d := d_fn_look_at_store) rfl
  obtain ⟨f_fn_is_put, F_fn_is_put⟩ := c3.def_ 3 (d := d_fn_is_put) rfl
  obtain ⟨f_fn_is_deed, F_fn_is_deed⟩ := c3.def_ 4 (d := d_fn_is_deed) rfl
  obtain ⟨f_fn_look_at_deeds, F_fn_look_at_deeds⟩ := c3.def_ 5 (d := d_fn_look_at_deeds) rfl
  obtain ⟨f_fn_begins, F_fn_begins⟩ := c3.def_ 6 (d := d_fn_begins) rfl
  obtain ⟨f_fn_has_right, F_fn_has_right⟩ := c3.def_ 7 (d := d_fn_has_right) rfl
  obtain ⟨f_fn_Rules_asked_of, F_fn_Rules_asked_of⟩ := c3.def_ 8 (d := d_fn_Rules_asked_of) rfl
  obtain ⟨f_fn_meets_names, F_fn_meets_names⟩ := c3.def_ 9 (d := d_fn_meets_names) rfl
  obtain ⟨f_fn_is_allowed, F_fn_is_allowed⟩ := c3.def_ 10 (d := d_fn_is_allowed) rfl
  obtain ⟨f_fn_found_at, F_fn_found_at⟩ := c3.def_ 11 (d := d_fn_found_at) rfl
  obtain ⟨f_fn_exchanged, F_fn_exchanged⟩ := c3.def_ 12 (d := d_fn_exchanged) rfl
  obtain ⟨f_fn_drop_spot, F_fn_drop_spot⟩ := c3.def_ 13 (d := d_fn_drop_spot) rfl
  obtain ⟨f_fn_with_new, F_fn_with_new⟩ := c3.def_ 14 (d := d_fn_with_new) rfl
  obtain ⟨f_fn_put_in, F_fn_put_in⟩ := c3.def_ 15 (d := d_fn_put_in) rfl
  obtain ⟨f_fn_behind, F_fn_behind⟩ := c3.def_ 16 (d := d_fn_behind) rfl
  obtain ⟨f_fn_after_all, F_fn_after_all⟩ := c3.def_ 17 (d := d_fn_after_all) rfl
  obtain ⟨f_fn__law_marks, F_fn__law_marks⟩ := c3.def_ 18 (d := d_fn__law_marks) rfl
  obtain ⟨f_fn__law_end, F_fn__law_end⟩ := c3.def_ 19 (d := d_fn__law_end) rfl
  obtain ⟨f_fn__law_path, F_fn__law_path⟩ := c3.def_ 20 (d := d_fn__law_path) rfl
  obtain ⟨f_fn__law_host, F_fn__law_host⟩ := c3.def_ 21 (d := d_fn__law_host) rfl
  obtain ⟨f_fn__law_slip, F_fn__law_slip⟩ := c3.def_ 22 (d := d_fn__law_slip) rfl
  obtain ⟨f_fn__law_put, F_fn__law_put⟩ := c3.def_ 23 (d := d_fn__law_put) rfl
  obtain ⟨f_fn__law_circle, F_fn__law_circle⟩ := c3.def_ 24 (d := d_fn__law_circle) rfl
  obtain ⟨f_fn__law_parts, F_fn__law_parts⟩ := c3.def_ 25 (d := d_fn__law_parts) rfl
  obtain ⟨f_fn_may_put, F_fn_may_put⟩ := c3.def_ 26 (d := d_fn_may_put) rfl
  obtain ⟨f_fn_met, F_fn_met⟩ := c3.def_ 27 (d := d_fn_met) rfl
  obtain ⟨f_fn__law_key, F_fn__law_key⟩ := c3.def_ 28 (d := d_fn__law_key) rfl
  obtain ⟨f_fn_law, F_fn_law⟩ := c3.def_ 29 (d := d_fn_law) rfl
  exact {
    m_range := He.free_ok X G (c0.fact 0 (f := .free "range") rfl)
    m_max := He.free_ok X G (c0.fact 1 (f := .free "max") rfl)
    m_min := He.free_ok X G (c0.fact 2 (f := .free "min") rfl)
    m_len := He.free_ok X G (c0.fact 3 (f := .free "len") rfl)
    m_int := He.free_ok X G (c0.fact 4 (f := .free "int") rfl)
    m_tuple := He.free_ok X G (c0.fact 5 (f := .free "tuple") rfl)
    m_sorted := He.free_ok X G (c0.fact 6 (f := .free "sorted") rfl)
    m_list := He.free_ok X G (c0.fact 7 (f := .free "list") rfl)
    m_isinstance := He.free_ok X G (c0.fact 8 (f := .free "isinstance") rfl)
    m_bool := He.free_ok X G (c0.fact 9 (f := .free "bool") rfl)
    m_str := He.free_ok X G (c0.fact 10 (f := .free "str") rfl)
    m_all := He.free_ok X G (c0.fact 11 (f := .free "all") rfl)
    m_dict := He.free_ok X G (c0.fact 12 (f := .free "dict") rfl)
    m_zip := He.free_ok X G (c0.fact 13 (f := .free "zip") rfl)
    m_enumerate := He.free_ok X G (c0.fact 14 (f := .free "enumerate") rfl)
    v_MOST_KEPT := con_ok X G x0
    v_PARTS := con_ok X G x1
    v_DROPS := con_ok X G x2
    v_FIRSTS := con_ok X G x3
    v_MOST_NAMES := con_ok X G x4
    v_MOST_LETTERS := con_ok X G x5
    v_LETTERS := con_ok X G x6
    v_CONDITIONS := con_ok X G x7
    v_MOST_WORDS := con_ok X G x8
    v_MOST_HOUSES := con_ok X G x9
    v_MOST_COMMON := con_ok X G x10
    v_LAST_DAY := con_ok X G x11
    v_MOST_PATH := con_ok X G x12
    v_MARKS := con_ok X G x13
    v_EMPTY := con_ok X G x14
    d_fn__law_pool := ⟨⟨f_fn__law_pool, F_fn__law_pool⟩, HX.glo_of X G z F_fn__law_pool⟩
    d_fn__law_take := ⟨⟨f_fn__law_take, F_fn__law_take⟩, HX.glo_of X G z F_fn__law_take⟩
    d_fn__law_turned := ⟨⟨f_fn__law_turned, F_fn__law_turned⟩, HX.glo_of X G z F_fn__law_turned⟩
    d_fn__law_one := ⟨⟨f_fn__law_one, F_fn__law_one⟩, HX.glo_of X G z F_fn__law_one⟩
    d_fn__law_rules := ⟨⟨f_fn__law_rules, F_fn__law_rules⟩, HX.glo_of X G z F_fn__law_rules⟩
    d_fn__law_words := ⟨⟨f_fn__law_words, F_fn__law_words⟩, HX.glo_of X G z F_fn__law_words⟩
    d_fn__law_land := ⟨⟨f_fn__law_land, F_fn__law_land⟩, HX.glo_of X G z F_fn__law_land⟩
    d_fn_is_whole := ⟨⟨f_fn_is_whole, F_fn_is_whole⟩, HX.glo_of X G z F_fn_is_whole⟩
    d_fn_is_number := ⟨⟨f_fn_is_number, F_fn_is_number⟩, HX.glo_of X G z F_fn_is_number⟩
    d_fn_is_one_of := ⟨⟨f_fn_is_one_of, F_fn_is_one_of⟩, HX.glo_of X G z F_fn_is_one_of⟩
    d_fn_is_row := ⟨⟨f_fn_is_row, F_fn_is_row⟩, HX.glo_of X G z F_fn_is_row⟩
    d_fn_is_word := ⟨⟨f_fn_is_word, F_fn_is_word⟩, HX.glo_of X G z F_fn_is_word⟩
    d_fn_are_of := ⟨⟨f_fn_are_of, F_fn_are_of⟩, HX.glo_of X G z F_fn_are_of⟩
    d_fn_is_name_rule := ⟨⟨f_fn_is_name_rule, F_fn_is_name_rule⟩, HX.glo_of X G z F_fn_is_name_rule⟩
    d_fn_are_names := ⟨⟨f_fn_are_names, F_fn_are_names⟩, HX.glo_of X G z F_fn_are_names⟩
    d_fn_look_at_parts := ⟨⟨f_fn_look_at_parts, F_fn_look_at_parts⟩, HX.glo_of X G z F_fn_look_at_parts⟩
    d_fn_Rules_init := ⟨⟨f_fn_Rules_init, F_fn_Rules_init⟩, He.meth_ok (c1.fact 11 (f := .meth "Rules" "__init__") rfl)⟩
    d_fn__law_made_rules := ⟨⟨f_fn__law_made_rules, F_fn__law_made_rules⟩, HX.glo_of X G z F_fn__law_made_rules⟩
    d_fn_are_words := ⟨⟨f_fn_are_words, F_fn_are_words⟩, HX.glo_of X G z F_fn_are_words⟩
    d_fn_is_host := ⟨⟨f_fn_is_host, F_fn_is_host⟩, HX.glo_of X G z F_fn_is_host⟩
    d_fn_are_hosts := ⟨⟨f_fn_are_hosts, F_fn_are_hosts⟩, HX.glo_of X G z F_fn_are_hosts⟩
    d_fn_Land_init := ⟨⟨f_fn_Land_init, F_fn_Land_init⟩, He.meth_ok (c1.fact 12 (f := .meth "Land" "__init__") rfl)⟩
    d_fn__law_made_land := ⟨⟨f_fn__law_made_land, F_fn__law_made_land⟩, HX.glo_of X G z F_fn__law_made_land⟩
    d_fn_is_path := ⟨⟨f_fn_is_path, F_fn_is_path⟩, HX.glo_of X G z F_fn_is_path⟩
    d_fn_is_end := ⟨⟨f_fn_is_end, F_fn_is_end⟩, HX.glo_of X G z F_fn_is_end⟩
    d_fn_is_slip := ⟨⟨f_fn_is_slip, F_fn_is_slip⟩, HX.glo_of X G z F_fn_is_slip⟩
    d_fn_over_on := ⟨⟨f_fn_over_on, F_fn_over_on⟩, HX.glo_of X G z F_fn_over_on⟩
    d_fn_Rules_plain_key := ⟨⟨f_fn_Rules_plain_key, F_fn_Rules_plain_key⟩, He.meth_ok (c1.fact 13 (f := .meth "Rules" "plain_key") rfl)⟩
    d_fn_starts_of := ⟨⟨f_fn_starts_of, F_fn_starts_of⟩, HX.glo_of X G z F_fn_starts_of⟩
    d_fn_Land_round_of := ⟨⟨f_fn_Land_round_of, F_fn_Land_round_of⟩, He.meth_ok (c1.fact 14 (f := .meth "Land" "round_of") rfl)⟩
    d_fn_are_kept := ⟨⟨f_fn_are_kept, F_fn_are_kept⟩, HX.glo_of X G z F_fn_are_kept⟩
    d_fn_is_store := ⟨⟨f_fn_is_store, F_fn_is_store⟩, HX.glo_of X G z F_fn_is_store⟩
    d_fn_look_at_store := ⟨⟨f_fn_look_at_store, F_fn_look_at_store⟩, HX.glo_of X G z F_fn_look_at_store⟩
    d_fn_is_put := ⟨⟨f_fn_is_put, F_fn_is_put⟩, HX.glo_of X G z F_fn_is_put⟩
    d_fn_is_deed := ⟨⟨f_fn_is_deed, F_fn_is_deed⟩, HX.glo_of X G z F_fn_is_deed⟩
    d_fn_look_at_deeds := ⟨⟨f_fn_look_at_deeds, F_fn_look_at_deeds⟩, HX.glo_of X G z F_fn_look_at_deeds⟩
    d_fn_begins := ⟨⟨f_fn_begins, F_fn_begins⟩, HX.glo_of X G z F_fn_begins⟩
    d_fn_has_right := ⟨⟨f_fn_has_right, F_fn_has_right⟩, HX.glo_of X G z F_fn_has_right⟩
    d_fn_Rules_asked_of := ⟨⟨f_fn_Rules_asked_of, F_fn_Rules_asked_of⟩, He.meth_ok (c1.fact 15 (f := .meth "Rules" "asked_of") rfl)⟩
    d_fn_meets_names := ⟨⟨f_fn_meets_names, F_fn_meets_names⟩, HX.glo_of X G z F_fn_meets_names⟩
    d_fn_is_allowed := ⟨⟨f_fn_is_allowed, F_fn_is_allowed⟩, HX.glo_of X G z F_fn_is_allowed⟩
    d_fn_found_at := ⟨⟨f_fn_found_at, F_fn_found_at⟩, HX.glo_of X G z F_fn_found_at⟩
    d_fn_exchanged := ⟨⟨f_fn_exchanged, F_fn_exchanged⟩, HX.glo_of X G z F_fn_exchanged⟩
    d_fn_drop_spot := ⟨⟨f_fn_drop_spot, F_fn_drop_spot⟩, HX.glo_of X G z F_fn_drop_spot⟩
    d_fn_with_new := ⟨⟨f_fn_with_new, F_fn_with_new⟩, HX.glo_of X G z F_fn_with_new⟩
    d_fn_put_in := ⟨⟨f_fn_put_in, F_fn_put_in⟩, HX.glo_of X G z F_fn_put_in⟩
    d_fn_behind := ⟨⟨f_fn_behind, F_fn_behind⟩, HX.glo_of X G z F_fn_behind⟩
    d_fn_after_all := ⟨⟨f_fn_after_all, F_fn_after_all⟩, HX.glo_of X G z F_fn_after_all⟩
    d_fn__law_marks := ⟨⟨f_fn__law_marks, F_fn__law_marks⟩, HX.glo_of X G z F_fn__law_marks⟩
    d_fn__law_end := ⟨⟨f_fn__law_end, F_fn__law_end⟩, HX.glo_of X G z F_fn__law_end⟩
    d_fn__law_path := ⟨⟨f_fn__law_path, F_fn__law_path⟩, HX.glo_of X G z F_fn__law_path⟩
    d_fn__law_host := ⟨⟨f_fn__law_host, F_fn__law_host⟩, HX.glo_of X G z F_fn__law_host⟩
    d_fn__law_slip := ⟨⟨f_fn__law_slip, F_fn__law_slip⟩, HX.glo_of X G z F_fn__law_slip⟩
    d_fn__law_put := ⟨⟨f_fn__law_put, F_fn__law_put⟩, HX.glo_of X G z F_fn__law_put⟩
    d_fn__law_circle := ⟨⟨f_fn__law_circle, F_fn__law_circle⟩, HX.glo_of X G z F_fn__law_circle⟩
    d_fn__law_parts := ⟨⟨f_fn__law_parts, F_fn__law_parts⟩, HX.glo_of X G z F_fn__law_parts⟩
    d_fn_may_put := ⟨⟨f_fn_may_put, F_fn_may_put⟩, HX.glo_of X G z F_fn_may_put⟩
    d_fn_met := ⟨⟨f_fn_met, F_fn_met⟩, HX.glo_of X G z F_fn_met⟩
    d_fn__law_key := ⟨⟨f_fn__law_key, F_fn__law_key⟩, HX.glo_of X G z F_fn__law_key⟩
    d_fn_law := ⟨⟨f_fn_law, F_fn_law⟩, HX.glo_of X G z F_fn_law⟩
    k_Rules := ⟨He.glo_ok X G (c0.fact 15 (f := .glo "Rules") rfl), He.cls_ok (c0.fact 16 (f := .cls "Rules") rfl)⟩
    mk_Rules := He.mkr_ok (c0.fact 17 (f := .mkr "Rules") rfl)
    k_Land := ⟨He.glo_ok X G (c0.fact 18 (f := .glo "Land") rfl), He.cls_ok (c0.fact 19 (f := .cls "Land") rfl)⟩
    mk_Land := He.mkr_ok (c1.fact 0 (f := .mkr "Land") rfl)
    n_Rules_most := He.noat_ok (c1.fact 1 (f := .noat "Rules" "most") rfl)
    n_Rules_wide_key := He.noat_ok (c1.fact 2 (f := .noat "Rules" "wide_key") rfl)
    n_Rules_renewed := He.noat_ok (c1.fact 3 (f := .noat "Rules" "renewed") rfl)
    n_Rules_guarded := He.noat_ok (c1.fact 4 (f := .noat "Rules" "guarded") rfl)
    n_Rules_drop := He.noat_ok (c1.fact 5 (f := .noat "Rules" "drop") rfl)
    n_Rules_first := He.noat_ok (c1.fact 6 (f := .noat "Rules" "first") rfl)
    n_Rules_names := He.noat_ok (c1.fact 7 (f := .noat "Rules" "names") rfl)
    n_Rules_record := He.noat_ok (c1.fact 8 (f := .noat "Rules" "record") rfl)
    n_Land_own_houses := He.noat_ok (c1.fact 9 (f := .noat "Land" "own_houses") rfl)
    n_Land_own_common := He.noat_ok (c1.fact 10 (f := .noat "Land" "own_common") rfl) }
end Lw
set_option Elab.async false
set_option linter.all false
set_option maxRecDepth 100000
set_option maxHeartbeats 0
namespace Lw
open PySem PySem.W PySem.Calls PyProof.Rows DL
theorem facts_law {P : Program} {w : World} {K : PySem.W.Frag} {h : Heap} {mg : (PySem.Str → Option Value)} {f : Addr} (X : K.In h) (G : h.Ns mainGlobals mg) (at_law : mg ("law" : PySem.Str) = some (.ref f)) (c : HX.Says parts K) :
    ∃ fd : FuncData, (∀ (s : Shared) (v : Value), BindsTo s fd ⟨[v], []⟩ [("_law_script", v)]) ∧ ∀ base : Heap, K.In base → base.Ns mainGlobals mg → L2.FnOk P w K mg base XN 9 f fd ["_law_script"] (fun vs H Q _ => spOf K mg 1 fn_law vs H Q fun _ _ _ => False) := by
  have Z := fx X G c
  obtain ⟨fd, F⟩ := Z.d_fn_law.fd
  have b := L2.FunD.bindsA (ps := ["_law_script"]) F fun _ _ _ _ _ _ us hl => match us, hl with | [_], _ => rfl
  refine ⟨fd, fun s v => b s [v] rfl, ?_⟩
  intro base _ _
  obtain ⟨fd', F', ok, at_law'⟩ := ok_fn_law (P := P) (w := w) (base := base) Z
  have e := at_law.symm.trans at_law'
  cases e
  cases fd_same F F'
  exact fn_noX ok
theorem join (plain : ∀ ns : List Int, ns.length ≤ 63 → ∃ cc, fn_law [.d (.scr (ns.map .int))] [] = .ok (.d (.bl true)) cc) : PySem.Challenge.rw_visitslips_k22_whole_puts_exchanged.Holds := by
  w_on; o_law
  refine HandSHeadRun.head_any (r := R) (q := view R.prog [88]) (H := HX.hookP 1446 parts) (ob := HX.ob 1446 parts) (M := 9000) (loose := names) (d := HandSHeadRun.topDef R.prog 88) (kwd := []) (HX.ob_eq 1446 parts)
    (by kernel_rfl) (fun s => by kernel_rfl) (fun w => HX.join (Lw.run0 w) ⟨Lw.run1 w, ⟨Lw.run2 w, ⟨Lw.run3 w, trivial⟩⟩⟩) (by kernel_rfl) (by kernel_rfl) (by kernel_rfl) (by rfl) (by first | assumption | decide +kernel) (by decide +kernel) ⟨rfl, rfl, rfl, rfl, rfl, by decide +kernel⟩ ?hw ?hc
  case hw => w_witness2
  case hc =>
    refine L2.walk_ofE (l := PySem.Challenge.rw_visitslips_k22_whole_puts_exchanged) (n := 63) (k := 9) (x := "_law_script") (CX := XN) rfl (by decide) (by kernel_rfl) ⟨rfl, by decide, by decide⟩ ?F (fun _ _ _ _ z => z)
    rintro w mg fa h ⟨K, KX, c⟩ G at_name
    have at_law : mg ("law" : PySem.Str) = some (.ref fa) := by
      have e : (HandSHeadRun.topDef R.prog 88).name = ("law" : PySem.Str) := by kernel_rfl
      exact e ▸ at_name
    obtain ⟨fd, binds, ok⟩ := facts_law (P := PySem.Challenge.pw_visitslips_k22_whole_puts_exchanged) (w := w) KX G at_law c
    refine ⟨K, fd, _, KX, binds, ?_, ok⟩
    intro H a ns le only known
    obtain ⟨cc, e⟩ := plain ns le
    exact law_says only known e
end Lw
set_option Elab.async false
set_option linter.all false
set_option maxRecDepth 100000
set_option maxHeartbeats 3900000
/-! Pl: the draws of a law: what its pool, its draw and its turning give. -/
namespace Lw
open PySem PySem.Spec PyProof.Rows L2 DL
theorem okBelow_set {n : Nat} {ds : List D} : ∀ {cs : Cs} {i : Nat}, okBelow n cs = true → okBelow n (cs.set i (some (.lst ds))) = true
  | [], _, h => h
  | none :: cs, 0, h => h
  | some (.lst _) :: cs, 0, h => h
  | some (.dct _ _) :: cs, 0, h => (Bool.and_eq_true_iff.mp h).2
  | some (.obj _ _ _) :: cs, 0, h => (Bool.and_eq_true_iff.mp h).2
  | none :: cs, i + 1, h => okBelow_set (cs := cs) (i := i) h
  | some (.lst _) :: cs, i + 1, h => okBelow_set (cs := cs) (i := i) h
  | some (.dct _ _) :: cs, i + 1, h => Bool.and_eq_true_iff.mpr ⟨(Bool.and_eq_true_iff.mp h).1, okBelow_set (cs := cs) (i := i) (Bool.and_eq_true_iff.mp h).2⟩
  | some (.obj _ _ _) :: cs, i + 1, h => Bool.and_eq_true_iff.mpr ⟨(Bool.and_eq_true_iff.mp h).1, okBelow_set (cs := cs) (i := i) (Bool.and_eq_true_iff.mp h).2⟩
/-- a body ends that wrote a list cell -/
theorem fnOf_rt' {n : Nat} {b : MS} {ws : List W} {cc c2 : Cs} {z : D} (ok : okBelow cc.length c2 = true) (len : c2.length = cc.length) (h : b (env0 n ws) cc = .rt (.d z) c2) : fnOf n b ws cc = .ok (.d z) c2 := by
  unfold fnOf
  rw [h]
  simp only [endFn, cut]
  rw [← len, List.take_length, len]
  exact if_pos ⟨ok, rfl⟩
theorem fmod_d (x : Int) {m : Int} (h : m ≠ 0) : dMod (.int x) (.int m) = some (.int (x.fmod m)) := if_pos h
theorem fdiv_d (x : Int) {m : Int} (h : m ≠ 0) (h2 : m.natAbs < 1073741824) : dFdiv (.int x) (.int m) = some (.int (x.fdiv m)) := if_pos ⟨h, h2⟩
theorem mul_d (x : Int) {m : Int} (h : small m = true) : dMul (.int x) (.int m) = some (.int (x * m)) := if_pos (.inr h)
theorem add_d (x y : Int) : dAdd (.int x) (.int y) = some (.int (x + y)) := rfl
theorem sub_d (x y : Int) : dSub (.int x) (.int y) = some (.int (x - y)) := rfl
theorem gt_d (x y : Int) : dGt (.int x) (.int y) = some (.bl (decide (y < x))) := rfl
theorem ge_d (x y : Int) : dGe (.int x) (.int y) = some (.bl (decide (y ≤ x))) := rfl
theorem lt_d (x y : Int) : dLt (.int x) (.int y) = some (.bl (decide (x < y))) := rfl
theorem le_d (x y : Int) : dLe (.int x) (.int y) = some (.bl (decide (x ≤ y))) := rfl
theorem int_d (x : Int) : dInt [.int x] = some (.int x) := rfl
theorem small_of {x : Int} (h : 0 ≤ x) (h2 : x < 18446744073709551616) : small x = true := decide_eq_true ⟨by omega, by omega⟩
theorem take_ok {n : Nat} {a b m : Int} {cc : Cs} (hc : cc[n]? = some (some (.lst [.int a, .int b]))) (ok : okBelow cc.length cc = true) (ha : 0 ≤ a) (hm : 0 < m) (hm2 : m < 1000000) :
    ∃ r a' b', 0 ≤ r ∧ r < m ∧ 0 ≤ a' ∧ fn__law_take [.cell n, .d (.int m)] cc = .ok (.d (.int r)) (cc.set n (some (.lst [.int a', .int b']))) := by
  have hn : n < cc.length := (List.getElem?_eq_some_iff.mp hc).1
  have i1 : ∀ x y : Int, atI [D.int x, D.int y] 0 = some (.int x) := fun _ _ => rfl
  have i2 : ∀ x y : Int, atI [D.int x, D.int y] 1 = some (.int y) := fun _ _ => rfl
  have j1 : ixN ([D.int a, D.int b] : List D).length 0 = some 0 := rfl
  have j2 : ixN ([D.int a, D.int b] : List D).length 1 = some 1 := rfl
  have nz : m ≠ 0 := by omega
  have nz2 : m.natAbs < 1073741824 := by omega
  have e0 : env0 3 [.cell n, .d (.int m)] = [some (.cell n), some (.d (.int m)), none] := rfl
  by_cases h : 0 < a
  · refine ⟨a.fmod m, a.fdiv m, b, Int.fmod_nonneg_of_pos a hm, Int.fmod_lt_of_pos a hm, Int.fdiv_nonneg ha (Int.le_of_lt hm), ?_⟩
    refine fnOf_rt' (n := 3) (b := fn__law_take_b) (okBelow_set ok) (List.length_set ..) ?_
    rw [e0]
    simp only [fn__law_take_b, sSeq, SR.seq, sIf, mT, mOp, mIx, mVar, mC, mCons, mNil, mB, R.bind, R.thenS, seeAll, see, wIx, hc, List.getElem?_cons_zero, List.getElem?_cons_succ, dIx, i1, i2, gt_d, h, decide_true, if_true, int_d, fmod_d _ nz, fdiv_d _ nz nz2, sSet, List.set_cons_succ, List.set_cons_zero, sPutI, sRet, Option.map_some, putI, j1]
  · have ea : a = 0 := by omega
    have e1 : ∀ x : Int, (cc.set n (some (.lst [.int a, .int x])))[n]? = some (some (.lst [.int a, .int x])) := fun x => List.getElem?_set_self hn
    have k1 : (2147483647 : Int) ≠ 0 := by decide
    have k2 : (2147483629 : Int) ≠ 0 := by decide
    have k3 : (32 : Int) ≠ 0 := by decide
    have k4 : (32 : Int).natAbs < 1073741824 := by decide
    have k5 : small 39373 = true := by decide
    refine ⟨((((((b * 39373 + 7).fmod 2147483647) * ((b * 39373 + 7).fmod 2147483647)).fmod 2147483629).fdiv 32)).fmod m, a, (b * 39373 + 7).fmod 2147483647, Int.fmod_nonneg_of_pos _ hm, Int.fmod_lt_of_pos _ hm, ha, ?_⟩
    have q1 := Int.fmod_nonneg_of_pos (b * 39373 + 7) (b := 2147483647) (by decide)
    have q2 := Int.fmod_lt_of_pos (b * 39373 + 7) (b := 2147483647) (by decide)
    have k6 : small ((b * 39373 + 7).fmod 2147483647) = true := small_of q1 (Int.lt_trans q2 (by decide))
    refine fnOf_rt' (n := 3) (b := fn__law_take_b) (okBelow_set ok) (List.length_set ..) ?_
    rw [e0]
    simp only [fn__law_take_b, sSeq, SR.seq, sIf, mT, mOp, mIx, mVar, mC, mCons, mNil, mB, R.bind, R.thenS, seeAll, see, wIx, hc, List.getElem?_cons_zero, List.getElem?_cons_succ, dIx, i1, i2, gt_d, h, decide_false, Bool.false_eq_true, if_false, int_d, mul_d _ k5, add_d, fmod_d _ k1, sNext, sPutI, sRet, Option.map_some, putI, j2, List.set_cons_succ, List.set_cons_zero, e1, mul_d _ k6, fmod_d _ k2, fdiv_d _ k3 k4, fmod_d _ nz]
theorem mul_dl {x : Int} (m : Int) (h : small x = true) : dMul (.int x) (.int m) = some (.int (x * m)) := if_pos (.inl h)
theorem atI_nat {α : Type} {xs : List α} {k : Nat} {x : α} (h : xs[k]? = some x) : atI xs (k : Int) = some x := by
  have lt := (List.getElem?_eq_some_iff.mp h).1
  unfold atI ixN
  have a1 : ¬ (k : Int) < 0 := by omega
  have a2 : (k : Int) < (xs.length : Int) := by omega
  simp [a1, a2, h]
theorem fnOfC_rt {n : Nat} {b : MS} {ws : List W} {cc : Cs} {ds : List D} (ok : okBelow cc.length cc = true) (h : b (env0 n ws) cc = .rt (.cell cc.length) (cc ++ [some (.lst ds)])) : fnOfC n b ws cc = .ok (.cell cc.length) (cc ++ [some (.lst ds)]) := by
  unfold fnOfC
  rw [h]
  have len : (cc ++ [some (C.lst ds)]).length = cc.length + 1 := by simp
  have below : okBelow (cc.length + 1) (cc ++ [some (C.lst ds)]) = true := by
    suffices q : ∀ (n m : Nat) (cs : Cs), n ≤ m → okBelow n cs = true → okBelow m (cs ++ [some (C.lst ds)]) = true from q _ _ cc (Nat.le_succ _) ok
    intro n m cs le
    have one : ∀ w, okBelow1 n w = true → okBelow1 m w = true := by
      intro w
      cases w with
      | d x => exact fun _ => rfl
      | cell j =>
        intro z
        have : j < n := of_decide_eq_true z
        exact decide_eq_true (show j < m by omega)
    induction cs with
    | nil => exact fun _ => rfl
    | cons c cs ih =>
      cases c with
      | none => exact ih
      | some c =>
        cases c with
        | lst _ => exact ih
        | dct ks ws =>
          intro z
          have z' := Bool.and_eq_true_iff.mp z
          exact Bool.and_eq_true_iff.mpr ⟨List.all_eq_true.mpr fun w mem => one w (List.all_eq_true.mp z'.1 w mem), ih z'.2⟩
        | obj cn ns ws =>
          intro z
          have z' := Bool.and_eq_true_iff.mp z
          exact Bool.and_eq_true_iff.mpr ⟨List.all_eq_true.mpr fun w mem => one w (List.all_eq_true.mp z'.1 w mem), ih z'.2⟩
  simp only [endFnC]
  rw [← len, List.take_length, len]
  exact if_pos ⟨trivial, below⟩
theorem seq_nx {a b : MS} {env env' : DL.Env} {cc c : Cs} (h : a env cc = .nx env' c) : sSeq a b env cc = b env' c := by
  unfold sSeq
  rw [h]
  rfl
theorem set_ok {i : Nat} {m : ME} {env : DL.Env} {cc c : Cs} {w : W} (h : m env cc = .ok w c) : sSet i m env cc = .nx (env.set i (some w)) c := by
  unfold sSet
  rw [h]
  rfl
theorem pow18 : (10 : Int) ^ (18 : Int).toNat = 1000000000000000000 := by decide
theorem pow_d : dPow (.int 10) (.int 18) = some (.int 1000000000000000000) := by
  have h : 0 ≤ (18 : Int) ∧ (18 : Int) ≤ 1000000 ∧ (10 : Int).natAbs < 2 ^ 64 := by decide
  rw [← pow18]
  exact if_pos (e := none) h
theorem pool_tail {ds : List D} {x kk : Int} {cc : Cs} (ok : okBelow cc.length cc = true) (k4 : small kk = true)
    (hx : (sIf (mT (mOp dLt (mVar 1) (mB dLen (mCons (mVar 0) mNil)))) (sSet 2 (mIx (mVar 0) (mVar 1))) sNext) [some (.d (.scr ds)), some (.d (.int kk)), some (.d (.int 0)), none, none] cc = .nx [some (.d (.scr ds)), some (.d (.int kk)), some (.d (.int x)), none, none] cc) :
    ∃ a b, 0 ≤ a ∧ fn__law_pool [.d (.scr ds), .d (.int kk)] cc = .ok (.cell cc.length) (cc ++ [some (.lst [.int a, .int b])]) := by
  have e0 : env0 5 [.d (.scr ds), .d (.int kk)] = [some (.d (.scr ds)), some (.d (.int kk)), none, none, none] := rfl
  have k1 : (2147483647 : Int) ≠ 0 := by decide
  have k2 : (2147483629 : Int) ≠ 0 := by decide
  have k6 : small 48271 = true := by decide
  have i2 : ∀ b : Bool, dInt [.bl b] = some (.int (if b = true then 1 else 0)) := fun _ => rfl
  have i3 : ∀ x y : Int, dMax [.int x, .int y] = some (.int (if y > x then y else x)) := fun _ _ => rfl
  have n1 : dNeg (.int 1) = some (.int (-1)) := rfl
  have k7 : ∀ b : Bool, small (if b = true then 1 else 0) = true := fun b => by cases b <;> decide
  have k8 : ∀ b : Bool, (0 : Int) ≤ if b = true then 1 else 0 := fun b => by cases b <;> decide
  have cap : ∀ x y : D, ([x, y] : List D).length ≤ CAP := fun _ _ => (show 2 ≤ CAP by decide +kernel)
  refine ⟨(if -1 - x > x then -1 - x else x) * (if decide (1000000000000000000 ≤ (if -1 - x > x then -1 - x else x)) = true then 1 else 0), ((((if -1 - x > x then -1 - x else x).fmod 2147483629) + 7919 * kk * kk + 31 * kk + 17) * 48271).fmod 2147483647, ?_, ?_⟩
  · apply Int.mul_nonneg
    · split <;> omega
    · exact k8 _
  · refine fnOfC_rt (n := 5) (b := fn__law_pool_b) ok ?_
    rw [e0]
    unfold fn__law_pool_b
    refine (seq_nx (set_ok (w := .d (.int 0)) rfl)).trans ?_
    refine (seq_nx hx).trans ?_
    generalize hbig : (if -1 - x > x then -1 - x else x) = big
    refine (seq_nx (set_ok (w := .d (.int big)) (c := cc) ?_)).trans ?_
    · simp only [mB, mCons, mNil, mVar, mC, R.bind, seeAll, see, List.getElem?_cons_zero, List.getElem?_cons_succ, int_d, mOp, mUn, n1, sub_d, i3, hbig]
    generalize hmix : (((big.fmod 2147483629) + 7919 * kk * kk + 31 * kk + 17) * 48271).fmod 2147483647 = mix
    refine (seq_nx (set_ok (w := .d (.int mix)) (c := cc) ?_)).trans ?_
    · simp only [mB, mCons, mNil, mVar, mC, R.bind, seeAll, see, List.set_cons_succ, List.set_cons_zero, List.getElem?_cons_zero, List.getElem?_cons_succ, int_d, mOp, fmod_d _ k2, mul_d _ k4, add_d, mul_d _ k6, fmod_d _ k1, hmix]
    · simp only [sRet, mLstC, mCons, mNil, mB, mOp, mVar, mC, R.bind, R.thenS, seeAll, see, List.set_cons_succ, List.set_cons_zero, List.getElem?_cons_zero, List.getElem?_cons_succ, pow_d, ge_d, i2, mul_d _ (k7 _), allD, cap, if_true]
theorem pool_ok {ns : List Int} {k : Nat} {cc : Cs} (ok : okBelow cc.length cc = true) (hk : k < 100) :
    ∃ a b, 0 ≤ a ∧ fn__law_pool [.d (.scr (ns.map .int)), .d (.int k)] cc = .ok (.cell cc.length) (cc ++ [some (.lst [.int a, .int b])]) := by
  have k4 : small (k : Int) = true := small_of (by omega) (by omega)
  have i1 : dLen [.scr (ns.map D.int)] = some (.int ((ns.map D.int).length)) := rfl
  by_cases h : k < ns.length
  · have q : (ns.map D.int)[k]? = some (.int ns[k]) := by simp [h]
    refine pool_tail (x := ns[k]) ok k4 ?_
    have h' : (k : Int) < (((ns.map D.int).length : Nat) : Int) := by rw [List.length_map]; omega
    simp only [sIf, mT, mOp, mVar, mB, mCons, mNil, R.bind, R.thenS, seeAll, see, List.getElem?_cons_zero, List.getElem?_cons_succ, i1, lt_d, h', decide_true, if_true, sSet, mIx, wIx, dIx, atI_nat q, Option.map_some, List.set_cons_succ, List.set_cons_zero]
  · refine pool_tail (x := 0) ok k4 ?_
    have h' : ¬ (k : Int) < (((ns.map D.int).length : Nat) : Int) := by rw [List.length_map]; omega
    simp only [sIf, mT, mOp, mVar, mB, mCons, mNil, R.bind, R.thenS, seeAll, see, List.getElem?_cons_zero, List.getElem?_cons_succ, i1, lt_d, h', decide_false, Bool.false_eq_true, if_false, sNext]
theorem okBelow1_le {n m : Nat} (le : n ≤ m) : ∀ {w : W}, okBelow1 n w = true → okBelow1 m w = true
  | .d _, _ => rfl
  | .cell j, z => by
    have : j < n := of_decide_eq_true z
    exact decide_eq_true (show j < m by omega)
theorem okBelow_app {n m : Nat} (le : n ≤ m) {ext : Cs} (h2 : okBelow m ext = true) : ∀ {cs : Cs}, okBelow n cs = true → okBelow m (cs ++ ext) = true
  | [], _ => h2
  | none :: cs, h => okBelow_app le h2 (cs := cs) h
  | some (.lst _) :: cs, h => okBelow_app le h2 (cs := cs) h
  | some (.dct _ _) :: cs, h => by
    have z := Bool.and_eq_true_iff.mp h
    exact Bool.and_eq_true_iff.mpr ⟨List.all_eq_true.mpr fun w mem => okBelow1_le le (List.all_eq_true.mp z.1 w mem), okBelow_app le h2 (cs := cs) z.2⟩
  | some (.obj _ _ _) :: cs, h => by
    have z := Bool.and_eq_true_iff.mp h
    exact Bool.and_eq_true_iff.mpr ⟨List.all_eq_true.mpr fun w mem => okBelow1_le le (List.all_eq_true.mp z.1 w mem), okBelow_app le h2 (cs := cs) z.2⟩
theorem cks_erase {n : Nat} : ∀ {ds : List D} {i : Nat}, cks ds n = true → cks (ds.eraseIdx i) n = true
  | [], _, h => h
  | _ :: _, 0, h => by
    simp only [cks, Bool.and_eq_true] at h
    exact h.2
  | x :: xs, i + 1, h => by
    simp only [cks, Bool.and_eq_true] at h
    simp only [List.eraseIdx_cons_succ, cks, Bool.and_eq_true]
    exact ⟨h.1, cks_erase h.2⟩
theorem erase_perm {α : Type} : ∀ {xs : List α} {i : Nat} (h : i < xs.length), (xs[i] :: xs.eraseIdx i).Perm xs
  | x :: xs, 0, _ => List.Perm.refl _
  | x :: xs, i + 1, h => by
    have h' : i < xs.length := Nat.lt_of_succ_lt_succ h
    exact (List.Perm.swap _ _ _).trans ((erase_perm h').cons x)
/-- the cells while things are turned -/
def tS (cc : Cs) (n : Nat) (P left found : List D) : Cs := cc.set n (some (.lst P)) ++ [some (.lst left), some (.lst found)]
section
variable {cc : Cs} {n : Nat} {P P' left found l' f' : List D}
theorem tS_len : (tS cc n P left found).length = cc.length + 2 := by simp [tS]
theorem tS_n (h : n < cc.length) : (tS cc n P left found)[n]? = some (some (.lst P)) := by
  unfold tS
  rw [List.getElem?_append_left (by simpa using h), List.getElem?_set_self h]
theorem tS_l : (tS cc n P left found)[cc.length]? = some (some (.lst left)) := by
  unfold tS
  rw [List.getElem?_append_right (by simp)]
  simp
theorem tS_f : (tS cc n P left found)[cc.length + 1]? = some (some (.lst found)) := by
  unfold tS
  rw [List.getElem?_append_right (by simp)]
  simp
theorem tS_setn (h : n < cc.length) : (tS cc n P left found).set n (some (.lst P')) = tS cc n P' left found := by
  unfold tS
  rw [List.set_append_left _ _ (by simpa using h), List.set_set]
theorem tS_setl : (tS cc n P left found).set cc.length (some (.lst l')) = tS cc n P l' found := by
  unfold tS
  rw [List.set_append_right _ _ (by simp)]
  simp
theorem tS_setf : (tS cc n P left found).set (cc.length + 1) (some (.lst f')) = tS cc n P left f' := by
  unfold tS
  rw [List.set_append_right _ _ (by simp)]
  simp
theorem tS_ok (ok : okBelow cc.length cc = true) : okBelow (tS cc n P left found).length (tS cc n P left found) = true := by
  rw [tS_len]
  exact okBelow_app (Nat.le_add_right _ _) rfl (okBelow_set ok)
end
def turnStep : MS := sExpr (mLm gApp (mVar 3) (mCons (mLm gPopAt (mVar 2) (mCons (mCall fn__law_take 2 (mCons (mVar 0) (mCons (mB dLen (mCons (mVar 2) mNil)) mNil)) []) mNil)) mNil))
def turnTest : DL.Env → M Bool := mT (mOp dNe (mVar 2) (mLst mNil))
theorem turn_step {cc : Cs} {n : Nat} {a b : Int} {left found : List D} {x : W} (hn : n < cc.length) (ok : okBelow cc.length cc = true) (ha : 0 ≤ a) (ne : 0 < left.length) (few : left.length < 1000) (few2 : found.length < 1000) :
    ∃ (r : Nat) (a' b' : Int) (y : D), 0 ≤ a' ∧ left[r]? = some y ∧ turnStep [some (.cell n), some x, some (.cell cc.length), some (.cell (cc.length + 1))] (tS cc n [.int a, .int b] left found) =
      .nx [some (.cell n), some x, some (.cell cc.length), some (.cell (cc.length + 1))] (tS cc n [.int a', .int b'] (left.eraseIdx r) (found ++ [y])) := by
  obtain ⟨r, a', b', r0, r1, a0, run⟩ := take_ok (n := n) (a := a) (b := b) (m := (left.length : Int)) (cc := tS cc n [.int a, .int b] left found) (tS_n hn) (tS_ok ok) ha (by omega) (by omega)
  have lt : r.toNat < left.length := by omega
  refine ⟨r.toNat, a', b', left[r.toNat], a0, List.getElem?_eq_getElem lt, ?_⟩
  rw [tS_setn hn] at run
  have pow_d : gPopAt left [.int r] = some (left[r.toNat], left.eraseIdx r.toNat) := by
    have c : 0 ≤ r ∧ r < 2 ^ 62 := ⟨r0, Int.lt_of_lt_of_le r1 (by omega)⟩
    simp only [gPopAt]
    rw [if_pos c, List.getElem?_eq_getElem lt]
  have p2 : ∀ y, gApp found [y] = some (.non, found ++ [y]) := fun y => if_pos (Nat.lt_trans few2 (by decide +kernel))
  have i1 : dLen [.lst left] = some (.int left.length) := rfl
  have two : ∀ u v : W, ([u, v] : List W).length = 2 := fun _ _ => rfl
  simp only [turnStep, sExpr, mLm, mVar, mCons, mNil, mB, mCall, R.bind, R.thenS, seeAll, see, isLstC, List.getElem?_cons_zero, List.getElem?_cons_succ, tS_l, tS_f, if_true, i1, two, List.append_nil, run, allD, pow_d, p2, tS_setl, tS_setf]
theorem turn_loop {cc : Cs} {n : Nat} {x : W} (hn : n < cc.length) (ok : okBelow cc.length cc = true) : ∀ (k fuel : Nat) (a b : Int) (left found : List D), left.length = k → k < fuel → 0 ≤ a → found.length + left.length < 1000 → cks left 63 = true →
    ∃ (a' b' : Int) (out : List D), 0 ≤ a' ∧ out.Perm (found ++ left) ∧ whileL turnTest turnStep fuel [some (.cell n), some x, some (.cell cc.length), some (.cell (cc.length + 1))] (tS cc n [.int a, .int b] left found) =
      .nx [some (.cell n), some x, some (.cell cc.length), some (.cell (cc.length + 1))] (tS cc n [.int a', .int b'] [] out)
  | k, 0, _, _, _, _, _, lt, _, _, _ => absurd lt (Nat.not_lt_zero _)
  | 0, fuel + 1, a, b, left, found, len, _, ha, _, _ => by
    have e : left = [] := List.length_eq_zero_iff.mp len
    subst e
    refine ⟨a, b, found, ha, by rw [List.append_nil], ?_⟩
    have t : turnTest [some (.cell n), some x, some (.cell cc.length), some (.cell (cc.length + 1))] (tS cc n [.int a, .int b] [] found) = .ok false (tS cc n [.int a, .int b] [] found) := by
      have q : dNe (.lst []) (.lst []) = some (.bl false) := rfl
      have z : ([] : List D).length ≤ CAP := Nat.zero_le _
      simp only [turnTest, mT, mOp, mVar, mLst, mNil, R.bind, see, List.getElem?_cons_zero, List.getElem?_cons_succ, tS_l, allD, z, if_true, q]
    simp only [whileL, t, R.thenS, Bool.false_eq_true, if_false]
  | k + 1, fuel + 1, a, b, left, found, len, lt, ha, few, shape => by
    obtain ⟨r, a', b', y, a0, at_r, run⟩ := turn_step (x := x) (a := a) (b := b) (left := left) (found := found) hn ok ha (by omega) (by omega) (by omega)
    have r1 := (List.getElem?_eq_some_iff.mp at_r).1
    have len' : (left.eraseIdx r).length = k := by rw [List.length_eraseIdx_of_lt r1, len]; rfl
    obtain ⟨a2, b2, out, a20, perm, more⟩ := turn_loop (x := x) hn ok k fuel a' b' (left.eraseIdx r) (found ++ [y]) len' (by omega) a0 (by rw [List.length_append, len', List.length_singleton]; omega) (cks_erase shape)
    refine ⟨a2, b2, out, a20, ?_, ?_⟩
    · refine perm.trans ?_
      rw [List.append_assoc]
      apply List.Perm.append_left found
      have e : y = left[r] := by
        rw [List.getElem?_eq_getElem r1] at at_r
        exact (Option.some.inj at_r).symm
      rw [e]
      exact erase_perm r1
    · have t : turnTest [some (.cell n), some x, some (.cell cc.length), some (.cell (cc.length + 1))] (tS cc n [.int a, .int b] left found) = .ok true (tS cc n [.int a, .int b] left found) := by
        have q : dNe (.lst left) (.lst []) = some (.bl true) := by
          cases left with
          | nil => exact nomatch len
          | cons z zs =>
            have c1 : cmpD (.lst (z :: zs)) = true := shape
            have c2 : cmpD (.lst []) = true := rfl
            unfold dNe dEqB
            rw [if_pos ⟨c1, c2⟩]
            rfl
        have z : ([] : List D).length ≤ CAP := Nat.zero_le _
        simp only [turnTest, mT, mOp, mVar, mLst, mNil, R.bind, see, List.getElem?_cons_zero, List.getElem?_cons_succ, tS_l, allD, z, if_true, q]
      simp only [whileL, t, R.thenS, if_true, run, more]
theorem turned_ok {cc : Cs} {n : Nat} {a b : Int} {ds : List D} (hc : cc[n]? = some (some (.lst [.int a, .int b]))) (ok : okBelow cc.length cc = true) (ha : 0 ≤ a) (few : ds.length < 64) (shape : cks ds 63 = true) :
    ∃ (a' b' : Int) (out : List D), 0 ≤ a' ∧ out.Perm ds ∧ fn__law_turned [.cell n, .d (.lst ds)] cc = .ok (.d (.lst out)) (cc.set n (some (.lst [.int a', .int b']))) := by
  have hn : n < cc.length := (List.getElem?_eq_some_iff.mp hc).1
  have e0 : env0 4 [.cell n, .d (.lst ds)] = [some (.cell n), some (.d (.lst ds)), none, none] := rfl
  obtain ⟨a', b', out, a0, perm, run⟩ := turn_loop (x := .d (.lst ds)) hn ok ds.length 64 a b ds [] rfl few ha (by simp; omega) shape
  refine ⟨a', b', out, a0, perm, ?_⟩
  have start : tS cc n [.int a, .int b] ds [] = cc ++ [some (.lst ds)] ++ [some (.lst [])] := by
    unfold tS
    have e : cc.set n (some (.lst [.int a, .int b])) = cc := by
      apply List.ext_getElem?
      intro j
      by_cases h : n = j
      · subst h
        rw [List.getElem?_set_self hn, hc]
      · rw [List.getElem?_set_ne h]
    rw [e, List.append_assoc]
    rfl
  have z : ([] : List D).length ≤ CAP := Nat.zero_le _
  have l1 : (cc ++ [some (C.lst ds)]).length = cc.length + 1 := by simp
  have body : fn__law_turned_b (env0 4 [.cell n, .d (.lst ds)]) cc = .rt (.cell (cc.length + 1)) (tS cc n [.int a', .int b'] [] out) := by
    rw [e0]
    unfold fn__law_turned_b
    have p : (sPar 2 3 (mCons (mListC (mCons (mVar 1) mNil)) (mCons (mLstC mNil) mNil))) [some (.cell n), some (.d (.lst ds)), none, none] cc = .nx [some (.cell n), some (.d (.lst ds)), some (.cell cc.length), some (.cell (cc.length + 1))] (tS cc n [.int a, .int b] ds []) := by
      rw [start]
      simp only [sPar, mCons, mListC, mLstC, mVar, mNil, R.bind, R.thenS, seeAll, see, List.getElem?_cons_zero, List.getElem?_cons_succ, dList, allD, z, if_true, l1, List.set_cons_succ, List.set_cons_zero]
    refine (seq_nx p).trans ?_
    refine (seq_nx (a := sWhile (mT (mOp dNe (mVar 2) (mLst mNil))) (sExpr (mLm gApp (mVar 3) (mCons (mLm gPopAt (mVar 2) (mCons (mCall fn__law_take 2 (mCons (mVar 0) (mCons (mB dLen (mCons (mVar 2) mNil)) mNil)) []) mNil)) mNil))) 64) run).trans ?_
    simp only [sRet, mVar, R.thenS, List.getElem?_cons_zero, List.getElem?_cons_succ]
  show fnOf 4 fn__law_turned_b _ _ = _
  unfold fnOf
  rw [body]
  have f1 : frz (tS cc n [.int a', .int b'] [] out) (.cell (cc.length + 1)) = some (.lst out, (tS cc n [.int a', .int b'] [] out).set (cc.length + 1) none) := by
    simp only [frz, tS_f]
  have ge : ¬ cc.length + 1 < cc.length := by omega
  have tk : ((tS cc n [.int a', .int b'] [] out).set (cc.length + 1) none).take cc.length = cc.set n (some (.lst [.int a', .int b'])) := by
    unfold tS
    rw [List.take_set_of_le (by omega), List.take_append_of_le_length (by simp)]
    apply List.take_of_length_le
    simp
  simp only [endFn, ge, if_false, f1, cut, tk]
  exact if_pos ⟨okBelow_set ok, rfl⟩
end Lw
set_option Elab.async false
set_option linter.all false
set_option maxRecDepth 100000
set_option maxHeartbeats 3900000
/-! SD: forms that move the pool; what a law's draws give. -/
namespace Lw
open PySem PySem.Spec PyProof.Rows L2 DL Ty
/-- the pool stands at n -/
structure St (n : Nat) (cc : Cs) : Prop where
  ok : okBelow cc.length cc = true
  pool : ∃ a b : Int, 0 ≤ a ∧ cc[n]? = some (some (.lst [.int a, .int b]))
/-- but the pool nothing has moved -/
structure Mv (n : Nat) (cc c2 : Cs) : Prop where
  st : St n c2
  eq : ∃ a b : Int, c2 = cc.set n (some (.lst [.int a, .int b]))
section
variable {n : Nat} {cc c1 c2 c3 c4 : Cs}
theorem St.lt (h : St n cc) : n < cc.length := by
  obtain ⟨a, b, _, here⟩ := h.pool
  exact (List.getElem?_eq_some_iff.mp here).1
theorem Mv.of {a b : Int} (h : St n cc) (ha : 0 ≤ a) : Mv n cc (cc.set n (some (.lst [.int a, .int b]))) :=
  ⟨⟨by rw [List.length_set]; exact okBelow_set h.ok, a, b, ha, List.getElem?_set_self h.lt⟩, a, b, rfl⟩
theorem Mv.len (h : Mv n cc c2) : c2.length = cc.length := by
  obtain ⟨a, b, e⟩ := h.eq
  rw [e, List.length_set]
theorem Mv.refl (h : St n cc) : Mv n cc cc := by
  obtain ⟨a, b, _, e⟩ := h.pool
  refine ⟨h, a, b, ?_⟩
  apply List.ext_getElem?
  intro k
  by_cases q : n = k
  · subst q
    rw [List.getElem?_set_self h.lt, e]
  · rw [List.getElem?_set_ne q]
theorem Mv.trans (h : Mv n cc c1) (k : Mv n c1 c2) : Mv n cc c2 := by
  obtain ⟨a, b, e⟩ := h.eq
  obtain ⟨x, y, e2⟩ := k.eq
  exact ⟨k.st, x, y, by rw [e2, e, List.set_set]⟩
theorem Mv.ok (h : Mv n cc c2) : okBelow cc.length c2 = true := by
  rw [← h.len]
  exact h.st.ok
theorem Mv.okS (h : Mv n cc c2) : okBelow c2.length c2 = true := h.st.ok
end
/-! ### forms -/
section
variable {env : DL.Env} {cc c1 c2 c3 c4 : Cs} {m k : ME} {t u : DL.Env → M Bool} {x y z : D} {w w2 : W} {ws us : List W} {r : DL.Env → M (List W)} {a b : Bool}
theorem op_mv {g : D → D → Option D} (h : m env cc = .ok (.d x) c1) (h2 : k env c1 = .ok (.d y) c2) (q : g x y = some z) : mOp g m k env cc = .ok (.d z) c2 := by
  unfold mOp
  rw [h]
  simp only [R.bind]
  rw [h2]
  simp only [see, q]
theorem args_mv (h : m env cc = .ok w c1) (h2 : r env c1 = .ok ws c2) : mCons m r env cc = .ok (w :: ws) c2 := by
  unfold mCons
  rw [h]
  simp only [R.bind]
  rw [h2]
theorem call_mv {F : Fn} {j : Nat} {dfl : List W} (h : r env cc = .ok ws c1) (hl : (ws ++ dfl).length = j) (run : F (ws ++ dfl) c1 = .ok w c2) : mCall F j r dfl env cc = .ok w c2 := by
  unfold mCall
  rw [h]
  simp only [R.bind, hl, if_true, run]
theorem ix_mv (h : m env cc = .ok (.d x) c1) (h2 : k env c1 = .ok (.d y) c2) (q : dIx x y = some z) : mIx m k env cc = .ok (.d z) c2 := by
  unfold mIx
  rw [h]
  simp only [R.bind]
  rw [h2]
  simp only [wIx, see, q, Option.map_some]
theorem bi_mv {g : List D → Option D} {xs : List D} (h : r env cc = .ok ws c1) (s : seeAll c1 ws = some xs) (q : g xs = some z) : mB g r env cc = .ok (.d z) c1 := by
  unfold mB
  rw [h]
  simp only [R.bind, s, q]
theorem b1_mv {g : List D → Option D} (h : m env cc = .ok (.d x) c1) (q : g [x] = some z) : mB g (mCons m mNil) env cc = .ok (.d z) c1 := bi_mv (args_mv h args0) rfl q
theorem t_mv (h : m env cc = .ok (.d (.bl a)) c1) : mT m env cc = .ok a c1 := by
  unfold mT
  rw [h]
  rfl
theorem tup_mv {ds : List D} (h : r env cc = .ok (ds.map .d) c1) (cap : ds.length ≤ CAP) : mTup r env cc = .ok (.d (.tup ds)) c1 := by
  unfold mTup
  rw [h]
  simp only [R.bind, allD_map, cap, if_true]
theorem sl_to_mv {mi : ME} {i : Int} (h : m env cc = .ok (.d x) c1) (hi : mi env c1 = .ok (.d (.int i)) c2) (q : dSl x none (some i) = some z) : mSl m oNone (oSome mi) env cc = .ok (.d z) c2 := by
  unfold mSl
  rw [h]
  simp only [R.bind, oNone, oSome]
  rw [hi]
  simp only [R.bind, see, q]
theorem ret_mv (h : m env cc = .ok w c1) : sRet m env cc = .rt w c1 := by
  unfold sRet
  rw [h]
  rfl
theorem if_mv (h : t env cc = .ok a c1) (yes : a = true → m env c1 = .ok w c2) (no : a = false → k env c1 = .ok w c2) : mIf t m k env cc = .ok w c2 := by
  unfold mIf
  rw [h]
  cases a with
  | true => exact yes rfl
  | false => exact no rfl
theorem par_mv {i j : Nat} (h : r env cc = .ok [w, w2] c1) : sPar i j r env cc = .nx ((env.set i (some w)).set j (some w2)) c1 := by
  unfold sPar
  rw [h]
  rfl
end
/-! ### draws -/
theorem perm_map {α β : Type} (f : α → β) {l out : List β} (p : out.Perm l) : ∀ xs : List α, l = xs.map f → ∃ ys : List α, ys.Perm xs ∧ out = ys.map f := by
  induction p with
  | nil =>
    intro xs e
    exact ⟨xs, .refl _, e⟩
  | cons x p ih =>
    intro xs e
    cases xs with
    | nil => exact nomatch e
    | cons y ys =>
      rw [List.map_cons, List.cons.injEq] at e
      obtain ⟨zs, pz, rfl⟩ := ih ys e.2
      exact ⟨y :: zs, pz.cons y, by rw [List.map_cons, e.1]⟩
  | swap x y l =>
    intro xs e
    cases xs with
    | nil => exact nomatch e
    | cons u us =>
      cases us with
      | nil => simp at e
      | cons v vs =>
        simp only [List.cons.injEq, List.map_cons] at e
        refine ⟨v :: u :: vs, List.Perm.swap u v vs, ?_⟩
        rw [List.map_cons, List.map_cons, e.1, e.2.1, e.2.2]
  | trans p q ih1 ih2 =>
    intro xs e
    obtain ⟨ys, py, e2⟩ := ih2 xs e
    obtain ⟨zs, pz, e3⟩ := ih1 ys e2
    exact ⟨zs, pz.trans py, e3⟩
section
variable {n : Nat} {cc : Cs}
theorem d_take {m : Int} (h : St n cc) (hm : 0 < m) (hm2 : m < 1000000) : ∃ c2 r, Mv n cc c2 ∧ 0 ≤ r ∧ r < m ∧ fn__law_take [.cell n, .d (.int m)] cc = .ok (.d (.int r)) c2 := by
  obtain ⟨a, b, ha, e⟩ := h.pool
  obtain ⟨r, a', b', r0, rm, a0, run⟩ := take_ok e h.ok ha hm hm2
  exact ⟨_, r, Mv.of h a0, r0, rm, run⟩
theorem d_turned {ds : List D} (h : St n cc) (few : ds.length < 64) (shape : cks ds 63 = true) : ∃ c2 out, Mv n cc c2 ∧ out.Perm ds ∧ fn__law_turned [.cell n, .d (.lst ds)] cc = .ok (.d (.lst out)) c2 := by
  obtain ⟨a, b, ha, e⟩ := h.pool
  obtain ⟨a', b', out, a0, perm, run⟩ := turned_ok e h.ok ha few shape
  exact ⟨_, out, Mv.of h a0, perm, run⟩
theorem at_lst {xs : List D} {i : Int} (h0 : 0 ≤ i) (h1 : i < xs.length) : ∃ x ∈ xs, dIx (.lst xs) (.int i) = some x := by
  have lt : i.toNat < xs.length := by omega
  refine ⟨xs[i.toNat], List.getElem_mem lt, ?_⟩
  show atI xs i = _
  unfold atI ixN
  rw [if_pos h0, if_pos h1]
  show xs[i.toNat]? = _
  rw [List.getElem?_eq_getElem lt]
theorem d_one {xs : List D} (h : St n cc) (ne : 0 < xs.length) (few : xs.length < 1000000) : ∃ c2 x, Mv n cc c2 ∧ x ∈ xs ∧ fn__law_one [.cell n, .d (.lst xs)] cc = .ok (.d x) c2 := by
  obtain ⟨c2, r, mv, r0, rm, run⟩ := d_take (m := (xs.length : Int)) h (by omega) (by omega)
  obtain ⟨x, mx, e⟩ := at_lst r0 rm
  refine ⟨c2, x, mv, mx, fnOf_rt' (n := 2) (b := fn__law_one_b) mv.ok mv.len (ret_mv (ix_mv rfl (call_mv (args_mv rfl (args_mv (b1_mv rfl rfl) args0)) rfl run) e))⟩
end
end Lw
set_option Elab.async false
set_option linter.all false
set_option maxRecDepth 100000
set_option maxHeartbeats 3900000
/-! DR: what the laws draw: lands, slips, puts. -/
namespace Lw
open PySem PySem.Spec PyProof.Rows L2 DL Ty
structure Four (a b c d : PySem.Str) : Prop where
  a1 : okW a = true
  b1 : okW b = true
  c1 : okW c = true
  d1 : okW d = true
  ab : a ≠ b
  ac : a ≠ c
  ad : a ≠ d
  bc : b ≠ c
  bd : b ≠ d
  cd : c ≠ d
theorem four_of {a b c d : PySem.Str} (h : (okW a && okW b && okW c && okW d && !eqS a b && !eqS a c && !eqS a d && !eqS b c && !eqS b d && !eqS c d) = true) : Four a b c d := by
  simp only [Bool.and_eq_true, Bool.not_eq_true', Bool.eq_false_iff, ne_eq, eqS_iff] at h
  obtain ⟨⟨⟨⟨⟨⟨⟨⟨⟨h1, h2⟩, h3⟩, h4⟩, h5⟩, h6⟩, h7⟩, h8⟩, h9⟩, h10⟩ := h
  exact ⟨h1, h2, h3, h4, h5, h6, h7, h8, h9, h10⟩
/-- a drawn land is right -/
structure LandR (l : Ld) : Prop where
  ok : LdOk l
  n1 : l.houses.Nodup
  n2 : l.common.Nodup
  h1 : 1 ≤ l.houses.length
  h2 : l.houses.length ≤ 6
  h3 : l.common.length ≤ 4
def dLd (l : Ld) : D := .dct [.str "houses", .str "common"] [.lst (l.houses.map dW), .lst (l.common.map dW)]
theorem dct_ok {env : DL.Env} {cc c1 : Cs} {ks : List Key} {ms : List ME} {xs : List D} (h : mVals ms env cc = .ok xs c1) (q : xs.length = ks.length ∧ ks.length ≤ 15 ∧ onceK ks = true) : mDct ks ms env cc = .ok (.d (.dct (ks.map keyD) xs)) c1 := by
  unfold mDct
  rw [h]
  exact if_pos q
theorem asg_mv {env env' : DL.Env} {cc c1 : Cs} {G : Tg} {m : ME} {w : W} (h : m env cc = .ok w c1) (g : G w env c1 = some env') : sAsg G m env cc = .nx env' c1 := by
  unfold sAsg
  rw [h]
  simp only [R.thenS, g]
theorem cut_lst (xs : List D) {i : Int} (h : 0 ≤ i) : dSl (.lst xs) none (some i) = some (.lst (xs.take i.toNat)) := by
  obtain ⟨k, rfl⟩ := Int.eq_ofNat_of_zero_le h
  show some (D.lst (DL.cutD xs none (some (k : Int)))) = _
  rw [cut_take, Int.toNat_natCast]
theorem cut_W (h : Words) {i : Int} (h0 : 0 ≤ i) : dSl (dW h) none (some i) = some (dW (h.take i.toNat)) := by
  obtain ⟨k, rfl⟩ := Int.eq_ofNat_of_zero_le h0
  rw [dW_take, Int.toNat_natCast]
section
variable {n : Nat} {cc : Cs}
theorem d_words (h : St n cc) : ∃ c2 a b c d, Mv n cc c2 ∧ Four a b c d ∧ fn__law_words [.cell n] cc = .ok (.d (.lst [.str a, .str b, .str c, .str d])) c2 := by
  obtain ⟨c2, x, mv, mx, run⟩ := d_one (xs := [.lst [.str "town", .str "mall", .str "shop", .str "inn"], .lst [.str "a", .str "b", .str "c", .str "ab"], .lst [.str "ab", .str "a", .str "abcdefgh", .str "b"]]) h (by decide) (by decide)
  have go : fn__law_words [.cell n] cc = .ok (.d x) c2 := fnOf_rt' (n := 1) (b := fn__law_words_b) mv.ok mv.len (ret_mv (call_mv (args_mv rfl (args_mv rfl args0)) rfl run))
  simp only [List.mem_cons, List.not_mem_nil, or_false] at mx
  rcases mx with rfl | rfl | rfl
  · exact ⟨c2, _, _, _, _, mv, four_of (by decide +kernel), go⟩
  · exact ⟨c2, _, _, _, _, mv, four_of (by decide +kernel), go⟩
  · exact ⟨c2, _, _, _, _, mv, four_of (by decide +kernel), go⟩
theorem d_turnedW {hs : List Words} (h : St n cc) (good : hs.all okHost = true) (few : hs.length < 64) : ∃ c2, ∃ out : List Words, Mv n cc c2 ∧ out.Perm hs ∧ fn__law_turned [.cell n, .d (.lst (hs.map dW))] cc = .ok (.d (.lst (out.map dW))) c2 := by
  obtain ⟨c2, out, mv, perm, run⟩ := d_turned (ds := hs.map dW) h (by rw [List.length_map]; exact few) (cks_Ws good 62)
  obtain ⟨ys, py, rfl⟩ := perm_map dW perm hs rfl
  exact ⟨c2, ys, mv, py, run⟩
theorem all_take {α : Type} {p : α → Bool} {xs ys : List α} (h : xs.all p = true) (q : ys.Perm xs) (k : Nat) : (ys.take k).all p = true := by
  rw [List.all_eq_true] at h ⊢
  exact fun x m => h x (q.mem_iff.mp (List.mem_of_mem_take m))
theorem d_land {top : Int} (h : St n cc) (h1 : 1 ≤ top) (h6 : top ≤ 6) : ∃ c2 l, Mv n cc c2 ∧ LandR l ∧ fn__law_land [.cell n, .d (.int top)] cc = .ok (.d (dLd l)) c2 := by
  obtain ⟨c1, w0, w1, w2, w3, m1, F, r1⟩ := d_words h
  have good : ([[w0, w1], [w0, w2], [w0, w1, w2], [w0], [w3, w1], [w3], [w0, w1, w3], [w1]] : List Words).all okHost = true := by
    simp [okHost, okWs, F.a1, F.b1, F.c1, F.d1]
  have once : ([[w0, w1], [w0, w2], [w0, w1, w2], [w0], [w3, w1], [w3], [w0, w1, w3], [w1]] : List Words).Nodup := by
    simp [F.ab, F.ac, F.ad, F.bc, F.bd, F.cd, F.ab.symm, F.ac.symm, F.ad.symm, F.bc.symm, F.bd.symm, F.cd.symm]
  have good2 : ([[w0], [w3], [w0, w1], [w1]] : List Words).all okHost = true := by
    simp [okHost, okWs, F.a1, F.b1, F.c1, F.d1]
  have once2 : ([[w0], [w3], [w0, w1], [w1]] : List Words).Nodup := by
    simp [F.ab, F.ac, F.ad, F.bc, F.bd, F.cd, F.ab.symm, F.ac.symm, F.ad.symm, F.bc.symm, F.bd.symm, F.cd.symm]
  obtain ⟨c2, o1, m2, p1, r2⟩ := d_turnedW m1.st good (by simp)
  obtain ⟨c3, k1, m3, k1a, k1b, r3⟩ := d_take (m := top) m2.st (by omega) (by omega)
  obtain ⟨c4, o2, m4, p2, r4⟩ := d_turnedW m3.st good2 (by simp)
  obtain ⟨c5, k2, m5, k2a, k2b, r5⟩ := d_take (m := 3) m4.st (by omega) (by omega)
  have mv : Mv n cc c5 := (((m1.trans m2).trans m3).trans m4).trans m5
  have l1 : o1.length = 8 := p1.length_eq
  have l2 : o2.length = 4 := p2.length_eq
  refine ⟨c5, ⟨o1.take (1 + k1).toNat, o2.take k2.toNat⟩, mv, ⟨⟨all_take good p1 _, all_take good2 p2 _, ?_, ?_⟩, ((p1.nodup_iff.mpr once).sublist (List.take_sublist _ _)), ((p2.nodup_iff.mpr once2).sublist (List.take_sublist _ _)), ?_, ?_, ?_⟩, ?_⟩
  · show (o1.take (1 + k1).toNat).length ≤ 1000
    rw [List.length_take]; omega
  · show (o2.take k2.toNat).length ≤ 1000
    rw [List.length_take]; omega
  · show 1 ≤ (o1.take (1 + k1).toNat).length
    rw [List.length_take]; omega
  · show (o1.take (1 + k1).toNat).length ≤ 6
    rw [List.length_take]; omega
  · show (o2.take k2.toNat).length ≤ 4
    rw [List.length_take]; omega
  · have cap : ∀ k : Nat, k ≤ 1000 → k ≤ CAP := fun k => few_cap
    refine fnOf_rt' (n := 9) (b := fn__law_land_b) mv.ok mv.len ?_
    refine (seq_to (asg_mv (call_mv (args_mv rfl args0) rfl r1) rfl)).trans ?_
    refine (seq_to (put_ok (lst_ok (ds := [[w0, w1], [w0, w2], [w0, w1, w2], [w0], [w3, w1], [w3], [w0, w1, w3], [w1]].map dW) rfl (cap 8 (by decide))))).trans ?_
    refine (seq_to (put_ok (sl_to_mv (call_mv (args_mv rfl (args_mv rfl args0)) rfl r2) (op_mv rfl (call_mv (args_mv rfl (args_mv rfl args0)) rfl r3) rfl) (cut_lst _ (by omega))))).trans ?_
    refine (seq_to (put_ok (sl_to_mv (call_mv (args_mv rfl (args_mv (lst_ok (ds := [[w0], [w3], [w0, w1], [w1]].map dW) rfl (cap 4 (by decide))) args0)) rfl r4) (call_mv (args_mv rfl (args_mv rfl args0)) rfl r5) (cut_lst _ k2a)))).trans ?_
    refine ret_mv ?_
    have v : mVals [mVar 7, mVar 8] ([some (.cell n), some (.d (.int top)), some (.d (.str w0)), some (.d (.str w1)), some (.d (.str w2)), some (.d (.str w3)), some (.d (.lst ([[w0, w1], [w0, w2], [w0, w1, w2], [w0], [w3, w1], [w3], [w0, w1, w3], [w1]].map dW))), some (.d (.lst ((o1.map dW).take (1 + k1).toNat))), some (.d (.lst ((o2.map dW).take k2.toNat)))]) c5 = .ok [.lst ((o1.map dW).take (1 + k1).toNat), .lst ((o2.map dW).take k2.toNat)] c5 := rfl
    have q := dct_ok (ks := [.inr "houses", .inr "common"]) v ⟨rfl, by decide, by decide +kernel⟩
    unfold dLd
    rw [List.map_take, List.map_take]
    exact q
end
end Lw
set_option Elab.async false
set_option linter.all false
set_option maxRecDepth 100000
set_option maxHeartbeats 3900000
/-! DS: drawn slips and puts. -/
namespace Lw
open PySem PySem.Spec PyProof.Rows L2 DL Ty
/-- all orders of a list -/
def putAll {α : Type} (x : α) : List α → List (List α)
  | [] => [[x]]
  | y :: ys => (x :: y :: ys) :: (putAll x ys).map (y :: ·)
def orders {α : Type} : List α → List (List α)
  | [] => [[]]
  | x :: xs => (orders xs).flatMap (putAll x)
theorem mem_put {α : Type} (x : α) : ∀ s t : List α, s ++ x :: t ∈ putAll x (s ++ t)
  | [], [] => List.mem_cons_self
  | [], _ :: _ => List.mem_cons_self
  | y :: s, t => List.mem_cons_of_mem _ (List.mem_map.mpr ⟨_, mem_put x s t, rfl⟩)
theorem mem_orders {α : Type} : ∀ (l ws : List α), ws.Perm l → ws ∈ orders l
  | [], ws, p => by
    rw [p.eq_nil]
    exact List.mem_cons_self
  | x :: xs, ws, p => by
    obtain ⟨s, t, rfl⟩ := List.append_of_mem (p.mem_iff.mpr List.mem_cons_self)
    have q : (s ++ t).Perm xs := (List.perm_middle.symm.trans p).cons_inv
    exact List.mem_flatMap.mpr ⟨_, mem_orders xs _ q, mem_put x s t⟩
section
variable {n : Nat} {cc : Cs}
theorem d_path (h : St n cc) : ∃ c2 p, Mv n cc c2 ∧ okPath p = true ∧ fn__law_path [.cell n] cc = .ok (.d (dW p)) c2 := by
  obtain ⟨c2, x, mv, mx, run⟩ := d_one (xs := [.lst [], .lst [.str "p"], .lst [.str "p", .str "q"], .lst [.str "p", .str "q", .str "p"], .lst [.str "q"], .lst [.str "q", .str "p"]]) h (by decide) (by decide)
  have go : ∀ p : Words, x = .lst (p.map .str) → okPath p = true → ∃ c2 p, Mv n cc c2 ∧ okPath p = true ∧ fn__law_path [.cell n] cc = .ok (.d (dW p)) c2 := by
    rintro p rfl k
    exact ⟨c2, p, mv, k, fnOf_rt' (n := 1) (b := fn__law_path_b) mv.ok mv.len (ret_mv (b1_mv (call_mv (args_mv rfl (args_mv rfl args0)) rfl run) rfl))⟩
  simp only [List.mem_cons, List.not_mem_nil, or_false] at mx
  rcases mx with e | e | e | e | e | e
  · exact go [] e (by decide +kernel)
  · exact go ["p"] e (by decide +kernel)
  · exact go ["p", "q"] e (by decide +kernel)
  · exact go ["p", "q", "p"] e (by decide +kernel)
  · exact go ["q"] e (by decide +kernel)
  · exact go ["q", "p"] e (by decide +kernel)
theorem d_end (h : St n cc) : ∃ c2 e, Mv n cc c2 ∧ okEnd e = true ∧ fn__law_end [.cell n] cc = .ok (.d (dEnd e)) c2 := by
  obtain ⟨c1, r, m1, r0, rm, run⟩ := d_take (m := 2) h (by decide) (by decide)
  have t : (mT (mOp dEq (mCall fn__law_take 2 (mCons (mVar 0) (mCons (mC (.int 2)) mNil)) []) (mC (.int 0)))) (env0 1 [.cell n]) cc = .ok (decide (r = 0)) c1 := t_mv (op_mv (call_mv (args_mv rfl (args_mv rfl args0)) rfl run) rfl rfl)
  by_cases e : r = 0
  · rw [decide_eq_true e] at t
    exact ⟨c1, none, m1, rfl, fnOf_rt' (n := 1) (b := fn__law_end_b) m1.ok m1.len (ret_mv (if_mv t (fun _ => rfl) (fun z => nomatch z)))⟩
  · rw [decide_eq_false e] at t
    obtain ⟨c2, q, m2, q0, qm, run2⟩ := d_take (m := 6) m1.st (by decide) (by decide)
    have mv := m1.trans m2
    refine ⟨c2, some (1 + q), mv, ?_, fnOf_rt' (n := 1) (b := fn__law_end_b) mv.ok mv.len (ret_mv (if_mv t (fun z => nomatch z) (fun _ => op_mv rfl (call_mv (args_mv rfl (args_mv rfl args0)) rfl run2) rfl)))⟩
    simp only [okEnd, Bool.and_eq_true, decide_eq_true_eq]
    omega
theorem d_marks (h : St n cc) : ∃ c2 m, Mv n cc c2 ∧ okOf marksW m = true ∧ fn__law_marks [.cell n] cc = .ok (.d (dW m)) c2 := by
  obtain ⟨c1, o1, m1, p1, r1⟩ := d_turned (ds := [.str "closed", .str "hidden", .str "near"]) h (by decide) (by decide +kernel)
  obtain ⟨c2, x, m2, mx, r2⟩ := d_one (xs := [.int 0, .int 0, .int 1, .int 1, .int 2, .int 3]) m1.st (by decide) (by decide)
  have mv := m1.trans m2
  have k : ∃ k : Nat, x = .int (k : Int) ∧ k ≤ 3 := by
    simp only [List.mem_cons, List.not_mem_nil, or_false] at mx
    rcases mx with e | e | e | e | e | e
    · exact ⟨0, e, by decide⟩
    · exact ⟨0, e, by decide⟩
    · exact ⟨1, e, by decide⟩
    · exact ⟨1, e, by decide⟩
    · exact ⟨2, e, by decide⟩
    · exact ⟨3, e, by decide⟩
  obtain ⟨k, rfl, k3⟩ := k
  obtain ⟨ys, py, rfl⟩ := perm_map D.str p1 marksW rfl
  have e1 : (ys.map D.str).take k = (ys.take k).map .str := (List.map_take ..).symm
  have good : ∀ ys : Words, ys.Perm marksW → ∀ k, k ≤ 3 → okOf marksW (sortS (ys.take k)) = true := by
    intro ys py k k3
    have chk : ∀ ys ∈ orders marksW, ∀ k ∈ [0, 1, 2, 3], okOf marksW (sortS (ys.take k)) = true := by decide +kernel
    have mem := mem_orders marksW ys py
    exact chk ys mem k (by simp only [List.mem_cons, List.not_mem_nil, or_false]; omega)
  refine ⟨c2, sortS (ys.take k), mv, good ys py k k3, fnOf_rt' (n := 1) (b := fn__law_marks_b) mv.ok mv.len (ret_mv (b1_mv (x := .lst ((sortS (ys.take k)).map .str)) (b1_mv (sl_to_mv (i := (k : Int)) (call_mv (args_mv rfl (args_mv (lst_ok (ds := [.str "closed", .str "hidden", .str "near"]) rfl (few_cap (show 3 ≤ 1000 by decide))) args0)) rfl r1) (call_mv (args_mv rfl (args_mv rfl args0)) rfl r2) (cut_lst _ (by omega))) ?_) rfl))⟩
  rw [Int.toNat_natCast, e1]
  show (match strsOf ((ys.take k).map .str) with | some xs => if xs.length < 64 then some (D.lst ((sortS xs).map .str)) else none | none => none) = _
  rw [strs_map]
  exact if_pos (by rw [List.length_take]; omega)
end
end Lw
set_option Elab.async false
set_option linter.all false
set_option maxRecDepth 100000
set_option maxHeartbeats 3900000
/-! DT: drawn hosts, slips, puts. -/
namespace Lw
open PySem PySem.Spec PyProof.Rows L2 DL Ty
theorem seq_ifm {env : DL.Env} {cc c1 : Cs} {t : DL.Env → M Bool} {a : Bool} {A B : MS} {z : SR} (h : t env cc = .ok a c1) (y : a = true → A env c1 = z) (n : a = false → B env c1 = z) (hz : ∃ w c, z = .rt w c) : sSeq (sIf t A sNext) B env cc = z := by
  unfold sSeq sIf
  rw [h]
  cases a with
  | true =>
    obtain ⟨w, c, rfl⟩ := hz
    simp only [R.thenS, if_true, y rfl]
    rfl
  | false =>
    simp only [R.thenS, Bool.false_eq_true, if_false]
    exact n rfl
theorem if_next {env env' : DL.Env} {cc c1 c2 : Cs} {t : DL.Env → M Bool} {A : MS} (h : t env cc = .ok true c1) (y : A env c1 = .nx env' c2) : sIf t A sNext env cc = .nx env' c2 := by
  unfold sIf
  rw [h]
  exact y
theorem if_skip {env : DL.Env} {cc c1 : Cs} {t : DL.Env → M Bool} {A : MS} (h : t env cc = .ok false c1) : sIf t A sNext env cc = .nx env c1 := by
  unfold sIf
  rw [h]
  rfl
theorem add_W (a b : Words) (h : a.length + b.length ≤ 1000) : dAdd (dW a) (dW b) = some (dW (a ++ b)) := by
  have c : (a.map D.str).length + (b.map D.str).length ≤ CAP := by
    rw [List.length_map, List.length_map]
    exact few_cap h
  show (if (a.map D.str).length + (b.map D.str).length ≤ CAP then some (D.tup (a.map D.str ++ b.map D.str)) else none) = _
  rw [if_pos c, ← List.map_append]
  rfl
theorem host_len {h : Words} (k : okHost h = true) : 1 ≤ h.length ∧ h.length ≤ 4 := by
  simp only [okHost, okWs, Bool.and_eq_true, Nat.ble_eq] at k
  exact ⟨k.1, k.2.1⟩
theorem host_take {h : Words} (k : okHost h = true) {j : Nat} (h1 : 1 ≤ j) : okHost (h.take j) = true := by
  have l := host_len k
  simp only [okHost, okWs, Bool.and_eq_true, Nat.ble_eq, List.length_take]
  exact ⟨by omega, by omega, take_all (host_all k) j⟩
theorem host_more {h : Words} (k : okHost h = true) (lt : h.length < 4) : okHost (h ++ (["z"] : Words)) = true := by
  simp only [okHost, okWs, Bool.and_eq_true, Nat.ble_eq, List.length_append, List.all_append]
  refine ⟨Nat.le_trans (host_len k).1 (Nat.le_add_right _ _), ?_, host_all k, by decide +kernel⟩
  show h.length + 1 ≤ 4
  omega
section
variable {n : Nat} {cc : Cs} {l : Ld}
theorem d_house (L : LandR l) (h : St n cc) : ∃ c2 hs, Mv n cc c2 ∧ hs ∈ l.houses ∧ fn__law_one [.cell n, .d (.lst (l.houses.map dW))] cc = .ok (.d (dW hs)) c2 := by
  have l1 := L.h1
  have l2 := L.h2
  obtain ⟨c2, x, mv, mx, run⟩ := d_one (xs := l.houses.map dW) h (by rw [List.length_map]; omega) (by rw [List.length_map]; omega)
  obtain ⟨hs, mh, rfl⟩ := List.mem_map.mp mx
  exact ⟨c2, hs, mv, mh, run⟩
theorem house_ok (L : LandR l) {hs : Words} (m : hs ∈ l.houses) : okHost hs = true := List.all_eq_true.mp L.ok.houses hs m
theorem d_host (L : LandR l) (h : St n cc) : ∃ c2 hs, Mv n cc c2 ∧ okHost hs = true ∧ fn__law_host [.cell n, .d (dLd l)] cc = .ok (.d (dW hs)) c2 := by
  obtain ⟨c1, hs, m1, mh, r1⟩ := d_house L h
  have kh := house_ok L mh
  have ln := host_len kh
  obtain ⟨c2, w, m2, w0, wm, r2⟩ := d_take (m := 4) m1.st (by decide) (by decide)
  have t : (mT (mOp dEq (mVar 3) (mC (.int 0)))) [some (.cell n), some (.d (dLd l)), some (.d (dW hs)), some (.d (.int w))] c2 = .ok (decide (w = 0)) c2 := t_ok (op_ok rfl rfl rfl)
  have start : ∀ {z : SR}, (sSeq (sIf (mT (mOp dEq (mVar 3) (mC (.int 0)))) (sRet (mSl (mVar 2) oNone (oSome (mOp dAdd (mC (.int 1)) (mCall fn__law_take 2 (mCons (mVar 0) (mCons (mB dLen (mCons (mVar 2) mNil)) mNil)) []))))) sNext)
      (sRet (mIf (mAnd (mT (mOp dEq (mVar 3) (mC (.int 1)))) (mT (mOp dLt (mB dLen (mCons (mVar 2) mNil)) (mC (.int 4))))) (mOp dAdd (mVar 2) (mTup (mCons (mC (.str "z")) mNil))) (mVar 2)))) [some (.cell n), some (.d (dLd l)), some (.d (dW hs)), some (.d (.int w))] c2 = z → fn__law_host_b (env0 4 [.cell n, .d (dLd l)]) cc = z := fun e =>
    (seq_to (put_ok (call_mv (args_mv rfl (args_mv (w := .d (.lst (l.houses.map dW))) rfl args0)) rfl r1))).trans ((seq_to (put_ok (call_mv (args_mv rfl (args_mv rfl args0)) rfl r2))).trans e)
  by_cases e : w = 0
  · rw [decide_eq_true e] at t
    obtain ⟨c3, k, m3, k0, km, r3⟩ := d_take (m := (hs.length : Int)) m2.st (by omega) (by omega)
    have mv := (m1.trans m2).trans m3
    refine ⟨c3, hs.take (1 + k).toNat, mv, host_take kh (by omega), fnOf_rt' (n := 4) (b := fn__law_host_b) mv.ok mv.len (start (seq_rt ((if_yes t).trans (ret_mv (sl_to_mv rfl (op_mv rfl (call_mv (args_mv rfl (args_mv (b1_mv rfl (len_W hs)) args0)) rfl r3) rfl) (cut_W hs (by omega)))))))⟩
  · rw [decide_eq_false e] at t
    have mv := m1.trans m2
    have t2 : Holds [some (.cell n), some (.d (dLd l)), some (.d (dW hs)), some (.d (.int w))] c2 (mAnd (mT (mOp dEq (mVar 3) (mC (.int 1)))) (mT (mOp dLt (mB dLen (mCons (mVar 2) mNil)) (mC (.int 4))))) (decide (w = 1) && decide ((hs.length : Int) < 4)) := and_ok (t_ok (op_ok rfl rfl rfl)) fun _ => t_ok (op_ok (b1_ok rfl (len_W hs)) rfl rfl)
    cases q : (decide (w = 1) && decide ((hs.length : Int) < 4)) with
    | true =>
      rw [q] at t2
      rw [Bool.and_eq_true, decide_eq_true_eq, decide_eq_true_eq] at q
      exact ⟨c2, hs ++ (["z"] : Words), mv, host_more kh (by omega), fnOf_rt' (n := 4) (b := fn__law_host_b) mv.ok mv.len (start ((seq_if_no t).trans (ret_mv (if_mv t2 (fun _ => op_mv rfl (tup_ok (ds := [.str "z"]) rfl (few_cap (show 1 ≤ 1000 by decide))) (add_W hs (["z"] : Words) (by simp only [List.length_cons, List.length_nil]; omega))) (fun z => nomatch z)))))⟩
    | false =>
      rw [q] at t2
      exact ⟨c2, hs, mv, kh, fnOf_rt' (n := 4) (b := fn__law_host_b) mv.ok mv.len (start ((seq_if_no t).trans (ret_mv (if_mv t2 (fun z => nomatch z) (fun _ => rfl)))))⟩
theorem d_wordOf (ws : Words) (good : ws.all okW = true) (ne : 0 < ws.length) (few : ws.length < 1000) (h : St n cc) : ∃ c2 w, Mv n cc c2 ∧ w ∈ ws ∧ okW w = true ∧ fn__law_one [.cell n, .d (.lst (ws.map .str))] cc = .ok (.d (.str w)) c2 := by
  obtain ⟨c2, x, mv, mx, run⟩ := d_one (xs := ws.map .str) h (by rw [List.length_map]; exact ne) (by rw [List.length_map]; omega)
  obtain ⟨w, mw, rfl⟩ := List.mem_map.mp mx
  exact ⟨c2, w, mv, mw, List.all_eq_true.mp good w mw, run⟩
theorem d_coin {m : Int} (hm : 0 < m) (hm2 : m < 1000000) (h : St n cc) : ∃ c2 b, Mv n cc c2 ∧ ∀ env : DL.Env, env[0]? = some (some (.cell n)) → (mOp dEq (mCall fn__law_take 2 (mCons (mVar 0) (mCons (mC (.int m)) mNil)) []) (mC (.int 0))) env cc = .ok (.d (.bl b)) c2 := by
  obtain ⟨c2, r, mv, r0, rm, run⟩ := d_take (m := m) h hm hm2
  refine ⟨c2, decide (r = 0), mv, fun env e => ?_⟩
  have v0 : mVar 0 env cc = .ok (.cell n) cc := by
    unfold mVar
    rw [e]
  exact op_mv (call_mv (args_mv v0 (args_mv rfl args0)) rfl run) rfl rfl
theorem d_slip (L : LandR l) (h : St n cc) : ∃ c2 s, Mv n cc c2 ∧ SlipOk s ∧ fn__law_slip [.cell n, .d (dLd l)] cc = .ok (.d (dSlip s)) c2 := by
  obtain ⟨c1, nm, m1, _, k1, r1⟩ := d_wordOf ["sid", "s", "t", "u"] (by decide +kernel) (by decide) (by decide) h
  obtain ⟨c2, wo, m2, _, k2, r2⟩ := d_wordOf ["one", "two"] (by decide +kernel) (by decide) (by decide) m1.st
  obtain ⟨c3, wd, m3, r3⟩ := d_coin (m := 2) (by decide) (by decide) m2.st
  obtain ⟨c4, hs, m4, k4, r4⟩ := d_host L m3.st
  obtain ⟨c5, p, m5, k5, r5⟩ := d_path m4.st
  obtain ⟨c6, e, m6, k6, r6⟩ := d_end m5.st
  obtain ⟨c7, mk, m7, k7, r7⟩ := d_marks m6.st
  have mv := ((((((m1.trans m2).trans m3).trans m4).trans m5).trans m6).trans m7)
  refine ⟨c7, ⟨nm, wo, hs, wd, p, e, mk⟩, mv, ⟨k1, k2, k4, k5, k6, k7⟩, fnOf_rt' (n := 5) (b := fn__law_slip_b) mv.ok mv.len ?_⟩
  have cap : ∀ k : Nat, k ≤ 1000 → k ≤ CAP := fun k => few_cap
  refine (seq_to (par_mv (args_mv (call_mv (args_mv rfl (args_mv (lst_ok (ds := (["sid", "s", "t", "u"] : Words).map .str) rfl (cap 4 (by decide))) args0)) rfl r1) (args_mv (call_mv (args_mv rfl (args_mv (lst_ok (ds := (["one", "two"] : Words).map .str) rfl (cap 2 (by decide))) args0)) rfl r2) args0)))).trans ?_
  refine (seq_to (put_ok (r3 _ rfl))).trans (ret_mv (tup_mv (ds := [.str nm, .str wo, dW hs, .bl wd, dW p, dEnd e, dW mk]) ?_ (cap 7 (by decide))))
  exact args_mv rfl (args_mv rfl (args_mv (call_mv (args_mv rfl (args_mv rfl args0)) rfl r4) (args_mv rfl (args_mv (call_mv (args_mv rfl args0) rfl r5) (args_mv (call_mv (args_mv rfl args0) rfl r6) (args_mv (call_mv (args_mv rfl args0) rfl r7) args0))))))
theorem put_swap {s : Slip} {h : Words} : dAdd (.tup [.str s.name, .str s.worth]) (.tup [dW h]) = some (.tup [.str s.name, .str s.worth, dW h]) := if_pos (e := none) (few_cap (show 2 + 1 ≤ 1000 by decide))
theorem put_swap2 {s : Slip} {h : Words} : dAdd (.tup [.str s.name, .str s.worth, dW h]) (.tup [.bl s.wide, dW s.path, dEnd s.fin, dW s.marks]) = some (dSlip ⟨s.name, s.worth, h, s.wide, s.path, s.fin, s.marks⟩) := if_pos (e := none) (few_cap (show 3 + 4 ≤ 1000 by decide))
theorem d_put (L : LandR l) (h : St n cc) : ∃ c2 hs c s, Mv n cc c2 ∧ hs ∈ l.houses ∧ SlipOk s ∧ fn__law_put [.cell n, .d (dLd l)] cc = .ok (.d (dDeed (.put hs c s))) c2 := by
  obtain ⟨c1, hs, m1, mh, r1⟩ := d_house L h
  have kh := house_ok L mh
  have ln := host_len kh
  obtain ⟨c2, s, m2, ks, r2⟩ := d_slip L m1.st
  obtain ⟨c3, w, m3, w0, wm, r3⟩ := d_take (m := 4) m2.st (by decide) (by decide)
  have t : (mT (mOp dGt (mCall fn__law_take 2 (mCons (mVar 0) (mCons (mC (.int 4)) mNil)) []) (mC (.int 0)))) [some (.cell n), some (.d (dLd l)), some (.d (dW hs)), some (.d (dSlip s)), none] c2 = .ok (decide (0 < w)) c3 := t_mv (op_mv (call_mv (args_mv rfl (args_mv rfl args0)) rfl r3) rfl rfl)
  have start : ∀ {z : SR}, (sSeq (sIf (mT (mOp dGt (mCall fn__law_take 2 (mCons (mVar 0) (mCons (mC (.int 4)) mNil)) []) (mC (.int 0)))) (sSeq (sSet 4 (mIf (mT (mIx (mVar 3) (mC (.int 3)))) (mSl (mVar 2) oNone (oSome (mOp dAdd (mC (.int 1)) (mCall fn__law_take 2 (mCons (mVar 0) (mCons (mB dLen (mCons (mVar 2) mNil)) mNil)) [])))) (mVar 2)))
      (sSet 3 (mOp dAdd (mOp dAdd (mSl (mVar 3) oNone (oSome (mC (.int 2)))) (mTup (mCons (mVar 4) mNil))) (mSl (mVar 3) (oSome (mC (.int 3))) oNone)))) sNext)
      (sRet (mTup (mCons (mC (.str "put")) (mCons (mVar 2) (mCons (mOp dEq (mCall fn__law_take 2 (mCons (mVar 0) (mCons (mC (.int 2)) mNil)) []) (mC (.int 0))) (mCons (mVar 3) mNil))))))) [some (.cell n), some (.d (dLd l)), some (.d (dW hs)), some (.d (dSlip s)), none] c2 = z → fn__law_put_b (env0 5 [.cell n, .d (dLd l)]) cc = z := fun e =>
    (seq_to (par_mv (args_mv (call_mv (args_mv rfl (args_mv (w := .d (.lst (l.houses.map dW))) rfl args0)) rfl r1) (args_mv (call_mv (args_mv rfl (args_mv rfl args0)) rfl r2) args0)))).trans e
  have cap : ∀ k : Nat, k ≤ 1000 → k ≤ CAP := fun k => few_cap
  have fin : ∀ (o : Option W) (s2 : Slip) (c4 : Cs), SlipOk s2 → Mv n cc c4 → (∀ {z : SR}, (sRet (mTup (mCons (mC (.str "put")) (mCons (mVar 2) (mCons (mOp dEq (mCall fn__law_take 2 (mCons (mVar 0) (mCons (mC (.int 2)) mNil)) []) (mC (.int 0))) (mCons (mVar 3) mNil)))))) [some (.cell n), some (.d (dLd l)), some (.d (dW hs)), some (.d (dSlip s2)), o] c4 = z → fn__law_put_b (env0 5 [.cell n, .d (dLd l)]) cc = z) →
      ∃ c2 hs c s, Mv n cc c2 ∧ hs ∈ l.houses ∧ SlipOk s ∧ fn__law_put [.cell n, .d (dLd l)] cc = .ok (.d (dDeed (.put hs c s))) c2 := by
    intro o s2 c4 k2 m4 go
    obtain ⟨c5, b, m5, r5⟩ := d_coin (m := 2) (by decide) (by decide) m4.st
    have mv := m4.trans m5
    exact ⟨c5, hs, b, s2, mv, mh, k2, fnOf_rt' (n := 5) (b := fn__law_put_b) mv.ok mv.len (go (ret_mv (tup_mv (ds := [.str "put", dW hs, .bl b, dSlip s2]) (args_mv rfl (args_mv rfl (args_mv (r5 _ rfl) (args_mv rfl args0)))) (cap 4 (by decide)))))⟩
  have swap : ∀ (h2 : Words) (c : Cs), (sSet 3 (mOp dAdd (mOp dAdd (mSl (mVar 3) oNone (oSome (mC (.int 2)))) (mTup (mCons (mVar 4) mNil))) (mSl (mVar 3) (oSome (mC (.int 3))) oNone))) [some (.cell n), some (.d (dLd l)), some (.d (dW hs)), some (.d (dSlip s)), some (.d (dW h2))] c = .nx [some (.cell n), some (.d (dLd l)), some (.d (dW hs)), some (.d (dSlip ⟨s.name, s.worth, h2, s.wide, s.path, s.fin, s.marks⟩)), some (.d (dW h2))] c := fun h2 c =>
    put_ok (op_ok (op_ok (x := .tup [.str s.name, .str s.worth]) rfl (tup_ok (ds := [dW h2]) rfl (cap 1 (by decide))) put_swap) (y := .tup [.bl s.wide, dW s.path, dEnd s.fin, dW s.marks]) rfl put_swap2)
  by_cases e : 0 < w
  · rw [decide_eq_true e] at t
    cases q : s.wide with
    | true =>
      obtain ⟨c4, k, m4, k0, km, r4⟩ := d_take (m := (hs.length : Int)) m3.st (by omega) (by omega)
      have tw : (mT (mIx (mVar 3) (mC (.int 3)))) [some (.cell n), some (.d (dLd l)), some (.d (dW hs)), some (.d (dSlip s)), none] c3 = .ok true c3 := q ▸ (rfl : (mT (mIx (mVar 3) (mC (.int 3)))) [some (.cell n), some (.d (dLd l)), some (.d (dW hs)), some (.d (dSlip s)), none] c3 = .ok s.wide c3)
      refine fin _ ⟨s.name, s.worth, hs.take (1 + k).toNat, s.wide, s.path, s.fin, s.marks⟩ c4 ⟨ks.name, ks.worth, host_take kh (by omega), ks.path, ks.fin, ks.marks⟩ ((((m1.trans m2).trans m3)).trans m4) (fun e2 => start ((seq_to (if_next t ((seq_to (put_ok (if_mv tw (fun _ => sl_to_mv rfl (op_mv rfl (call_mv (args_mv rfl (args_mv (b1_mv rfl (len_W hs)) args0)) rfl r4) rfl) (cut_W hs (by omega))) (fun z => nomatch z)))).trans (swap _ _)))).trans e2))
    | false =>
      have tw : (mT (mIx (mVar 3) (mC (.int 3)))) [some (.cell n), some (.d (dLd l)), some (.d (dW hs)), some (.d (dSlip s)), none] c3 = .ok false c3 := q ▸ (rfl : (mT (mIx (mVar 3) (mC (.int 3)))) [some (.cell n), some (.d (dLd l)), some (.d (dW hs)), some (.d (dSlip s)), none] c3 = .ok s.wide c3)
      refine fin _ ⟨s.name, s.worth, hs, s.wide, s.path, s.fin, s.marks⟩ c3 ⟨ks.name, ks.worth, kh, ks.path, ks.fin, ks.marks⟩ ((m1.trans m2).trans m3) (fun e2 => start ((seq_to (if_next t ((seq_to (put_ok (if_mv (w := .d (dW hs)) tw (fun z => nomatch z) (fun _ => rfl)))).trans (swap _ _)))).trans e2))
  · rw [decide_eq_false e] at t
    exact fin none s c3 ks ((m1.trans m2).trans m3) (fun e2 => start ((seq_to (if_skip t)).trans e2))
end
end Lw
set_option Elab.async false
set_option linter.all false
set_option maxRecDepth 100000
set_option maxHeartbeats 3900000
/-! DU: drawn rules. -/
namespace Lw
open PySem PySem.Spec PyProof.Rows L2 DL Ty
section
variable {n : Nat} {base B c2 : Cs}
theorem St.more {c : C} (h : St n base) (k : okBelow (base.length + 1) [some c] = true) : St n (base ++ [some c]) := by
  obtain ⟨a, b, ha, e⟩ := h.pool
  refine ⟨?_, a, b, ha, ?_⟩
  · have len : (base ++ [some c]).length = base.length + 1 := by simp
    rw [len]
    exact below_more h.ok k
  · rw [List.getElem?_append_left h.lt]
    exact e
theorem Mv.down {x : Option C} (h : St n base) (m : Mv n (base ++ [x]) c2) : ∃ b2, c2 = b2 ++ [x] ∧ Mv n base b2 := by
  obtain ⟨a, b, e⟩ := m.eq
  obtain ⟨a', b', ha, e2⟩ := m.st.pool
  have lt : n < (base ++ [x]).length := by
    rw [List.length_append]
    exact Nat.lt_of_lt_of_le h.lt (Nat.le_add_right _ _)
  rw [e, List.getElem?_set_self lt] at e2
  cases e2
  exact ⟨base.set n (some (.lst [.int a, .int b])), by rw [e, List.set_append_left _ _ h.lt], Mv.of h ha⟩
end
theorem app_mv {env : DL.Env} {c : Cs} {mo : ME} {r : DL.Env → M (List W)} {ds ds0 : List D} {x : D} {B B0 : Cs} (ho : mo env c = .ok (.cell B0.length) c) (hc : c = B0 ++ [some (.lst ds0)]) (h : r env c = .ok [.d x] (B ++ [some (.lst ds)])) (len : B.length = B0.length) (few : ds.length < 1000) :
    sExpr (mLm gApp mo r) env c = .nx env (B ++ [some (.lst (ds ++ [x]))]) := by
  have one : isLstC c (.cell B0.length) = true := by
    rw [hc]
    show (match (B0 ++ [some (C.lst ds0)])[B0.length]? with | some (some (.lst _)) => true | _ => false) = true
    rw [at_end]
  have cap : ds.length < CAP := Nat.lt_of_lt_of_le few (few_cap (Nat.le_refl _))
  have run : mLm gApp mo r env c = .ok (.d .non) (B ++ [some (.lst (ds ++ [x]))]) := by
    unfold mLm
    rw [ho]
    simp only [R.bind, one, if_true]
    rw [h]
    simp only [R.bind, allD]
    rw [← len, at_end]
    simp only [gApp, cap, if_true, set_end]
  exact exp_ok run
theorem puti_end {B : Cs} {ks ks' : List D} {ws ws' : List W} {x : PySem.Str} {w : W} (few : ks.length < 1000) (q : putW ks ws (.inr x) w = (ks', ws')) : putI (B ++ [some (.dct ks ws)]) (.cell B.length) (.d (.str x)) w = some (B ++ [some (.dct ks' ws')]) := by
  have cap : ks.length < CAP := Nat.lt_of_lt_of_le few (few_cap (Nat.le_refl _))
  unfold putI
  simp only [see, at_end, asKey, cap, if_true, q, set_end]
theorem put1_mv {env : DL.Env} {c : Cs} {m mo : ME} {B : Cs} {ks ks' : List D} {ws ws' : List W} {x : PySem.Str} {w : W} (h : m env c = .ok w (B ++ [some (.dct ks ws)])) (ho : mo env (B ++ [some (.dct ks ws)]) = .ok (.cell B.length) (B ++ [some (.dct ks ws)])) (few : ks.length < 1000) (q : putW ks ws (.inr x) w = (ks', ws')) :
    sPutI m mo (mC (.str x)) env c = .nx env (B ++ [some (.dct ks' ws')]) := by
  unfold sPutI
  rw [h]
  simp only [R.thenS]
  rw [ho]
  simp only [mC, puti_end few q]
theorem put2_mv {env : DL.Env} {c : Cs} {r : DL.Env → M (List W)} {mo : ME} {B : Cs} {ks k1 k2 : List D} {ws w1 w2 : List W} {x y : PySem.Str} {w u : W} (h : r env c = .ok [w, u] (B ++ [some (.dct ks ws)])) (ho : ∀ ks ws, mo env (B ++ [some (.dct ks ws)]) = .ok (.cell B.length) (B ++ [some (.dct ks ws)])) (few : ks.length < 1000) (few1 : k1.length < 1000)
    (q1 : putW ks ws (.inr x) w = (k1, w1)) (q2 : putW k1 w1 (.inr y) u = (k2, w2)) : sPut2 r mo (mC (.str x)) mo (mC (.str y)) env c = .nx env (B ++ [some (.dct k2 w2)]) := by
  unfold sPut2
  rw [h]
  simp only [R.thenS]
  rw [ho]
  simp only [mC, puti_end few q1]
  rw [ho]
  simp only [puti_end few1 q2]
def condsD : List D := [.str "closed", .str "own", .str "whole"]
theorem d_conds {c : Cs} {n : Nat} (h : St n c) : ∃ c2 ws, Mv n c c2 ∧ okOf condsW ws = true ∧ ws ≠ [] ∧ ∀ env : DL.Env, env[0]? = some (some (.cell n)) →
    (mB dTuple (mCons (mB dSorted (mCons (mSl (mCall fn__law_turned 2 (mCons (mVar 0) (mCons (mLst (mCons (mC (.str "closed")) (mCons (mC (.str "own")) (mCons (mC (.str "whole")) mNil)))) mNil)) []) oNone (oSome (mOp dAdd (mC (.int 1)) (mCall fn__law_take 2 (mCons (mVar 0) (mCons (mC (.int 2)) mNil)) [])))) mNil)) mNil)) env c = .ok (.d (dW ws)) c2 := by
  obtain ⟨c1, o1, m1, p1, r1⟩ := d_turned (ds := condsD) h (by decide) (by decide +kernel)
  obtain ⟨c2, k, m2, k0, km, r2⟩ := d_take (m := 2) m1.st (by decide) (by decide)
  have mv := m1.trans m2
  obtain ⟨ys, py, rfl⟩ := perm_map D.str p1 condsW rfl
  have good : ∀ ys : Words, ys.Perm condsW → ∀ k, 1 ≤ k → k ≤ 2 → okOf condsW (sortS (ys.take k)) = true ∧ (sortS (ys.take k)).isEmpty = false := by
    intro ys py k k1 k3
    have chk : ∀ ys ∈ orders condsW, ∀ k ∈ [1, 2], okOf condsW (sortS (ys.take k)) = true ∧ (sortS (ys.take k)).isEmpty = false := by decide +kernel
    exact chk ys (mem_orders condsW ys py) k (by simp only [List.mem_cons, List.not_mem_nil, or_false]; omega)
  have g := good ys py (1 + k).toNat (by omega) (by omega)
  refine ⟨c2, sortS (ys.take (1 + k).toNat), mv, g.1, ?_, fun env e => ?_⟩
  · intro z
    rw [z] at g
    exact absurd g.2 (by decide)
  · have v0 : ∀ c, mVar 0 env c = .ok (.cell n) c := by
      intro c
      unfold mVar
      rw [e]
    have e1 : (ys.map D.str).take (1 + k).toNat = (ys.take (1 + k).toNat).map .str := (List.map_take ..).symm
    refine b1_mv (x := .lst ((sortS (ys.take (1 + k).toNat)).map .str)) (b1_mv (sl_to_mv (i := 1 + k) (call_mv (args_mv (v0 _) (args_mv (lst_ok (ds := condsD) rfl (few_cap (show 3 ≤ 1000 by decide))) args0)) rfl r1) (op_mv rfl (call_mv (args_mv (v0 _) (args_mv rfl args0)) rfl r2) rfl) (cut_lst _ (by omega))) ?_) rfl
    rw [e1]
    show (match strsOf ((ys.take (1 + k).toNat).map .str) with | some xs => if xs.length < 64 then some (D.lst ((sortS xs).map .str)) else none | none => none) = _
    rw [strs_map]
    exact if_pos (by rw [List.length_take]; omega)
def dRow (p : PySem.Str × Words) : D := .tup [.str p.1, dW p.2]
/-- a drawn name rule is right -/
def RowOk (p : PySem.Str × Words) : Prop := (okW p.1 = true ∧ okOf condsW p.2 = true) ∧ p.2 ≠ []
def rowB : MS := sSeq (sSet 4 (mB dTuple (mCons (mB dSorted (mCons (mSl (mCall fn__law_turned 2 (mCons (mVar 0) (mCons (mLst (mCons (mC (.str "closed")) (mCons (mC (.str "own")) (mCons (mC (.str "whole")) mNil)))) mNil)) []) oNone (oSome (mOp dAdd (mC (.int 1)) (mCall fn__law_take 2 (mCons (mVar 0) (mCons (mC (.int 2)) mNil)) [])))) mNil)) mNil)))
    (sExpr (mLm gApp (mVar 2) (mCons (mTup (mCons (mCall fn__law_one 2 (mCons (mVar 0) (mCons (mLst (mCons (mC (.str "s")) (mCons (mC (.str "sid")) (mCons (mC (.str "t")) (mCons (mC (.str "x")) mNil))))) mNil)) []) (mCons (mVar 4) mNil))) mNil)))
theorem rows_loop {n : Nat} {t : D} {k : Nat} : ∀ (is : List Nat) (B : Cs) (rows : List (PySem.Str × Words)) (o3 o4 o5 : Option W), St n B → B.length = k → rows.length + is.length ≤ 6 → (∀ p ∈ rows, RowOk p) →
    ∃ (B2 : Cs) (rows2 : List (PySem.Str × Words)) (p3 p4 : Option W), Mv n B B2 ∧ rows2.length = rows.length + is.length ∧ (∀ p ∈ rows2, RowOk p) ∧
      forL (gvName 3) rowB (is.map fun i : Nat => D.int (0 + (i : Int))) [some (.cell n), some (.d t), some (.cell k), o3, o4, o5] (B ++ [some (.lst (rows.map dRow))]) = .nx [some (.cell n), some (.d t), some (.cell k), p3, p4, o5] (B2 ++ [some (.lst (rows2.map dRow))])
  | [], B, rows, o3, o4, o5, S, hk, _, ok => ⟨B, rows, o3, o4, Mv.refl S, rfl, ok, rfl⟩
  | i :: is, B, rows, o3, o4, o5, S, hk, few, ok => by
    rw [List.length_cons] at few
    have S1 : St n (B ++ [some (.lst (rows.map dRow))]) := S.more rfl
    obtain ⟨c1, ws, m1, w1, w2, r1⟩ := d_conds S1
    obtain ⟨B1, rfl, mb1⟩ := Mv.down S m1
    obtain ⟨c2, nm, m2, _, k2, r2⟩ := d_wordOf ["s", "sid", "t", "x"] (by decide +kernel) (by decide) (by decide) m1.st
    obtain ⟨B2, rfl, mb2⟩ := Mv.down mb1.st m2
    have good : ∀ p ∈ rows ++ [(nm, ws)], RowOk p := by
      intro p m
      rcases List.mem_append.mp m with m | m
      · exact ok p m
      · rw [List.mem_singleton.mp m]
        exact ⟨⟨k2, w1⟩, w2⟩
    have mb := mb1.trans mb2
    obtain ⟨B3, rows3, p3, p4, m3, l3, g3, run⟩ := rows_loop (t := t) (k := k) is B2 (rows ++ [(nm, ws)]) (some (.d (.int (0 + (i : Int))))) (some (.d (dW ws))) o5 mb2.st (mb.len.trans hk) (by rw [List.length_append, List.length_singleton]; omega) good
    refine ⟨B3, rows3, p3, p4, mb.trans m3, by rw [l3, List.length_append, List.length_singleton, List.length_cons]; omega, g3, ?_⟩
    have one : rowB [some (.cell n), some (.d t), some (.cell k), some (.d (.int (0 + (i : Int)))), o4, o5] (B ++ [some (.lst (rows.map dRow))]) = .nx [some (.cell n), some (.d t), some (.cell k), some (.d (.int (0 + (i : Int)))), some (.d (dW ws)), o5] (B2 ++ [some (.lst ((rows ++ [(nm, ws)]).map dRow))]) := by
      refine (seq_to (put_ok (r1 _ rfl))).trans ?_
      rw [List.map_append]
      refine app_mv (B0 := B1) (ds0 := rows.map dRow) (x := dRow (nm, ws)) ?_ rfl (args_mv (tup_mv (ds := [.str nm, dW ws]) (args_mv (call_mv (args_mv rfl (args_mv (lst_ok (ds := (["s", "sid", "t", "x"] : Words).map .str) rfl (few_cap (show 4 ≤ 1000 by decide))) args0)) rfl r2) (args_mv rfl args0)) (few_cap (show 2 ≤ 1000 by decide))) args0) mb2.len (by rw [List.length_map]; omega)
      rw [mb1.len, hk]
      rfl
    rw [List.map_cons, forL]
    show (match rowB [some (.cell n), some (.d t), some (.cell k), some (.d (.int (0 + (i : Int)))), o4, o5] (B ++ [some (.lst (rows.map dRow))]) with
      | .nx e c => forL (gvName 3) rowB (is.map fun i : Nat => D.int (0 + (i : Int))) e c
      | .ct e c => forL (gvName 3) rowB (is.map fun i : Nat => D.int (0 + (i : Int))) e c
      | .bk e c => SR.nx e c
      | .rt w c => .rt w c
      | .raise x e c => .raise x e c
      | .stuck => .stuck) = _
    rw [one]
    exact run
end Lw
set_option Elab.async false
set_option linter.all false
set_option maxRecDepth 100000
set_option maxHeartbeats 3900000
/-! DV: drawn rules, all of them; lands and rules made of what was drawn. -/
namespace Lw
open PySem PySem.Spec PyProof.Rows L2 DL Ty
section
variable {n : Nat} {env env' : DL.Env} {cc c1 c2 B : Cs}
theorem Mv.down2 {x : C} {y : Option C} (h : St n B) (k : okBelow (B.length + 1) [some x] = true) (m : Mv n ((B ++ [some x]) ++ [y]) c2) : ∃ b2, c2 = (b2 ++ [some x]) ++ [y] ∧ Mv n B b2 := by
  obtain ⟨b1, rfl, m1⟩ := Mv.down (h.more k) m
  obtain ⟨b2, rfl, m2⟩ := Mv.down h m1
  exact ⟨b2, rfl, m2⟩
theorem rng_mv {m : ME} {i : Int} (h : m env cc = .ok (.d (.int i)) c1) (h0 : 0 ≤ i) (h1 : i ≤ 1000) : mRng1 m env cc = .ok (rangeOf 0 i.toNat) c1 := by
  unfold mRng1
  rw [h]
  simp only [R.bind, okR_few h0 h1, if_true]
theorem for_mv {mi : DL.Env → M (List D)} {G : Tg} {b : MS} {xs : List D} (h : mi env cc = .ok xs c1) (r : forL G b xs env c1 = .nx env' c2) : sFor mi G b env cc = .nx env' c2 := by
  unfold sFor
  rw [h]
  exact r
theorem vals2 {m k : ME} {x y : D} (h : m env cc = .ok (.d x) c1) (h2 : k env c1 = .ok (.d y) c2) : mVals [m, k] env cc = .ok [x, y] c2 := by
  unfold mVals
  rw [h]
  simp only
  unfold mVals
  rw [h2]
  rfl
theorem dctC_mv {ks : List Key} {ms : List ME} {xs : List D} (h : mVals ms env cc = .ok xs c1) (q : xs.length = ks.length ∧ ks.length ≤ 15 ∧ onceK ks = true) : mDctC ks ms env cc = .ok (.cell c1.length) (c1 ++ [some (.dct (ks.map keyD) (xs.map .d))]) := by
  unfold mDctC
  rw [h]
  exact if_pos q
theorem lstC_ok : mLstC mNil env cc = .ok (.cell cc.length) (cc ++ [some (.lst [])]) := by
  have c : ([] : List D).length ≤ CAP := Nat.zero_le _
  unfold mLstC
  simp only [mNil, R.bind, allD, c, if_true]
theorem frzL_all : ∀ (xs : List D) (c : Cs), frzL c (xs.map .d) = some (xs, c)
  | [], _ => rfl
  | x :: xs, c => by simp only [List.map_cons, frzL, frz0, frzL_all xs c]
end
theorem d_rules {n : Nat} {cc : Cs} {top : Int} (h : St n cc) (h1 : 1 ≤ top) (h6 : top ≤ 6) : ∃ c2 r, Mv n cc c2 ∧ RlOk r ∧ (∀ p ∈ r.names, p.2 ≠ []) ∧ fn__law_rules [.cell n, .d (.int top)] cc = .ok (.d (dctR r)) c2 := by
  have lt := h.lt
  -- the rows
  obtain ⟨d1, k, m1, k0, km, r1⟩ := d_take (m := 3) (h.more (c := .lst []) rfl) (by decide) (by decide)
  obtain ⟨B1, rfl, mb1⟩ := Mv.down h m1
  obtain ⟨B2, rows, p3, p4, mb2, lr, good, loop⟩ := rows_loop (n := n) (t := .int top) (k := cc.length) (List.range k.toNat) B1 [] none none none mb1.st mb1.len (by simp; omega) (fun _ m => nomatch m)
  have lenR : rows.length ≤ 2 := by
    rw [lr, List.length_range]
    simp only [List.length_nil]
    omega
  have b2 := mb1.trans mb2
  -- most, wide_key
  obtain ⟨d3, q, m3, q0, qm, r3⟩ := d_take (m := top) (b2.st.more (c := .lst (rows.map dRow)) rfl) (by omega) (by omega)
  obtain ⟨B3, rfl, mb3⟩ := Mv.down b2.st m3
  have b3 := b2.trans mb3
  obtain ⟨d4, wk, m4, r4⟩ := d_coin (m := 2) (by decide) (by decide) (b3.st.more (c := .lst (rows.map dRow)) rfl)
  obtain ⟨B4, rfl, mb4⟩ := Mv.down b3.st m4
  have b4 := b3.trans mb4
  -- renewed, guarded
  obtain ⟨d5, rn, m5, r5⟩ := d_coin (m := 3) (by decide) (by decide) ((b4.st.more (c := .lst (rows.map dRow)) rfl).more (c := .dct [.str "most", .str "wide_key"] [.d (.int (1 + q)), .d (.bl wk)]) rfl)
  obtain ⟨B5, rfl, mb5⟩ := Mv.down2 b4.st rfl m5
  have b5 := b4.trans mb5
  obtain ⟨d6, gd, m6, r6⟩ := d_coin (m := 2) (by decide) (by decide) ((b5.st.more (c := .lst (rows.map dRow)) rfl).more (c := .dct [.str "most", .str "wide_key"] [.d (.int (1 + q)), .d (.bl wk)]) rfl)
  obtain ⟨B6, rfl, mb6⟩ := Mv.down2 b5.st rfl m6
  have b6 := b5.trans mb6
  -- drop, first
  obtain ⟨d7, dr, m7, dm, _, r7⟩ := d_wordOf ["eldest", "plain"] (by decide +kernel) (by decide) (by decide) ((b6.st.more (c := .lst (rows.map dRow)) rfl).more (c := .dct [.str "most", .str "wide_key", .str "renewed", .str "guarded"] [.d (.int (1 + q)), .d (.bl wk), .d (.bl rn), .d (.bl gd)]) rfl)
  obtain ⟨B7, rfl, mb7⟩ := Mv.down2 b6.st rfl m7
  have b7 := b6.trans mb7
  obtain ⟨d8, fs, m8, fm, _, r8⟩ := d_wordOf ["elder", "younger"] (by decide +kernel) (by decide) (by decide) ((b7.st.more (c := .lst (rows.map dRow)) rfl).more (c := .dct [.str "most", .str "wide_key", .str "renewed", .str "guarded"] [.d (.int (1 + q)), .d (.bl wk), .d (.bl rn), .d (.bl gd)]) rfl)
  obtain ⟨B8, rfl, mb8⟩ := Mv.down2 b7.st rfl m8
  have b8 := b7.trans mb8
  refine ⟨B8, ⟨1 + q, wk, rn, gd, dr, fs, rows⟩, b8, ⟨?_, ?_, ?_, ?_, fun p m => (good p m).1, ?_⟩, fun p m => (good p m).2, ?_⟩
  · show 1 ≤ 1 + q
    omega
  · show 1 + q ≤ 6
    omega
  · simpa using dm
  · simpa using fm
  · show rows.length ≤ 6
    omega
  have cap : ∀ k : Nat, k ≤ 1000 → k ≤ CAP := fun k => few_cap
  have at5 : ∀ (X : Cs) (x : C), X.length = cc.length → (X ++ [some x]).length = cc.length + 1 := by
    intro X x e
    rw [List.length_append, e]
    rfl
  have L4 := at5 B4 (.lst (rows.map dRow)) b4.len
  have L6 := at5 B6 (.lst (rows.map dRow)) b6.len
  have L8 := at5 B8 (.lst (rows.map dRow)) b8.len
  let envF : DL.Env := [some (.cell n), some (.d (.int top)), some (.cell cc.length), p3, p4, some (.cell (cc.length + 1))]
  have body : fn__law_rules_b (env0 6 [.cell n, .d (.int top)]) cc = .rt (.cell (cc.length + 1)) ((B8 ++ [some (.lst (rows.map dRow))]) ++ [some (.dct [.str "most", .str "wide_key", .str "renewed", .str "guarded", .str "drop", .str "first", .str "names"] (([.int (1 + q), .bl wk, .bl rn, .bl gd, .str dr, .str fs, dNames rows] : List D).map .d))]) := by
    refine (seq_to (put_ok lstC_ok)).trans ?_
    refine (seq_to (for_mv (rng_mv (call_mv (args_mv rfl (args_mv rfl args0)) rfl r1) k0 (by omega)) loop)).trans ?_
    have s5 : (sSet 5 (mDctC [.inr "most", .inr "wide_key"] [(mOp dAdd (mC (.int 1)) (mCall fn__law_take 2 (mCons (mVar 0) (mCons (mVar 1) mNil)) [])), (mOp dEq (mCall fn__law_take 2 (mCons (mVar 0) (mCons (mC (.int 2)) mNil)) []) (mC (.int 0)))])) [some (.cell n), some (.d (.int top)), some (.cell cc.length), p3, p4, none] (B2 ++ [some (.lst (rows.map dRow))]) = .nx envF ((B4 ++ [some (.lst (rows.map dRow))]) ++ [some (.dct [.str "most", .str "wide_key"] [.d (.int (1 + q)), .d (.bl wk)])]) := by
      have vv : mVals [(mOp dAdd (mC (.int 1)) (mCall fn__law_take 2 (mCons (mVar 0) (mCons (mVar 1) mNil)) [])), (mOp dEq (mCall fn__law_take 2 (mCons (mVar 0) (mCons (mC (.int 2)) mNil)) []) (mC (.int 0)))] [some (.cell n), some (.d (.int top)), some (.cell cc.length), p3, p4, none] (B2 ++ [some (.lst (rows.map dRow))]) = .ok [.int (1 + q), .bl wk] (B4 ++ [some (.lst (rows.map dRow))]) :=
        vals2 (op_mv rfl (call_mv (args_mv rfl (args_mv rfl args0)) rfl r3) rfl) (r4 _ rfl)
      have s := put_ok (i := 5) (dctC_mv (ks := [.inr "most", .inr "wide_key"]) vv ⟨rfl, by decide, by decide +kernel⟩)
      rw [L4] at s
      exact s
    refine (seq_to s5).trans ?_
    have v5 : ∀ (X : Cs) (ks : List D) (ws : List W), X.length = cc.length + 1 → (mVar 5) envF (X ++ [some (.dct ks ws)]) = .ok (.cell X.length) (X ++ [some (.dct ks ws)]) := by
      intro X ks ws e
      rw [e]
      rfl
    refine (seq_to (put2_mv (k1 := [.str "most", .str "wide_key", .str "renewed"]) (w1 := [.d (.int (1 + q)), .d (.bl wk), .d (.bl rn)]) (k2 := [.str "most", .str "wide_key", .str "renewed", .str "guarded"]) (w2 := [.d (.int (1 + q)), .d (.bl wk), .d (.bl rn), .d (.bl gd)]) (args_mv (r5 _ rfl) (args_mv (r6 _ rfl) args0)) (fun ks ws => v5 _ ks ws L6) (show 2 < 1000 by decide) (show 3 < 1000 by decide) rfl rfl)).trans ?_
    refine (seq_to (put2_mv (k1 := [.str "most", .str "wide_key", .str "renewed", .str "guarded", .str "drop"]) (w1 := [.d (.int (1 + q)), .d (.bl wk), .d (.bl rn), .d (.bl gd), .d (.str dr)]) (k2 := [.str "most", .str "wide_key", .str "renewed", .str "guarded", .str "drop", .str "first"]) (w2 := [.d (.int (1 + q)), .d (.bl wk), .d (.bl rn), .d (.bl gd), .d (.str dr), .d (.str fs)]) (args_mv (call_mv (args_mv rfl (args_mv (lst_ok (ds := (["eldest", "plain"] : Words).map .str) rfl (cap 2 (by decide))) args0)) rfl r7) (args_mv (call_mv (args_mv rfl (args_mv (lst_ok (ds := (["elder", "younger"] : Words).map .str) rfl (cap 2 (by decide))) args0)) rfl r8) args0)) (fun ks ws => v5 _ ks ws L8) (show 4 < 1000 by decide) (show 5 < 1000 by decide) rfl rfl)).trans ?_
    have nm : (mB dTuple (mCons (mVar 2) mNil)) envF ((B8 ++ [some (.lst (rows.map dRow))]) ++ [some (.dct [.str "most", .str "wide_key", .str "renewed", .str "guarded", .str "drop", .str "first"] [.d (.int (1 + q)), .d (.bl wk), .d (.bl rn), .d (.bl gd), .d (.str dr), .d (.str fs)])]) = .ok (.d (dNames rows)) ((B8 ++ [some (.lst (rows.map dRow))]) ++ [some (.dct [.str "most", .str "wide_key", .str "renewed", .str "guarded", .str "drop", .str "first"] [.d (.int (1 + q)), .d (.bl wk), .d (.bl rn), .d (.bl gd), .d (.str dr), .d (.str fs)])]) := by
      refine bi_mv (xs := [.lst (rows.map dRow)]) (args_mv (w := .cell cc.length) rfl args0) ?_ rfl
      have e : ((B8 ++ [some (C.lst (rows.map dRow))]) ++ [some (C.dct [.str "most", .str "wide_key", .str "renewed", .str "guarded", .str "drop", .str "first"] [.d (.int (1 + q)), .d (.bl wk), .d (.bl rn), .d (.bl gd), .d (.str dr), .d (.str fs)])])[cc.length]? = some (some (.lst (rows.map dRow))) := by
        rw [List.getElem?_append_left (by rw [L8]; exact Nat.lt_succ_self _), ← b8.len]
        exact at_end
      simp only [seeAll, see, e]
    refine (seq_to (put1_mv (ks' := [.str "most", .str "wide_key", .str "renewed", .str "guarded", .str "drop", .str "first", .str "names"]) (ws' := [.d (.int (1 + q)), .d (.bl wk), .d (.bl rn), .d (.bl gd), .d (.str dr), .d (.str fs), .d (dNames rows)]) nm (v5 _ _ _ L8) (show 6 < 1000 by decide) rfl)).trans ?_
    rfl
  unfold fn__law_rules fnOf
  rw [body]
  have up : ¬ cc.length + 1 < cc.length := by omega
  simp only [endFn, up, if_false]
  have f : frz ((B8 ++ [some (C.lst (rows.map dRow))]) ++ [some (C.dct [.str "most", .str "wide_key", .str "renewed", .str "guarded", .str "drop", .str "first", .str "names"] (([.int (1 + q), .bl wk, .bl rn, .bl gd, .str dr, .str fs, dNames rows] : List D).map .d))]) (.cell (cc.length + 1)) = some (dctR ⟨1 + q, wk, rn, gd, dr, fs, rows⟩, (B8 ++ [some (C.lst (rows.map dRow))]) ++ [none]) := by
    rw [← L8]
    simp only [frz, at_end, set_end, frzL_all]
    rfl
  rw [f]
  simp only [cut]
  have tk : ((B8 ++ [some (C.lst (rows.map dRow))]) ++ [none]).take cc.length = B8 := by
    rw [List.append_assoc, ← b8.len]
    simp
  rw [tk]
  exact if_pos ⟨b8.ok, rfl⟩
end Lw
set_option Elab.async false
set_option linter.all false
set_option maxRecDepth 100000
set_option maxHeartbeats 3900000
/-! DM: lands and rules made of what was drawn. -/
namespace Lw
open PySem PySem.Spec PyProof.Rows L2 DL Ty
theorem d_made_land {cc : Cs} {l : Ld} (ok : okBelow cc.length cc = true) (L : LandR l) : fn__law_made_land [.d (dLd l)] cc = .ok (.d (dLand l)) cc :=
  fnOf_rt (n := 1) (b := fn__law_made_land_b) ok (ret_ok (s_land ok (args (ix_ok (x := dLd l) (z := .lst (l.houses.map dW)) rfl rfl rfl) (args (ix_ok (x := dLd l) (z := .lst (l.common.map dW)) rfl rfl rfl) args0)) L.ok L.n1 L.n2 L.h1 L.h2 L.h3))
theorem d_made_rules {cc : Cs} {r : Rl} (ok : okBelow cc.length cc = true) (k : RlOk r) (some1 : ∀ p ∈ r.names, p.2 ≠ []) : fn__law_made_rules [.d (dctR r)] cc = .ok (.d (dRules r)) cc :=
  fnOf_rt (n := 1) (b := fn__law_made_rules_b) ok (ret_ok (s_rules ok (ws := [.d (.int r.most)]) (zs := [.d (.bl r.wideKey), .d (.bl r.renewed), .d (.bl r.guarded), .d (.str r.drop), .d (.str r.first), .d (dNames r.names)])
    (args (ix_ok (x := dctR r) (z := .int r.most) rfl rfl rfl) args0)
    (args (ix_ok (x := dctR r) (z := .bl r.wideKey) rfl rfl rfl) (args (ix_ok (x := dctR r) (z := .bl r.renewed) rfl rfl rfl) (args (ix_ok (x := dctR r) (z := .bl r.guarded) rfl rfl rfl) (args (ix_ok (x := dctR r) (z := .str r.drop) rfl rfl rfl) (args (ix_ok (x := dctR r) (z := .str r.first) rfl rfl rfl) (args (ix_ok (x := dctR r) (z := dNames r.names) rfl rfl rfl) args0)))))) rfl rfl rfl k some1))
end Lw
set_option Elab.async false
set_option linter.all false
set_option maxRecDepth 100000
set_option maxHeartbeats 3900000
/-! GL: loops by what holds, laws over drawn scripts, more forms. -/
namespace Lw
open PySem PySem.Spec PyProof.Rows L2 DL Ty
/-- a loop by what holds ahead of each of its turns -/
theorem for_inv {G : Tg} {b : MS} (I : List D → DL.Env → Cs → Prop)
    (step : ∀ x xs env cc, I (x :: xs) env cc → ∃ e0 env' cc', G (.d x) env cc = some e0 ∧ b e0 cc = .nx env' cc' ∧ I xs env' cc') :
    ∀ (xs : List D) (env : DL.Env) (cc : Cs), I xs env cc → ∃ env' cc', forL G b xs env cc = .nx env' cc' ∧ I [] env' cc'
  | [], env, cc, h => ⟨env, cc, rfl, h⟩
  | x :: xs, env, cc, h => by
    obtain ⟨e0, e1, c1, h1, h2, h3⟩ := step x xs env cc h
    obtain ⟨e2, c2, h4, h5⟩ := for_inv I step xs e1 c1 h3
    refine ⟨e2, c2, ?_, h5⟩
    simp only [forL, h1, h2, h4]
/-- a slot that holds no cell -/
def datO : Option W → Bool
  | none => true
  | some (.d _) => true
  | some (.cell _) => false
abbrev Dats (os : List (Option W)) : Prop := os.all datO = true
theorem below_dats {n : Nat} : ∀ {os : List (Option W)}, Dats os → envBelow n os = true
  | [], _ => rfl
  | o :: os, h => by
    have h' : (datO o && os.all datO) = true := h
    rw [Bool.and_eq_true] at h'
    have r := below_dats (n := n) h'.2
    cases o with
    | none => exact r
    | some w =>
      cases w with
      | d x => exact r
      | cell k => exact nomatch h'.1
theorem dats_cons {o : Option W} {os : List (Option W)} : Dats (o :: os) ↔ datO o = true ∧ Dats os := by
  show (datO o && os.all datO) = true ↔ _
  rw [Bool.and_eq_true]
/-- the outer loop of a law over drawn scripts: B a turn, behind which slot 2 is forgotten -/
theorem drawn_turns {N : Nat} {B : MS} (body : ∀ (ns : List Int) (i : Nat) (os : List (Option W)), i < 100 → os.length = N → Dats os →
      ∃ os' p c2, B (some (.d (.scr (ns.map .int))) :: some (.d (.int i)) :: none :: os) [] = .nx (some (.d (.scr (ns.map .int))) :: some (.d (.int i)) :: p :: os') c2 ∧ os'.length = N ∧ Dats os') (ns : List Int) :
    ∀ (is : List Nat) (o1 : Option W) (os : List (Option W)), (∀ i ∈ is, i < 100) → os.length = N → Dats os →
      ∃ env', forL (gvName 1) (sScope [2] B) (is.map fun i : Nat => D.int (0 + (i : Int))) (some (.d (.scr (ns.map .int))) :: o1 :: none :: os) [] = .nx env' []
  | [], _, _, _, _, _ => ⟨_, rfl⟩
  | i :: is, o1, os, few, len, dat => by
    obtain ⟨os', p, c2, run, len', dat'⟩ := body ns i os (few i List.mem_cons_self) len dat
    obtain ⟨env', more⟩ := drawn_turns body ns is (some (.d (.int i))) os' (fun j m => few j (List.mem_cons_of_mem _ m)) len' dat'
    refine ⟨env', ?_⟩
    have s : gvName 1 (.d (.int (0 + (i : Int)))) (some (.d (.scr (ns.map .int))) :: o1 :: none :: os) [] = some (some (.d (.scr (ns.map .int))) :: some (.d (.int i)) :: none :: os) := by
      rw [Int.zero_add]
      rfl
    have one : sScope [2] B (some (.d (.scr (ns.map .int))) :: some (.d (.int i)) :: none :: os) [] = .nx (some (.d (.scr (ns.map .int))) :: some (.d (.int i)) :: none :: os') [] := by
      unfold sScope
      rw [run]
      have below : envBelow 0 (wipeE (some (.d (.scr (ns.map .int))) :: some (.d (.int i)) :: p :: os') [2]) = true := below_dats (os := some (.d (.scr (ns.map .int))) :: some (.d (.int i)) :: none :: os') (dats_cons.mpr ⟨rfl, dats_cons.mpr ⟨rfl, dats_cons.mpr ⟨rfl, dat'⟩⟩⟩)
      exact if_pos ⟨below, rfl⟩
    simp only [List.map_cons, forL, s, one, more]
theorem drawn_plain {N : Nat} {B : MS} {top : Int} (h0 : 0 ≤ top) (h1 : top ≤ 50) (body : ∀ (ns : List Int) (i : Nat) (os : List (Option W)), i < 100 → os.length = N → Dats os →
      ∃ os' p c2, B (some (.d (.scr (ns.map .int))) :: some (.d (.int i)) :: none :: os) [] = .nx (some (.d (.scr (ns.map .int))) :: some (.d (.int i)) :: p :: os') c2 ∧ os'.length = N ∧ Dats os') (ns : List Int) :
    ∃ cc, fnOf (N + 3) (sSeq (sFor (mRng1 (mB dMax (mCons (mC (.int 1)) (mCons (mB dMin (mCons (mC (.int top)) (mCons (mB dLen (mCons (mVar 0) mNil)) mNil))) mNil)))) (gvName 1) (sScope [2] B)) (sRet (mC (.bl true)))) [.d (.scr (ns.map .int))] [] = .ok (.d (.bl true)) cc := by
  refine ⟨[], fnOf_rt rfl ?_⟩
  have start : env0 (N + 3) [.d (.scr (ns.map .int))] = some (.d (.scr (ns.map .int))) :: none :: none :: List.replicate N none := by
    show some (W.d (.scr (ns.map .int))) :: List.replicate (N + 3 - 1) none = _
    rw [show N + 3 - 1 = N + 2 from rfl, List.replicate_succ, List.replicate_succ]
  rw [start]
  have e : ∃ j : Int, 0 ≤ j ∧ j < 100 ∧ (mB dMax (mCons (mC (.int 1)) (mCons (mB dMin (mCons (mC (.int top)) (mCons (mB dLen (mCons (mVar 0) mNil)) mNil))) mNil))) (some (.d (.scr (ns.map .int))) :: none :: none :: List.replicate N none) [] = .ok (.d (.int j)) [] := by
    refine ⟨_, ?_, ?_, b2_ok (x := .int 1) (y := .int (if ((ns.map D.int).length : Int) < top then ((ns.map D.int).length : Int) else top)) rfl (b2_ok (x := .int top) (y := .int ((ns.map D.int).length : Int)) rfl rfl rfl) (z := .int (if (if ((ns.map D.int).length : Int) < top then ((ns.map D.int).length : Int) else top) > 1 then (if ((ns.map D.int).length : Int) < top then ((ns.map D.int).length : Int) else top) else 1)) rfl⟩
    · split <;> (try split) <;> omega
    · split <;> (try split) <;> omega
  obtain ⟨j, j0, j1, e⟩ := e
  have dat : Dats (List.replicate N (none : Option W)) := by
    rw [Dats, List.all_eq_true]
    intro o m
    rw [(List.mem_replicate.mp m).2]
    rfl
  obtain ⟨env', run⟩ := drawn_turns body ns (List.range j.toNat) none _ (fun i m => by have := List.mem_range.mp m; omega) (List.length_replicate ..) dat
  exact (seq_to (for_mv (rng_mv e j0 (by omega)) run)).trans rfl
/-! ### forms -/
section
variable {env : DL.Env} {cc c1 c2 c3 : Cs} {m k : ME} {t u : DL.Env → M Bool} {x y z : D} {w w2 : W} {ws us : List W} {r : DL.Env → M (List W)} {a b : Bool} {n : Nat}
theorem and_mv (h : t env cc = .ok true c1) (h2 : u env c1 = .ok b c2) : mAnd t u env cc = .ok b c2 := by
  unfold mAnd mIf
  rw [h]
  exact h2
theorem and_no (h : t env cc = .ok false c1) : mAnd t u env cc = .ok false c1 := by
  unfold mAnd mIf
  rw [h]
  rfl
theorem lst2 {x y : D} (h : Tells env cc m x) (h2 : Tells env cc k y) : Tells env cc (mLst (mCons m (mCons k mNil))) (.lst [x, y]) := lst_ok (ds := [x, y]) (args h (args h2 args0)) (few_cap (show 2 ≤ 1000 by decide))
theorem lst1 {x : D} (h : Tells env cc m x) : Tells env cc (mLst (mCons m mNil)) (.lst [x]) := lst_ok (ds := [x]) (args h args0) (few_cap (show 1 ≤ 1000 by decide))
theorem tup_is {ds : List D} (h : r env cc = .ok ws c1) (q : allD ws = some ds) (few : ds.length ≤ 1000) : mTup r env cc = .ok (.d (.tup ds)) c1 := by
  have cap : ds.length ≤ CAP := few_cap few
  unfold mTup
  rw [h]
  simp only [R.bind, q, cap, if_true]
theorem lst_is {ds : List D} (h : r env cc = .ok ws c1) (q : allD ws = some ds) (few : ds.length ≤ 1000) : mLst r env cc = .ok (.d (.lst ds)) c1 := by
  have cap : ds.length ≤ CAP := few_cap few
  unfold mLst
  rw [h]
  simp only [R.bind, q, cap, if_true]
theorem asgT_mv {j : Nat} {G : Tgs} {env' : DL.Env} (h : r env cc = .ok ws c1) (hl : ws.length = j) (few : j ≤ 1000) (g : G ws env c1 = some env') : sAsgT j G r env cc = .nx env' c1 := by
  have cap : j ≤ CAP := few_cap few
  unfold sAsgT
  rw [h]
  simp only [R.thenS, hl, cap, and_self, if_true, g]
/-- a comprehension that moves the pool: each item as P says -/
theorem lcL_mv {G : Tg} {m : ME} (P : D → Prop) (step : ∀ x c, St n c → ∃ e' c' y, G (.d x) env c = some e' ∧ m e' c = .ok (.d y) c' ∧ Mv n c c' ∧ P y) :
    ∀ (xs : List D) (cc : Cs), St n cc → ∃ c2 ys, lcL G tvYes m env xs cc = .ok ys c2 ∧ Mv n cc c2 ∧ ys.length = xs.length ∧ ∀ y ∈ ys, P y
  | [], cc, h => ⟨cc, [], rfl, Mv.refl h, rfl, fun _ m => nomatch m⟩
  | x :: xs, cc, h => by
    obtain ⟨e', c1, y, h1, h2, h3, h4⟩ := step x cc h
    obtain ⟨c2, ys, h5, h6, h7, h8⟩ := lcL_mv P step xs c1 h3.st
    refine ⟨c2, y :: ys, ?_, h3.trans h6, by rw [List.length_cons, List.length_cons, h7], ?_⟩
    · simp only [lcL, h1, tvYes, h2, h5]
    · intro z mz
      rcases List.mem_cons.mp mz with rfl | mz
      · exact h4
      · exact h8 z mz
theorem lc_mv {mi : DL.Env → M (List D)} {vs : List Nat} {G : Tg} {m : ME} {xs : List D} (P : D → Prop) (hi : mi env cc = .ok xs c1) (few : xs.length ≤ 1000) (S : St n c1)
    (step : ∀ x c, St n c → ∃ e' c' y, G (.d x) (wipeE env vs) c = some e' ∧ m e' c = .ok (.d y) c' ∧ Mv n c c' ∧ P y) :
    ∃ c2 ys, mLc mi vs G tvYes m env cc = .ok (.d (.lst ys)) c2 ∧ Mv n c1 c2 ∧ ys.length = xs.length ∧ ∀ y ∈ ys, P y := by
  obtain ⟨c2, ys, h1, h2, h3, h4⟩ := lcL_mv P step xs c1 S
  refine ⟨c2, ys, ?_, h2, h3, h4⟩
  have cap : xs.length ≤ CAP := few_cap few
  unfold mLc
  rw [hi]
  simp only [R.bind, h1, cap, if_true]
theorem d_oneT {xs : List D} (h : St n cc) (ne : 0 < xs.length) (few : xs.length < 1000000) : ∃ c2 x, Mv n cc c2 ∧ x ∈ xs ∧ fn__law_one [.cell n, .d (.tup xs)] cc = .ok (.d x) c2 := by
  obtain ⟨c2, r, mv, r0, rm, run⟩ := d_take (m := (xs.length : Int)) h (by omega) (by omega)
  obtain ⟨x, mx, e⟩ := at_lst r0 rm
  have e' : dIx (.tup xs) (.int r) = some x := e
  refine ⟨c2, x, mv, mx, fnOf_rt' (n := 2) (b := fn__law_one_b) mv.ok mv.len (ret_mv (ix_mv rfl (call_mv (args_mv rfl (args_mv (b1_mv rfl rfl) args0)) rfl run) e'))⟩
theorem if_off {A B : MS} (h : t env cc = .ok a c1) (e : a = false) : sSeq (sIf t A sNext) B env cc = B env c1 := by
  subst e
  unfold sSeq
  rw [if_no h]
  rfl
theorem if_off1 {A : MS} (h : t env cc = .ok a c1) (e : a = false) : sIf t A sNext env cc = .nx env c1 := by
  subst e
  exact if_no h
theorem par3_mv {i j q : Nat} {w3 : W} (h : r env cc = .ok [w, w2, w3] c1) : sPar3 i j q r env cc = .nx (((env.set i (some w)).set j (some w2)).set q (some w3)) c1 := by
  unfold sPar3
  rw [h]
  rfl
theorem v_is {i : Nat} (h : env[i]? = some (some w)) : mVar i env cc = .ok w cc := by
  unfold mVar
  rw [h]
theorem d_coinJ (j : Nat) {m : Int} (hm : 0 < m) (hm2 : m < 1000000) (h : St n cc) : ∃ c2 b, Mv n cc c2 ∧ ∀ env : DL.Env, env[j]? = some (some (.cell n)) → (mOp dEq (mCall fn__law_take 2 (mCons (mVar j) (mCons (mC (.int m)) mNil)) []) (mC (.int 0))) env cc = .ok (.d (.bl b)) c2 := by
  obtain ⟨c2, r, mv, r0, rm, run⟩ := d_take (m := m) h hm hm2
  exact ⟨c2, decide (r = 0), mv, fun env e => op_mv (call_mv (args_mv (v_is e) (args_mv rfl args0)) rfl run) rfl rfl⟩
end
/-! ### what can be compared -/
theorem dne_of {x y : D} {b : Bool} (hx : cmpD x = true) (hy : cmpD y = true) (e : eqD x y = b) : dNe x y = some (.bl (!b)) := by
  show (if cmpD x = true ∧ cmpD y = true then some (eqD x y) else none).map (fun b => D.bl (!b)) = _
  rw [if_pos ⟨hx, hy⟩, e]
  rfl
theorem deq_of {x y : D} {b : Bool} (hx : cmpD x = true) (hy : cmpD y = true) (e : eqD x y = b) : dEq x y = some (.bl b) := by
  show (if cmpD x = true ∧ cmpD y = true then some (eqD x y) else none).map D.bl = _
  rw [if_pos ⟨hx, hy⟩, e]
  rfl
theorem cks_ite {ds : List D} {n : Nat} (h : ∀ d ∈ ds, ck d n = true) : cks ds n = true := by
  induction ds with
  | nil => rfl
  | cons d ds ih =>
    simp only [cks, Bool.and_eq_true]
    exact ⟨h d List.mem_cons_self, ih fun e m => h e (List.mem_cons_of_mem _ m)⟩
theorem cmp_lst {ds : List D} (h : ∀ d ∈ ds, ck d 63 = true) : cmpD (.lst ds) = true := by
  show (Nat.blt 0 64 && cks ds 63) = true
  rw [cks_ite h]
  rfl
theorem cmp_tup {ds : List D} (h : ∀ d ∈ ds, ck d 63 = true) : cmpD (.tup ds) = true := by
  show (Nat.blt 0 64 && cks ds 63) = true
  rw [cks_ite h]
  rfl
theorem ck_lst {ds : List D} {n : Nat} (h : ∀ d ∈ ds, ck d n = true) : ck (.lst ds) (n + 1) = true := by
  show (Nat.blt 0 (n + 1) && cks ds n) = true
  rw [cks_ite h]
  exact Bool.and_eq_true_iff.mpr ⟨Nat.ble_eq.mpr (Nat.succ_le_succ (Nat.zero_le _)), rfl⟩
theorem ck_tup {ds : List D} {n : Nat} (h : ∀ d ∈ ds, ck d n = true) : ck (.tup ds) (n + 1) = true := by
  show (Nat.blt 0 (n + 1) && cks ds n) = true
  rw [cks_ite h]
  exact Bool.and_eq_true_iff.mpr ⟨Nat.ble_eq.mpr (Nat.succ_le_succ (Nat.zero_le _)), rfl⟩
theorem ck_slips {ss : List Slip} (h : ∀ x ∈ ss, SlipOk x) (n : Nat) : ck (.lst (ss.map dSlip)) (n + 3) = true := by
  apply ck_lst
  intro d m
  obtain ⟨s, ms, rfl⟩ := List.mem_map.mp m
  exact ck_slip (okSlip_of (h s ms)) n
theorem store_ne {a b : Store} (ha : ∀ x ∈ a.slips, SlipOk x) (hb : ∀ x ∈ b.slips, SlipOk x) : dNe (dStore a) (dStore b) = some (.bl (!eqStore a b)) := dne_of (cmp_store ha) (cmp_store hb) (eqD_store a b)
theorem store_eq {a b : Store} (ha : ∀ x ∈ a.slips, SlipOk x) (hb : ∀ x ∈ b.slips, SlipOk x) : dEq (dStore a) (dStore b) = some (.bl (eqStore a b)) := deq_of (cmp_store ha) (cmp_store hb) (eqD_store a b)
theorem slips_ne {a b : List Slip} (ha : ∀ x ∈ a, SlipOk x) (hb : ∀ x ∈ b, SlipOk x) : dNe (.lst (a.map dSlip)) (.lst (b.map dSlip)) = some (.bl (!eqSlips a b)) := dne_of (cmp_slips ha) (cmp_slips hb) (eqDs_slips a b)
theorem W_ne {a b : Words} (ha : a.all okW = true) (hb : b.all okW = true) : dNe (dW a) (dW b) = some (.bl (!eqH a b)) := dne_of (cmp_W ha) (cmp_W hb) (eqD_W a b)
end Lw
set_option Elab.async false
set_option linter.all false
set_option maxRecDepth 100000
set_option maxHeartbeats 3900000
/-! LC: a law's own circle. -/
namespace Lw
open PySem PySem.Spec PyProof.Rows L2 DL Ty
theorem lstRg_ok {env : DL.Env} {cc : Cs} {m : ME} {i : Int} (h : Tells env cc m (.int i)) (h0 : 0 ≤ i) (h1 : i ≤ 1000) : Tells env cc (mLstRg m) (.lst (rangeOf 0 i.toNat)) := by
  unfold Tells mLstRg
  rw [h]
  simp only [R.bind]
  exact if_pos ⟨h0, by omega⟩
section
variable {cc : Cs} (ok : okBelow cc.length cc = true)
include ok
theorem s_lcircle {l : Ld} {h : Words} (L : LdOk l) (hh : h.all okW = true) (few : h.length ≤ 1000) : fn__law_circle [.d (dLd l), .d (dW h)] cc = .ok (.d (dW (roundOf l h))) cc := by
  refine fnOf_rt (n := 5) (b := fn__law_circle_b) ok ?_
  have hi : (mIt (mLstRg (mB dLen (mCons (mVar 1) mNil)))) (env0 5 [.d (dLd l), .d (dW h)]) cc = .ok ((List.range h.length).map fun i : Nat => D.int (0 + (i : Int))) cc := by
    have q := lstRg_ok (b1_ok (env := env0 5 [.d (dLd l), .d (dW h)]) (cc := cc) (m := mVar 1) rfl (len_W h)) (by omega) (by omega)
    rw [Int.toNat_natCast] at q
    exact it_ok q rfl
  have lc := lc_all (vs := [3]) (G := gvName 3) (m := mSl (mVar 1) oNone (oSome (mOp dAdd (mVar 3) (mC (.int 1))))) (fun i : Nat => .int (0 + (i : Int))) (fun i : Nat => dW (h.take (i + 1))) (xs := List.range h.length) hi (by rw [List.length_range]; exact few) (by
    intro i _
    refine ⟨_, rfl, sl_to rfl (op_ok (z := .int ((i + 1 : Nat) : Int)) rfl rfl ?_) (dW_take h (i + 1))⟩
    exact congrArg (fun z => some (D.int z)) (by omega))
  have e : (startsOf h).map dW = (List.range h.length).map fun i : Nat => dW (h.take (i + 1)) := List.map_map ..
  rw [← e] at lc
  refine (seq_to (put_ok lc)).trans ?_
  have lc2 := lc_ty (env := (env0 5 [.d (dLd l), .d (dW h)]).set 2 (some (.d (.lst ((startsOf h).map dW))))) (cc := cc) (mi := mIt (mVar 2)) (vs := [4]) (G := gvName 4) (t := mT (mOp dNotIn (mVar 4) (mIx (mVar 0) (mC (.str "common"))))) (m := mVar 4) dW (fun s => !isCommon l s) dW (it_ok (x := .lst ((startsOf h).map dW)) rfl rfl) (by rw [starts_len ok]; exact few) (by
    intro s mem
    refine ⟨_, rfl, t_ok (op_ok (y := .lst (l.common.map dW)) rfl (ix_ok (x := dLd l) rfl rfl rfl) ?_), fun _ => rfl⟩
    show (dIn0 (dW s) (.lst (l.common.map dW))).map (fun b => D.bl (!b)) = _
    rw [in_Ws L.common (starts_all hh s mem)]
    rfl)
  refine (seq_to (put_ok lc2)).trans (ret_ok ?_)
  have good : ∀ s ∈ (startsOf h).filter (fun s => !isCommon l s), s.all okW = true := fun s m => starts_all hh s (List.mem_filter.mp m).1
  unfold roundOf
  generalize ((startsOf h).filter fun s => !isCommon l s) = ss at good ⊢
  have nz : (mT (mOp dNe (mVar 2) (mLst mNil))) (((env0 5 [.d (dLd l), .d (dW h)]).set 2 (some (.d (.lst ((startsOf h).map dW))))).set 2 (some (.d (.lst (ss.map dW))))) cc = .ok (!(ss.isEmpty)) cc := by
    refine t_ok (op_ok (x := .lst (ss.map dW)) (y := .lst []) rfl (lst_is args0 rfl (by simp)) (dne_of (cmp_lst fun d m => ?_) rfl ?_))
    · obtain ⟨s, ms, rfl⟩ := List.mem_map.mp m
      exact ck_W (good s ms) 62
    · cases ss <;> rfl
  refine ifv_ok nz ?_ ?_
  · intro q
    cases ss with
    | nil => exact nomatch q
    | cons s ss => exact ix_ok (m := mVar 2) rfl rfl (at_0 (dW s) (ss.map dW))
  · intro q
    cases ss with
    | nil => rfl
    | cons s ss => exact nomatch q
end
end Lw
set_option Elab.async false
set_option linter.all false
set_option maxRecDepth 100000
set_option maxHeartbeats 3900000
/-! LK: a law's own key. -/
namespace Lw
open PySem PySem.Spec PyProof.Rows L2 DL Ty
def dKeyL (r : Rl) (s : Slip) : D := if r.wideKey = true then .tup [.str s.name, dW s.host, dW s.path, .bl s.wide] else .tup [.str s.name, dW s.host, dW s.path]
theorem eqD_keyL (r : Rl) (a b : Slip) : eqD (dKeyL r a) (dKeyL r b) = sameKey r a b := by
  unfold dKeyL sameKey
  cases r.wideKey with
  | true =>
    show eqDs [.str a.name, dW a.host, dW a.path, .bl a.wide] [.str b.name, dW b.host, dW b.path, .bl b.wide] = _
    simp only [eqDs, eqD_W, Bool.and_true, Bool.not_true, Bool.false_or]
    show (eqS a.name b.name && (eqH a.host b.host && (eqH a.path b.path && (a.wide == b.wide)))) = _
    rw [Bool.and_comm (eqH a.path b.path)]
  | false =>
    show eqDs [.str a.name, dW a.host, dW a.path] [.str b.name, dW b.host, dW b.path] = _
    simp only [eqDs, eqD_W, Bool.and_true, Bool.not_false, Bool.true_or, Bool.true_and]
    rfl
theorem ck_keyL {r : Rl} {s : Slip} (h : SlipOk s) (n : Nat) : ck (dKeyL r s) (n + 2) = true := by
  have a1 := okW_ck h.name (n + 1)
  have a3 := ck_W (host_all h.host) n
  have a4 := ck_W (path_all h.path) n
  have z : Nat.blt 0 (n + 2) = true := Nat.ble_eq.mpr (Nat.succ_le_succ (Nat.zero_le _))
  unfold dKeyL
  split
  · show (Nat.blt 0 (n + 2) && cks [.str s.name, dW s.host, dW s.path, .bl s.wide] (n + 1)) = true
    simp only [cks, a1, a3, a4, z, Bool.and_true, Bool.true_and]
    rfl
  · show (Nat.blt 0 (n + 2) && cks [.str s.name, dW s.host, dW s.path] (n + 1)) = true
    simp only [cks, a1, a3, a4, z, Bool.and_true, Bool.true_and]
section
variable {cc : Cs} (ok : okBelow cc.length cc = true)
include ok
theorem s_lkey {r : Rl} {s : Slip} : fn__law_key [.d (dctR r), .d (dSlip s)] cc = .ok (.d (dKeyL r s)) cc := by
  refine fnOf_rt (n := 2) (b := fn__law_key_b) ok (ret_ok ?_)
  unfold dKeyL
  have w : Holds (env0 2 [.d (dctR r), .d (dSlip s)]) cc (mT (mIx (mVar 0) (mC (.str "wide_key")))) r.wideKey := t_ok (ix_ok (x := dctR r) (z := .bl r.wideKey) rfl rfl rfl)
  refine ifv_ok w ?_ ?_
  · intro q
    rw [if_pos q]
    rfl
  · intro q
    rw [if_neg (by rw [q]; exact Bool.false_ne_true)]
    rfl
end
end Lw
set_option Elab.async false
set_option linter.all false
set_option maxRecDepth 100000
set_option maxHeartbeats 3900000
/-! P22: law k22. -/
namespace Lw
open PySem PySem.Spec PyProof.Rows L2 DL Ty
theorem ok_lst {cc : Cs} {ds : List D} (ok : okBelow cc.length cc = true) : okBelow (cc ++ [some (C.lst ds)]).length (cc ++ [some (C.lst ds)]) = true := by
  rw [List.length_append]; rw [List.length_singleton]
  exact below_more ok rfl
theorem fnOf_lst {n : Nat} {b : MS} {ws : List W} {cc B : Cs} {ds : List D} (ok : okBelow cc.length B = true) (len : B.length = cc.length) (h : b (env0 n ws) cc = .rt (.cell cc.length) (B ++ [some (.lst ds)])) : fnOf n b ws cc = .ok (.d (.lst ds)) B := by
  have f1 : frz (B ++ [some (C.lst ds)]) (.cell cc.length) = some (.lst ds, (B ++ [some (C.lst ds)]).set cc.length none) := by
    rw [← len]
    simp only [frz, at_end]
  have ge : ¬ cc.length < cc.length := Nat.lt_irrefl _
  have tk : ((B ++ [some (C.lst ds)]).set cc.length none).take cc.length = B := by
    rw [← len, set_end, List.take_append_of_le_length (Nat.le_refl _), List.take_length]
  unfold fnOf
  rw [h]
  simp only [endFn, ge, if_false, f1, cut, tk]
  exact if_pos ⟨ok, rfl⟩
def dPart (l : Ld) (ss : List Slip) (C : Words) : D := .lst ((partOf l C ss).map dSlip)
section
variable {cc : Cs} (ok : okBelow cc.length cc = true)
include ok
theorem s_lparts {l : Ld} {st : Store} (rounds : List Words) (L : LdOk l) (hs : ∀ x ∈ st.slips, SlipOk x) (few : st.slips.length ≤ 1000) (good : ∀ C ∈ rounds, C.all okW = true) (few2 : rounds.length ≤ 900) :
    fn__law_parts [.d (dLd l), .d (dStore st), .d (.lst (rounds.map dW))] cc = .ok (.d (.lst (rounds.map (dPart l st.slips)))) cc := by
  refine fnOf_lst (n := 6) (b := fn__law_parts_b) ok rfl ?_
  refine (seq_to (put_ok lstC_ok)).trans ?_
  obtain ⟨env', c', run, I⟩ := for_inv (G := gvName 4) (b := (sExpr (mLm gApp (mVar 3) (mCons (mLc (mIt (mIx (mVar 1) (mC (.int 1)))) [5] (gvName 5) (mT (mOp dEq (mCall fn__law_circle 2 (mCons (mVar 0) (mCons (mIx (mVar 5) (mC (.int 2))) mNil)) []) (mVar 4))) (mVar 5)) mNil)))) (fun rem env c => ∃ done left o4 o5, rem = left.map dW ∧ done ++ left = rounds ∧ env = [some (.d (dLd l)), some (.d (dStore st)), some (.d (.lst (rounds.map dW))), some (.cell cc.length), o4, o5] ∧ c = cc ++ [some (.lst (done.map (dPart l st.slips)))]) (by
    rintro x xs env c ⟨done, left, o4, o5, e1, e2, rfl, rfl⟩
    cases left with
    | nil => exact nomatch e1
    | cons C left =>
      rw [List.map_cons, List.cons.injEq] at e1
      obtain ⟨rfl, rfl⟩ := e1
      have mem : C ∈ rounds := by rw [← e2]; exact List.mem_append.mpr (.inr List.mem_cons_self)
      refine ⟨_, _, _, rfl, ?_, done ++ [C], left, some (.d (dW C)), o5, rfl, by rw [List.append_assoc]; exact e2, rfl, rfl⟩
      have lc := lc_ty (env := [some (.d (dLd l)), some (.d (dStore st)), some (.d (.lst (rounds.map dW))), some (.cell cc.length), some (.d (dW C)), o5]) (cc := cc ++ [some (.lst (done.map (dPart l st.slips)))]) (mi := mIt (mIx (mVar 1) (mC (.int 1)))) (vs := [5]) (G := gvName 5) (t := mT (mOp dEq (mCall fn__law_circle 2 (mCons (mVar 0) (mCons (mIx (mVar 5) (mC (.int 2))) mNil)) []) (mVar 4))) (m := mVar 5) (xs := st.slips) dSlip (fun s => eqH (roundOf l s.host) C) dSlip rfl few (by
        intro s ms
        have ks := hs s ms
        exact ⟨_, rfl, t_ok (op_ok (call_ok (args rfl (args rfl args0)) rfl (s_lcircle (ok_lst ok) L (host_all ks.host) (by have := (host_len ks.host).2; omega))) rfl (eq_W (round_all (host_all ks.host)) (good C mem))), fun _ => rfl⟩)
      rw [List.map_append]
      exact app_mv (B0 := cc) (ds0 := done.map (dPart l st.slips)) (x := dPart l st.slips C) rfl rfl (args lc args0) rfl (by
        have := congrArg List.length e2
        rw [List.length_append, List.length_cons] at this
        rw [List.length_map]
        omega)) (rounds.map dW) [some (.d (dLd l)), some (.d (dStore st)), some (.d (.lst (rounds.map dW))), some (.cell cc.length), none, none] (cc ++ [some (.lst [])]) ⟨[], rounds, none, none, rfl, rfl, rfl, rfl⟩
  obtain ⟨done, left, o4, o5, e1, e2, rfl, rfl⟩ := I
  cases left with
  | cons _ _ => exact nomatch e1
  | nil =>
    rw [List.append_nil] at e2
    subst e2
    exact (seq_to (for_mv rfl run)).trans rfl
end
/-! ### a turn -/
theorem nin_non {ds : List D} (h : ∀ d ∈ ds, ck d 63 = true) : dNotIn .non (.lst ds) = some (.bl (!ds.any fun z => eqD z .non)) := by
  show (if cmpD .non = true ∧ cmpD (.lst ds) = true then some (ds.any fun z => eqD z .non) else none).map (fun b => D.bl (!b)) = _
  rw [if_pos ⟨rfl, cmp_lst h⟩]
  rfl
theorem may_non (m : Option Slip) : eqD (dMaySlip m) .non = m.isNone := by cases m <;> rfl
theorem ck_may {m : Option Slip} (h : ∀ s, m = some s → SlipOk s) : ck (dMaySlip m) 63 = true := by
  cases m with
  | none => rfl
  | some s => exact ck_slip (okSlip_of (h s rfl)) 61
theorem met_ok {r : Rl} {ss : List Slip} {s : Slip} (hs : ∀ x ∈ ss, SlipOk x) : ∀ x, metOf r ss s = some x → SlipOk x := by
  intro x e
  unfold metOf at e
  cases f : foundAt r ss s with
  | none => rw [f] at e; exact nomatch e
  | some n =>
    rw [f] at e
    exact hs x (List.mem_of_getElem? e)
theorem met_is {r : Rl} {ss : List Slip} {s : Slip} : (metOf r ss s).isNone = (foundAt r ss s).isNone := by
  unfold metOf
  cases f : foundAt r ss s with
  | none => rfl
  | some n =>
    obtain ⟨x, ex, _⟩ := found_some f
    show (ss[n]?).isNone = false
    rw [ex]
    rfl
theorem picked {s k : Slip} : dAdd (.tup [.str k.name]) (.tup [.str s.worth]) = some (.tup [.str k.name, .str s.worth]) := if_pos (e := none) (few_cap (show 1 + 1 ≤ 1000 by decide))
theorem picked2 {s k : Slip} : dAdd (.tup [.str k.name, .str s.worth]) (.tup [dW k.host, .bl k.wide, dW k.path, dEnd k.fin, dW k.marks]) = some (dSlip ⟨k.name, s.worth, k.host, k.wide, k.path, k.fin, k.marks⟩) := if_pos (e := none) (few_cap (show 2 + 5 ≤ 1000 by decide))
theorem pick22 {l : Ld} {r : Rl} {st : Store} {x k lf : D} {h2 : Words} {cl2 : Bool} {s2 : Slip} {cc : Cs} (o8 o11 o12 o13 o14 o15 o16 o17 o18 o19 : Option W) (P : St 0 cc) (hs : ∀ x ∈ st.slips, SlipOk x) (few : st.slips.length ≤ 300) (k2 : SlipOk s2) (d11 : datO o11 = true) :
    ∃ c2 s3 p11, Mv 0 cc c2 ∧ SlipOk s3 ∧ datO p11 = true ∧ (sIf (mAnd (mT (mOp dNe (mIx (mVar 7) (mC (.int 1))) (mTup mNil))) (mT (mOp dEq (mCall fn__law_take 2 (mCons (mVar 2) (mCons (mC (.int 2)) mNil)) []) (mC (.int 0))))) (sSeq (sSet 11 (mCall fn__law_one 2 (mCons (mVar 2) (mCons (mIx (mVar 7) (mC (.int 1))) mNil)) []))
    (sSet 10 (mTup (mCons (mC (.str "put")) (mCons (mIx (mVar 10) (mC (.int 1))) (mCons (mIx (mVar 10) (mC (.int 2))) (mCons (mOp dAdd (mOp dAdd (mSl (mVar 11) oNone (oSome (mC (.int 1)))) (mTup (mCons (mIx (mIx (mVar 10) (mC (.int 3))) (mC (.int 1))) mNil))) (mSl (mVar 11) (oSome (mC (.int 2))) oNone)) mNil))))))) sNext) [some (.d x), some (.d k), some (.cell 0), some (.d (dLd l)), some (.d (dctR r)), some (.d (dLand l)), some (.d (dRules r)), some (.d (dStore st)), o8, some (.d lf), some (.d (dDeed (.put h2 cl2 s2))), o11, o12, o13, o14, o15, o16, o17, o18, o19] cc =
      .nx [some (.d x), some (.d k), some (.cell 0), some (.d (dLd l)), some (.d (dctR r)), some (.d (dLand l)), some (.d (dRules r)), some (.d (dStore st)), o8, some (.d lf), some (.d (dDeed (.put h2 cl2 s3))), p11, o12, o13, o14, o15, o16, o17, o18, o19] c2 := by
  have t1 : Holds [some (.d x), some (.d k), some (.cell 0), some (.d (dLd l)), some (.d (dctR r)), some (.d (dLand l)), some (.d (dRules r)), some (.d (dStore st)), o8, some (.d lf), some (.d (dDeed (.put h2 cl2 s2))), o11, o12, o13, o14, o15, o16, o17, o18, o19] cc (mT (mOp dNe (mIx (mVar 7) (mC (.int 1))) (mTup mNil))) (!st.slips.isEmpty) := by
    refine t_ok (op_ok (x := dSlips st.slips) (y := .tup []) rfl (tup_is args0 rfl (by simp)) (dne_of (cmp_tup fun d m => ?_) rfl ?_))
    · obtain ⟨s, ms, rfl⟩ := List.mem_map.mp m
      exact ck_slip (okSlip_of (hs s ms)) 61
    · cases st.slips <;> rfl
  cases e : st.slips with
  | nil =>
    rw [e] at t1
    exact ⟨cc, s2, o11, Mv.refl P, k2, d11, if_skip (and_no t1)⟩
  | cons a as =>
    rw [e] at t1
    obtain ⟨c1, b, m1, r1⟩ := d_coinJ 2 (m := 2) (by decide) (by decide) P
    have t2 := t_mv (r1 [some (.d x), some (.d k), some (.cell 0), some (.d (dLd l)), some (.d (dctR r)), some (.d (dLand l)), some (.d (dRules r)), some (.d (dStore st)), o8, some (.d lf), some (.d (dDeed (.put h2 cl2 s2))), o11, o12, o13, o14, o15, o16, o17, o18, o19] rfl)
    cases b with
    | false => exact ⟨c1, s2, o11, m1, k2, d11, if_skip (and_mv t1 t2)⟩
    | true =>
      obtain ⟨c2, y, m2, my, r2⟩ := d_oneT (xs := st.slips.map dSlip) m1.st (by rw [e]; simp) (by rw [List.length_map]; omega)
      obtain ⟨kp, mk, rfl⟩ := List.mem_map.mp my
      have kk := hs kp mk
      refine ⟨c2, ⟨kp.name, s2.worth, kp.host, kp.wide, kp.path, kp.fin, kp.marks⟩, some (.d (dSlip kp)), m1.trans m2, ⟨kk.name, k2.worth, kk.host, kk.path, kk.fin, kk.marks⟩, rfl, if_next (and_mv t1 t2) ?_⟩
      refine (seq_to (put_ok (call_mv (args_mv rfl (args_mv (w := .d (dSlips st.slips)) rfl args0)) rfl r2))).trans ?_
      refine put_ok (tup_is (ds := [.str "put", dW h2, .bl cl2, dSlip ⟨kp.name, s2.worth, kp.host, kp.wide, kp.path, kp.fin, kp.marks⟩]) (args rfl (args rfl (args rfl (args (op_ok (op_ok (x := .tup [.str kp.name]) (y := .tup [.str s2.worth]) rfl (tup_is (args rfl args0) rfl (show 1 ≤ 1000 by decide)) picked) rfl picked2) args0)))) rfl (show 4 ≤ 1000 by decide))
def turnB : MS := (sSeq (sPar 9 10 (mCons (mCall fn__law_put 2 (mCons (mVar 2) (mCons (mVar 3) mNil)) []) (mCons (mCall fn__law_put 2 (mCons (mVar 2) (mCons (mVar 3) mNil)) []) mNil)))
    (sSeq (sIf (mAnd (mT (mOp dNe (mIx (mVar 7) (mC (.int 1))) (mTup mNil))) (mT (mOp dEq (mCall fn__law_take 2 (mCons (mVar 2) (mCons (mC (.int 2)) mNil)) []) (mC (.int 0))))) (sSeq (sSet 11 (mCall fn__law_one 2 (mCons (mVar 2) (mCons (mIx (mVar 7) (mC (.int 1))) mNil)) []))
    (sSet 10 (mTup (mCons (mC (.str "put")) (mCons (mIx (mVar 10) (mC (.int 1))) (mCons (mIx (mVar 10) (mC (.int 2))) (mCons (mOp dAdd (mOp dAdd (mSl (mVar 11) oNone (oSome (mC (.int 1)))) (mTup (mCons (mIx (mIx (mVar 10) (mC (.int 3))) (mC (.int 1))) mNil))) (mSl (mVar 11) (oSome (mC (.int 2))) oNone)) mNil))))))) sNext)
    (sSeq (sSet 12 (mCall fn_after_all 4 (mCons (mVar 5) (mCons (mVar 6) (mCons (mVar 7) (mCons (mLst (mCons (mVar 9) (mCons (mVar 10) mNil))) mNil)))) []))
    (sSeq (sSet 13 (mCall fn_after_all 4 (mCons (mVar 5) (mCons (mVar 6) (mCons (mVar 7) (mCons (mLst (mCons (mVar 10) (mCons (mVar 9) mNil))) mNil)))) []))
    (sSeq (sSet 14 (mLst (mCons (mCall fn__law_circle 2 (mCons (mVar 3) (mCons (mIx (mIx (mVar 9) (mC (.int 3))) (mC (.int 2))) mNil)) []) (mCons (mCall fn__law_circle 2 (mCons (mVar 3) (mCons (mIx (mIx (mVar 10) (mC (.int 3))) (mC (.int 2))) mNil)) []) mNil))))
    (sSeq (sSet 15 (mLst (mCons (mCall fn__law_parts 3 (mCons (mVar 3) (mCons (mVar 12) (mCons (mVar 14) mNil))) []) (mCons (mCall fn__law_parts 3 (mCons (mVar 3) (mCons (mVar 13) (mCons (mVar 14) mNil))) []) mNil))))
    (sSeq (sIf (mAnd (mT (mOp dNe (mIx (mVar 14) (mC (.int 0))) (mIx (mVar 14) (mC (.int 1))))) (mT (mOp dNe (mIx (mVar 15) (mC (.int 0))) (mIx (mVar 15) (mC (.int 1)))))) (sRet (mC (.bl false))) sNext)
    (sSeq (sSet 16 (mLc (mIt (mLst (mCons (mVar 9) (mCons (mVar 10) mNil)))) [19] (gvName 19) tvYes (mCall fn_may_put 5 (mCons (mVar 5) (mCons (mVar 6) (mCons (mIx (mVar 19) (mC (.int 1))) (mCons (mIx (mVar 19) (mC (.int 2))) (mCons (mIx (mVar 19) (mC (.int 3))) mNil))))) [])))
    (sSeq (sIf (mAnd (mT (mOp dIn (mC (.bl false)) (mVar 16))) (mT (mOp dNe (mVar 12) (mVar 13)))) (sRet (mC (.bl false))) sNext)
    (sSeq (sSet 17 (mLc (mIt (mLst (mCons (mVar 9) (mCons (mVar 10) mNil)))) [19] (gvName 19) tvYes (mCall fn_met 4 (mCons (mVar 5) (mCons (mVar 6) (mCons (mVar 7) (mCons (mIx (mVar 19) (mC (.int 3))) mNil)))) [])))
    (sSeq (sSet 18 (mLc (mIt (mLst (mCons (mVar 9) (mCons (mVar 10) mNil)))) [19] (gvName 19) tvYes (mCall fn__law_key 2 (mCons (mVar 4) (mCons (mIx (mVar 19) (mC (.int 3))) mNil)) [])))
    (sIf (mAnd (mT (mOp dNotIn (mC .non) (mVar 17))) (mAnd (mT (mOp dNe (mIx (mVar 18) (mC (.int 0))) (mIx (mVar 18) (mC (.int 1))))) (mAnd (mNot (mT (mIx (mVar 4) (mC (.str "renewed"))))) (mT (mOp dNe (mVar 12) (mVar 13)))))) (sRet (mC (.bl false))) sNext))))))))))))
theorem deedOk_put {l : Ld} {h : Words} {c : Bool} {s : Slip} (kh : okHost h = true) (ks : SlipOk s) : DeedOk (.put h c s) := ⟨kh, ks⟩
theorem two_all {l : Ld} {r : Rl} {st : Store} {a b : Deed} : afterAll l r st [a, b] = behind l r (behind l r st a) b := rfl
theorem turn22 {l : Ld} {r : Rl} {st : Store} {x k : D} {cc : Cs} (o8 o9 o10 o11 o12 o13 o14 o15 o16 o17 o18 o19 : Option W) (P : St 0 cc) (L : LandR l) (kr : RlOk r) (S : StoreOk l r st) (few : st.slips.length ≤ 300) (d11 : datO o11 = true) :
    ∃ c2 p9 p10 p11 p12 p13 p14 p15 p16 p17 p18, Mv 0 cc c2 ∧ datO p11 = true ∧ turnB [some (.d x), some (.d k), some (.cell 0), some (.d (dLd l)), some (.d (dctR r)), some (.d (dLand l)), some (.d (dRules r)), some (.d (dStore st)), o8, o9, o10, o11, o12, o13, o14, o15, o16, o17, o18, o19] cc =
      .nx [some (.d x), some (.d k), some (.cell 0), some (.d (dLd l)), some (.d (dctR r)), some (.d (dLand l)), some (.d (dRules r)), some (.d (dStore st)), o8, some (.d p9), some (.d p10), p11, some (.d p12), some (.d p13), some (.d p14), some (.d p15), some (.d p16), some (.d p17), some (.d p18), o19] c2 := by
  obtain ⟨c1, h1, cl1, s1, m1, mh1, k1, r1⟩ := d_put L P
  obtain ⟨c2, h2, cl2, s0, m2, mh2, k0, r2⟩ := d_put L m1.st
  obtain ⟨c3, s2, p11, m3, k2, dp, run3⟩ := pick22 (l := l) (r := r) (x := x) (k := k) (lf := dDeed (.put h1 cl1 s1)) (h2 := h2) (cl2 := cl2) o8 o11 o12 o13 o14 o15 o16 o17 o18 o19 m2.st S.kept.slips few k0 d11
  have kh1 := house_ok L mh1
  have kh2 := house_ok L mh2
  have M := (m1.trans m2).trans m3
  have ok3 := m3.st.ok
  have deeds : ∀ {a b : Deed}, DeedOk a → DeedOk b → ∀ d ∈ [a, b], DeedOk d := by
    intro a b ha hb d md
    simp only [List.mem_cons, List.not_mem_nil, or_false] at md
    rcases md with rfl | rfl
    · exact ha
    · exact hb
  have kd1 : DeedOk (.put h1 cl1 s1) := ⟨kh1, k1⟩
  have kd2 : DeedOk (.put h2 cl2 s2) := ⟨kh2, k2⟩
  have a1 := s_after_all ok3 (l := l) (r := r) (st := st) (ds := [.put h1 cl1 s1, .put h2 cl2 s2]) L.ok kr S (deeds kd1 kd2) (by simp only [List.length_cons, List.length_nil]; omega)
  have a2 := s_after_all ok3 (l := l) (r := r) (st := st) (ds := [.put h2 cl2 s2, .put h1 cl1 s1]) L.ok kr S (deeds kd2 kd1) (by simp only [List.length_cons, List.length_nil]; omega)
  have S1 := after_ok (l := l) kr.low S (deeds kd1 kd2)
  have S2 := after_ok (l := l) kr.low S (deeds kd2 kd1)
  have f1 : (afterAll l r st [.put h1 cl1 s1, .put h2 cl2 s2]).slips.length ≤ 1000 := Nat.le_trans S1.2 (by simp only [List.length_cons, List.length_nil]; omega)
  have f2 : (afterAll l r st [.put h2 cl2 s2, .put h1 cl1 s1]).slips.length ≤ 1000 := Nat.le_trans S2.2 (by simp only [List.length_cons, List.length_nil]; omega)
  have w1 := host_all k1.host
  have w2 := host_all k2.host
  have c1' := s_lcircle ok3 (l := l) (h := s1.host) L.ok w1 (by have := (host_len k1.host).2; omega)
  have c2' := s_lcircle ok3 (l := l) (h := s2.host) L.ok w2 (by have := (host_len k2.host).2; omega)
  have goodC : ∀ C ∈ [roundOf l s1.host, roundOf l s2.host], C.all okW = true := by
    intro C mC
    simp only [List.mem_cons, List.not_mem_nil, or_false] at mC
    rcases mC with rfl | rfl
    · exact round_all w1
    · exact round_all w2
  have q1 := s_lparts ok3 (l := l) (st := afterAll l r st [.put h1 cl1 s1, .put h2 cl2 s2]) [roundOf l s1.host, roundOf l s2.host] L.ok S1.1.kept.slips f1 goodC (show 2 ≤ 900 by decide)
  have q2 := s_lparts ok3 (l := l) (st := afterAll l r st [.put h2 cl2 s2, .put h1 cl1 s1]) [roundOf l s1.host, roundOf l s2.host] L.ok S2.1.kept.slips f2 goodC (show 2 ≤ 900 by decide)
  have y1 := s_may_put ok3 (l := l) (r := r) (house := h1) (closed := cl1) (s := s1) L.ok kr kh1 k1
  have y2 := s_may_put ok3 (l := l) (r := r) (house := h2) (closed := cl2) (s := s2) L.ok kr kh2 k2
  have z1 := s_met ok3 (l := l) (r := r) (st := st) (s := s1) L.ok S k1 (by omega)
  have z2 := s_met ok3 (l := l) (r := r) (st := st) (s := s2) L.ok S k2 (by omega)
  have neS : dNe (dStore (afterAll l r st [.put h1 cl1 s1, .put h2 cl2 s2])) (dStore (afterAll l r st [.put h2 cl2 s2, .put h1 cl1 s1])) = _ := store_ne S1.1.kept.slips S2.1.kept.slips
  refine ⟨c3, dDeed (.put h1 cl1 s1), dDeed (.put h2 cl2 s2), p11, dStore (afterAll l r st [.put h1 cl1 s1, .put h2 cl2 s2]), dStore (afterAll l r st [.put h2 cl2 s2, .put h1 cl1 s1]), .lst [dW (roundOf l s1.host), dW (roundOf l s2.host)],
    .lst [.lst [dPart l (afterAll l r st [.put h1 cl1 s1, .put h2 cl2 s2]).slips (roundOf l s1.host), dPart l (afterAll l r st [.put h1 cl1 s1, .put h2 cl2 s2]).slips (roundOf l s2.host)], .lst [dPart l (afterAll l r st [.put h2 cl2 s2, .put h1 cl1 s1]).slips (roundOf l s1.host), dPart l (afterAll l r st [.put h2 cl2 s2, .put h1 cl1 s1]).slips (roundOf l s2.host)]],
    .lst [.bl (allowed l r h1 cl1 s1), .bl (allowed l r h2 cl2 s2)], .lst [dMaySlip (metOf r st.slips s1), dMaySlip (metOf r st.slips s2)], .lst [dKeyL r s1, dKeyL r s2], M, dp, ?_⟩
  unfold turnB
  refine (seq_to (par_mv (args_mv (call_mv (args_mv rfl (args_mv rfl args0)) rfl r1) (args_mv (call_mv (args_mv rfl (args_mv rfl args0)) rfl r2) args0)))).trans ?_
  refine (seq_to run3).trans ?_
  refine (seq_to (put_ok (call_ok (args rfl (args rfl (args rfl (args (lst2 rfl rfl) args0)))) rfl a1))).trans ?_
  refine (seq_to (put_ok (call_ok (args rfl (args rfl (args rfl (args (lst2 rfl rfl) args0)))) rfl a2))).trans ?_
  refine (seq_to (put_ok (lst2 (call_ok (args rfl (args rfl args0)) rfl c1') (call_ok (args rfl (args rfl args0)) rfl c2')))).trans ?_
  refine (seq_to (put_ok (lst2 (call_ok (args rfl (args rfl (args rfl args0))) rfl q1) (call_ok (args rfl (args rfl (args rfl args0))) rfl q2)))).trans ?_
  have nePart : ∀ {a b : Store}, (∀ x ∈ a.slips, SlipOk x) → (∀ x ∈ b.slips, SlipOk x) → dNe (.lst [dPart l a.slips (roundOf l s1.host), dPart l a.slips (roundOf l s2.host)]) (.lst [dPart l b.slips (roundOf l s1.host), dPart l b.slips (roundOf l s2.host)]) = some (.bl (!(eqSlips (partOf l (roundOf l s1.host) a.slips) (partOf l (roundOf l s1.host) b.slips) && (eqSlips (partOf l (roundOf l s2.host) a.slips) (partOf l (roundOf l s2.host) b.slips) && true)))) := by
    intro a b ha hb
    have part : ∀ {a : Store} (C : Words), (∀ x ∈ a.slips, SlipOk x) → ck (dPart l a.slips C) 63 = true := fun C ha => ck_slips (fun y my => ha y (List.mem_filter.mp my).1) 60
    refine dne_of (cmp_lst fun d md => ?_) (cmp_lst fun d md => ?_) ?_
    · simp only [List.mem_cons, List.not_mem_nil, or_false] at md
      rcases md with rfl | rfl <;> exact part _ ha
    · simp only [List.mem_cons, List.not_mem_nil, or_false] at md
      rcases md with rfl | rfl <;> exact part _ hb
    · show (eqDs ((partOf l (roundOf l s1.host) a.slips).map dSlip) ((partOf l (roundOf l s1.host) b.slips).map dSlip) && (eqDs ((partOf l (roundOf l s2.host) a.slips).map dSlip) ((partOf l (roundOf l s2.host) b.slips).map dSlip) && true)) = _
      rw [eqDs_slips, eqDs_slips]
  have circles : ((!eqH (roundOf l s1.host) (roundOf l s2.host)) && (!(eqSlips (partOf l (roundOf l s1.host) (afterAll l r st [.put h1 cl1 s1, .put h2 cl2 s2]).slips) (partOf l (roundOf l s1.host) (afterAll l r st [.put h2 cl2 s2, .put h1 cl1 s1]).slips) && (eqSlips (partOf l (roundOf l s2.host) (afterAll l r st [.put h1 cl1 s1, .put h2 cl2 s2]).slips) (partOf l (roundOf l s2.host) (afterAll l r st [.put h2 cl2 s2, .put h1 cl1 s1]).slips) && true)))) = false := by
    cases q : eqH (roundOf l s1.host) (roundOf l s2.host) with
    | true => rfl
    | false =>
      have ne : roundOf l s1.host ≠ roundOf l s2.host := fun z => by rw [eqH_iff.mpr z] at q; exact nomatch q
      have e1 := two_circles (h := h1) (h2 := h2) (c := cl1) (c2 := cl2) S kr.low k1 k2 ne _ (.inl rfl)
      have e2 := two_circles (h := h1) (h2 := h2) (c := cl1) (c2 := cl2) S kr.low k1 k2 ne _ (.inr rfl)
      rw [eqSlips_iff.mpr (show partOf l (roundOf l s1.host) (afterAll l r st [.put h1 cl1 s1, .put h2 cl2 s2]).slips = partOf l (roundOf l s1.host) (afterAll l r st [.put h2 cl2 s2, .put h1 cl1 s1]).slips from e1), eqSlips_iff.mpr (show partOf l (roundOf l s2.host) (afterAll l r st [.put h1 cl1 s1, .put h2 cl2 s2]).slips = partOf l (roundOf l s2.host) (afterAll l r st [.put h2 cl2 s2, .put h1 cl1 s1]).slips from e2)]
      rfl
  refine (if_off (and_ok (t_ok (op_ok (ix_ok rfl rfl (at_0 _ _)) (ix_ok (z := dW (roundOf l s2.host)) rfl rfl rfl) (W_ne (round_all w1) (round_all w2)))) fun _ => t_ok (op_ok (ix_ok rfl rfl (at_0 _ _)) (ix_ok rfl rfl rfl) (nePart S1.1.kept.slips S2.1.kept.slips))) circles).trans ?_
  have item : ∀ {e : DL.Env} {h h' : Words} {c c' : Bool} {s s' : Slip}, e[9]? = some (some (.d (dDeed (.put h c s)))) → e[10]? = some (some (.d (dDeed (.put h' c' s')))) → (mIt (mLst (mCons (mVar 9) (mCons (mVar 10) mNil)))) e c3 = .ok ([(h, c, s), (h', c', s')].map fun q : Words × Bool × Slip => dDeed (.put q.1 q.2.1 q.2.2)) c3 := by
    intro e h h' c c' s s' e9 e10
    exact it_ok (lst2 (v_is e9) (v_is e10)) rfl
  have pair : ∀ (q : Words × Bool × Slip), q ∈ [(h1, cl1, s1), (h2, cl2, s2)] → q = (h1, cl1, s1) ∨ q = (h2, cl2, s2) := by
    intro q mq
    simpa using mq
  refine (seq_to (put_ok (lc_all (xs := [(h1, cl1, s1), (h2, cl2, s2)]) (fun q : Words × Bool × Slip => dDeed (.put q.1 q.2.1 q.2.2)) (fun q => .bl (allowed l r q.1 q.2.1 q.2.2)) (item rfl rfl) (show 2 ≤ 1000 by decide) (by
    intro q mq
    rcases pair q mq with rfl | rfl
    · exact ⟨_, rfl, call_ok (args rfl (args rfl (args rfl (args rfl (args rfl args0))))) rfl y1⟩
    · exact ⟨_, rfl, call_ok (args rfl (args rfl (args rfl (args rfl (args rfl args0))))) rfl y2⟩)))).trans ?_
  have alls : ((decide (allowed l r h1 cl1 s1 = false) || (decide (allowed l r h2 cl2 s2 = false) || false)) && !eqStore (afterAll l r st [.put h1 cl1 s1, .put h2 cl2 s2]) (afterAll l r st [.put h2 cl2 s2, .put h1 cl1 s1])) = false := by
    have same : allowed l r h1 cl1 s1 = false ∨ allowed l r h2 cl2 s2 = false → afterAll l r st [.put h1 cl1 s1, .put h2 cl2 s2] = afterAll l r st [.put h2 cl2 s2, .put h1 cl1 s1] := by
      rintro (z | z)
      · show Ty.putIn l r (Ty.putIn l r st h1 cl1 s1) h2 cl2 s2 = Ty.putIn l r (Ty.putIn l r st h2 cl2 s2) h1 cl1 s1
        rw [not_allowed z, not_allowed z]
      · show Ty.putIn l r (Ty.putIn l r st h1 cl1 s1) h2 cl2 s2 = Ty.putIn l r (Ty.putIn l r st h2 cl2 s2) h1 cl1 s1
        rw [not_allowed z, not_allowed z]
    by_cases z : allowed l r h1 cl1 s1 = false ∨ allowed l r h2 cl2 s2 = false
    · rw [same z, eqStore_self, Bool.not_true, Bool.and_false]
    · have z1 : allowed l r h1 cl1 s1 ≠ false := fun q => z (.inl q)
      have z2 : allowed l r h2 cl2 s2 ≠ false := fun q => z (.inr q)
      rw [decide_eq_false z1, decide_eq_false z2]
      rfl
  have inF : ∀ a b : Bool, dIn (.bl false) (.lst [.bl a, .bl b]) = some (.bl (decide (a = false) || (decide (b = false) || false))) := by
    intro a b
    cases a <;> cases b <;> rfl
  refine (if_off (and_ok (t_ok (op_ok (x := .bl false) (y := .lst [.bl (allowed l r h1 cl1 s1), .bl (allowed l r h2 cl2 s2)]) rfl rfl (inF _ _))) fun _ => t_ok (op_ok rfl rfl neS)) alls).trans ?_
  refine (seq_to (put_ok (lc_all (xs := [(h1, cl1, s1), (h2, cl2, s2)]) (fun q : Words × Bool × Slip => dDeed (.put q.1 q.2.1 q.2.2)) (fun q => dMaySlip (metOf r st.slips q.2.2)) (item rfl rfl) (show 2 ≤ 1000 by decide) (by
    intro q mq
    rcases pair q mq with rfl | rfl
    · exact ⟨_, rfl, call_ok (args rfl (args rfl (args rfl (args rfl args0)))) rfl z1⟩
    · exact ⟨_, rfl, call_ok (args rfl (args rfl (args rfl (args rfl args0)))) rfl z2⟩)))).trans ?_
  refine (seq_to (put_ok (lc_all (xs := [(h1, cl1, s1), (h2, cl2, s2)]) (fun q : Words × Bool × Slip => dDeed (.put q.1 q.2.1 q.2.2)) (fun q => dKeyL r q.2.2) (item rfl rfl) (show 2 ≤ 1000 by decide) (by
    intro q mq
    rcases pair q mq with rfl | rfl
    · exact ⟨_, rfl, call_ok (args rfl (args rfl args0)) rfl (s_lkey ok3)⟩
    · exact ⟨_, rfl, call_ok (args rfl (args rfl args0)) rfl (s_lkey ok3)⟩)))).trans ?_
  have keptN : dNotIn .non (.lst [dMaySlip (metOf r st.slips s1), dMaySlip (metOf r st.slips s2)]) = some (.bl (!((foundAt r st.slips s1).isNone || ((foundAt r st.slips s2).isNone || false)))) := by
    rw [nin_non fun d md => ?_]
    · show some (D.bl (!(eqD (dMaySlip (metOf r st.slips s1)) .non || (eqD (dMaySlip (metOf r st.slips s2)) .non || false)))) = _
      rw [may_non, may_non, met_is, met_is]
    · simp only [List.mem_cons, List.not_mem_nil, or_false] at md
      rcases md with rfl | rfl <;> exact ck_may (met_ok S.kept.slips)
  have keptB : ((!((foundAt r st.slips s1).isNone || ((foundAt r st.slips s2).isNone || false))) && ((!sameKey r s1 s2) && ((!r.renewed) && !eqStore (afterAll l r st [.put h1 cl1 s1, .put h2 cl2 s2]) (afterAll l r st [.put h2 cl2 s2, .put h1 cl1 s1])))) = false := by
    cases e1 : foundAt r st.slips s1 with
    | none => rfl
    | some n1 =>
      cases e2 : foundAt r st.slips s2 with
      | none => rfl
      | some n2 =>
        cases ne : sameKey r s1 s2 with
        | true => rfl
        | false =>
          cases nr : r.renewed with
          | true => rfl
          | false =>
            have e : afterAll l r st [.put h1 cl1 s1, .put h2 cl2 s2] = afterAll l r st [.put h2 cl2 s2, .put h1 cl1 s1] := two_kept (h := h1) (h2 := h2) (c := cl1) (c2 := cl2) S kr.low k1 k2 nr ne (by rw [e1]; rfl) (by rw [e2]; rfl)
            rw [e, eqStore_self]
            rfl
  exact if_off1 (and_ok (t_ok (op_ok (x := .non) (y := .lst [dMaySlip (metOf r st.slips s1), dMaySlip (metOf r st.slips s2)]) rfl rfl keptN)) fun _ => and_ok (t_ok (op_ok (ix_ok rfl rfl (at_0 _ _)) (ix_ok (z := dKeyL r s2) rfl rfl rfl) (dne_of (ck_keyL k1 62) (ck_keyL k2 62) (eqD_keyL r s1 s2)))) fun _ => and_ok (not_ok (t_ok (ix_ok (x := dctR r) (z := .bl r.renewed) rfl rfl rfl))) fun _ => t_ok (op_ok rfl rfl neS)) keptB
end Lw
set_option Elab.async false
set_option linter.all false
set_option maxRecDepth 100000
set_option maxHeartbeats 3900000
/-! P22b: law k22, the loops. -/
namespace Lw
open PySem PySem.Spec PyProof.Rows L2 DL Ty
theorem map_of {α : Type} {f : α → D} {P : α → Prop} : ∀ {ys : List D}, (∀ y ∈ ys, ∃ d, P d ∧ y = f d) → ∃ ds : List α, ys = ds.map f ∧ ∀ d ∈ ds, P d
  | [], _ => ⟨[], rfl, fun _ m => nomatch m⟩
  | y :: ys, h => by
    obtain ⟨d, p, rfl⟩ := h y List.mem_cons_self
    obtain ⟨ds, rfl, q⟩ := map_of (ys := ys) fun z m => h z (List.mem_cons_of_mem _ m)
    refine ⟨d :: ds, rfl, fun e m => ?_⟩
    rcases List.mem_cons.mp m with rfl | m
    · exact p
    · exact q e m
theorem turns22 {l : Ld} {r : Rl} {st : Store} {x k : D} (L : LandR l) (kr : RlOk r) (S : StoreOk l r st) (few : st.slips.length ≤ 300) (xs : List D) (cc : Cs) (o8 o9 o10 o11 o12 o13 o14 o15 o16 o17 o18 o19 : Option W) (dat : Dats [o8, o9, o10, o11, o12, o13, o14, o15, o16, o17, o18, o19]) (P : St 0 cc) :
    ∃ env' c2, forL (gvName 8) turnB xs [some (.d x), some (.d k), some (.cell 0), some (.d (dLd l)), some (.d (dctR r)), some (.d (dLand l)), some (.d (dRules r)), some (.d (dStore st)), o8, o9, o10, o11, o12, o13, o14, o15, o16, o17, o18, o19] cc = .nx env' c2 ∧ ∃ o8 o9 o10 o11 o12 o13 o14 o15 o16 o17 o18 o19, env' = [some (.d x), some (.d k), some (.cell 0), some (.d (dLd l)), some (.d (dctR r)), some (.d (dLand l)), some (.d (dRules r)), some (.d (dStore st)), o8, o9, o10, o11, o12, o13, o14, o15, o16, o17, o18, o19] ∧ Dats [o8, o9, o10, o11, o12, o13, o14, o15, o16, o17, o18, o19] := by
  obtain ⟨env', c2, run, o8, o9, o10, o11, o12, o13, o14, o15, o16, o17, o18, o19, e, d, _⟩ := for_inv (G := gvName 8) (b := turnB) (fun rem env c => ∃ o8 o9 o10 o11 o12 o13 o14 o15 o16 o17 o18 o19, env = [some (.d x), some (.d k), some (.cell 0), some (.d (dLd l)), some (.d (dctR r)), some (.d (dLand l)), some (.d (dRules r)), some (.d (dStore st)), o8, o9, o10, o11, o12, o13, o14, o15, o16, o17, o18, o19] ∧ Dats [o8, o9, o10, o11, o12, o13, o14, o15, o16, o17, o18, o19] ∧ St 0 c) (by
    rintro y ys env c ⟨o8, o9, o10, o11, o12, o13, o14, o15, o16, o17, o18, o19, rfl, d, P⟩
    simp only [dats_cons] at d
    obtain ⟨c2, p9, p10, p11, p12, p13, p14, p15, p16, p17, p18, m, d11, run⟩ := turn22 (x := x) (k := k) (some (.d y)) o9 o10 o11 o12 o13 o14 o15 o16 o17 o18 o19 P L kr S few d.2.2.2.1
    refine ⟨_, _, _, rfl, run, _, _, _, _, _, _, _, _, _, _, _, _, rfl, ?_, m.st⟩
    simp only [dats_cons]
    exact ⟨rfl, rfl, rfl, d11, rfl, rfl, rfl, rfl, rfl, rfl, rfl, d.2.2.2.2.2.2.2.2.2.2.2.1, rfl⟩) xs _ cc ⟨o8, o9, o10, o11, o12, o13, o14, o15, o16, o17, o18, o19, rfl, dat, P⟩
  exact ⟨env', c2, run, o8, o9, o10, o11, o12, o13, o14, o15, o16, o17, o18, o19, e, d⟩
def headB : MS := (sSeq (sSet 2 (mCall fn__law_pool 2 (mCons (mVar 0) (mCons (mVar 1) mNil)) []))
    (sSeq (sAsgT 2 (gvCons (gvName 3) (gvCons (gvName 4) gvNil)) (mCons (mCall fn__law_land 2 (mCons (mVar 2) (mCons (mC (.int 5)) mNil)) []) (mCons (mCall fn__law_rules 2 (mCons (mVar 2) (mCons (mC (.int 4)) mNil)) []) mNil)))
    (sSeq (sAsgT 2 (gvCons (gvName 5) (gvCons (gvName 6) gvNil)) (mCons (mCall fn__law_made_land 1 (mCons (mVar 3) mNil) []) (mCons (mCall fn__law_made_rules 1 (mCons (mVar 4) mNil) []) mNil)))
    (sSeq (sSet 7 (mCall fn_after_all 4 (mCons (mVar 5) (mCons (mVar 6) (mCons (mC c_EMPTY) (mCons (mLc (mRng1 (mCall fn__law_take 2 (mCons (mVar 2) (mCons (mC (.int 11)) mNil)) [])) [8] (gvName 8) tvYes (mCall fn__law_put 2 (mCons (mVar 2) (mCons (mVar 3) mNil)) [])) mNil)))) []))
    (sFor (mRng1 (mC (.int 16))) (gvName 8) turnB)))))
theorem head22 (ns : List Int) (i : Nat) (os : List (Option W)) (hi : i < 100) (len : os.length = 17) (dat : Dats os) :
    ∃ os' p c2, headB (some (.d (.scr (ns.map .int))) :: some (.d (.int i)) :: none :: os) [] = .nx (some (.d (.scr (ns.map .int))) :: some (.d (.int i)) :: p :: os') c2 ∧ os'.length = 17 ∧ Dats os' := by
  obtain ⟨a, b, ha, pool⟩ := pool_ok (ns := ns) (k := i) (cc := []) rfl hi
  have P : St 0 [some (C.lst [.int a, .int b])] := ⟨rfl, a, b, ha, rfl⟩
  obtain ⟨c1, l, m1, L, r1⟩ := d_land (top := 5) P (by decide) (by decide)
  obtain ⟨c2, r, m2, kr, nm, r2⟩ := d_rules (top := 4) m1.st (by decide) (by decide)
  obtain ⟨c3, q, m3, q0, qm, r3⟩ := d_take (m := 11) m2.st (by decide) (by decide)
  obtain ⟨o3, o4, o5, o6, o7, o8, o9, o10, o11, o12, o13, o14, o15, o16, o17, o18, o19, rfl⟩ : ∃ o3 o4 o5 o6 o7 o8 o9 o10 o11 o12 o13 o14 o15 o16 o17 o18 o19, os = [o3, o4, o5, o6, o7, o8, o9, o10, o11, o12, o13, o14, o15, o16, o17, o18, o19] := by
    match os, len with
    | [o3, o4, o5, o6, o7, o8, o9, o10, o11, o12, o13, o14, o15, o16, o17, o18, o19], _ => exact ⟨o3, o4, o5, o6, o7, o8, o9, o10, o11, o12, o13, o14, o15, o16, o17, o18, o19, rfl⟩
  have d := dat
  simp only [dats_cons] at d
  obtain ⟨c4, ys, r4, m4, ly, good⟩ := lc_mv (n := 0) (env := [some (.d (.scr (ns.map .int))), some (.d (.int i)), some (.cell 0), some (.d (dLd l)), some (.d (dctR r)), some (.d (dLand l)), some (.d (dRules r)), o7, o8, o9, o10, o11, o12, o13, o14, o15, o16, o17, o18, o19]) (vs := [8]) (G := gvName 8) (m := mCall fn__law_put 2 (mCons (mVar 2) (mCons (mVar 3) mNil)) []) (fun y => ∃ d, DeedOk d ∧ y = dDeed d) (rng_mv (m := mCall fn__law_take 2 (mCons (mVar 2) (mCons (mC (.int 11)) mNil)) []) (call_mv (args_mv rfl (args_mv rfl args0)) rfl r3) q0 (by omega)) (by simp only [rangeOf, List.length_map, List.length_range]; omega) m3.st (by
    intro x c S
    obtain ⟨c', hs, cl, s, mv, mh, ks, run⟩ := d_put L S
    exact ⟨_, c', _, rfl, call_mv (args_mv rfl (args_mv rfl args0)) rfl run, mv, .put hs cl s, ⟨house_ok L mh, ks⟩, rfl⟩)
  obtain ⟨ds, rfl, kd⟩ := map_of good
  rw [List.length_map] at ly
  have lq : ds.length ≤ 20 := by
    rw [ly]
    simp only [rangeOf, List.length_map, List.length_range]
    omega
  have af := s_after_all m4.st.ok (l := l) (r := r) (st := ⟨1, []⟩) (ds := ds) L.ok kr empty_ok kd (by simp only [List.length_nil]; omega)
  have S1 := after_ok (l := l) kr.low (st := ⟨1, []⟩) empty_ok kd
  obtain ⟨env', c5, run, p8, p9, p10, p11, p12, p13, p14, p15, p16, p17, p18, p19, rfl, dq⟩ := turns22 (x := .scr (ns.map .int)) (k := .int i) L kr S1.1 (Nat.le_trans S1.2 (by simp only [List.length_nil]; omega)) (rangeOf 0 16) c4 o8 o9 o10 o11 o12 o13 o14 o15 o16 o17 o18 o19 (by simp only [dats_cons]; exact d.2.2.2.2.2) m4.st
  refine ⟨[some (.d (dLd l)), some (.d (dctR r)), some (.d (dLand l)), some (.d (dRules r)), some (.d (dStore (afterAll l r ⟨1, []⟩ ds))), p8, p9, p10, p11, p12, p13, p14, p15, p16, p17, p18, p19], some (.cell 0), c5, ?_, rfl, ?_⟩
  · refine (seq_to (put_ok (call_mv (args_mv rfl (args_mv rfl args0)) rfl pool))).trans ?_
    refine (seq_to (asgT_mv (args_mv (call_mv (args_mv rfl (args_mv rfl args0)) rfl r1) (args_mv (call_mv (args_mv rfl (args_mv rfl args0)) rfl r2) args0)) rfl (show 2 ≤ 1000 by decide) rfl)).trans ?_
    refine (seq_to (asgT_mv (args_mv (call_mv (args_mv rfl args0) rfl (d_made_land m2.st.ok L)) (args_mv (call_mv (args_mv rfl args0) rfl (d_made_rules m2.st.ok kr nm)) args0)) rfl (show 2 ≤ 1000 by decide) rfl)).trans ?_
    refine (seq_to (put_ok (call_mv (args_mv rfl (args_mv rfl (args_mv rfl (args_mv r4 args0)))) rfl af))).trans ?_
    exact for_mv (rng_mv (i := 16) rfl (by decide) (by decide)) run
  · simp only [dats_cons] at dq ⊢
    exact ⟨rfl, rfl, rfl, rfl, rfl, dq⟩
theorem plain (ns : List Int) (_ : ns.length ≤ 63) : ∃ cc, fn_law [.d (.scr (ns.map .int))] [] = .ok (.d (.bl true)) cc :=
  drawn_plain (N := 17) (B := headB) (top := 8) (by decide) (by decide) head22 ns
end Lw
theorem PySem.Challenge.cw_visitslips_k22_whole_puts_exchanged_holds : PySem.Challenge.rw_visitslips_k22_whole_puts_exchanged.Holds := by
  exact Lw.join Lw.plain
