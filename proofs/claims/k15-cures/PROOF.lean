import PyProof.Rows.All
import Wide.All
import OpenK.AllK
import Wide.FinOn
import HandS.Base
import HandS.Call
import HandS.List
import HandS.Comp
import HandS.Ends
import HandS.Dict
import HandS.Iter
import HandS.Text
import HandS.Words
import KE.KDictCopyH
import KE.DataEq
import HandS.TupAny
import HandS.Defaults
import KE.SortData
import HandS.Style
import HandS.IsInst
import HandS.DictComp
import KE.KDictKeyed
import HandS.Strs
import HandS.SetFor
import KE.DataFind
import HandS.Conv
import HandS.HeadEnd
import KE.GoesMore
import HandS.OwnEq
import HandS.DeepEq
import HandS.Codes
import HandS.TupLe
import KE.Datum
import PyProof.StrLawsRepr
import HandS.Head0
import HandS.Head1
import HandS.Head2
import HandS.HeadHook1
import HandS.HeadHook2
import HandS.HeadHook4
import PySem.Challenge.RW_ondemand_k15_what_a_cure_is
section
set_option Elab.async false
set_option linter.all false
set_option autoImplicit false
set_option maxRecDepth 100000
/-! Pd: python over plain data. Values are PyData (closed, never changed again) or names of open cells; a store of open cells; readings of semantic functions. -/
namespace Pd
open PySem L2

/-- the program and the world, fixed through a proof -/
class Wd where
  P : Program
  w : World
variable [Wd]

/-- a value: plain data, an open cell, the script -/
inductive W where
  | p (d : PyData)
  | o (n : Nat)
  | s (ns : List Int)

inductive Cell where
  | lst (ds : List PyData)
  | dic (kvs : List (PyData × PyData))
  | dit (kvs : List (PyData × PyData))
  | rcd (kvs : List (Str × W))
  | ins (c : Str) (fs : List (Str × W))
  | frz (d : PyData)

abbrev Sto := List Cell
abbrev En := List (Option W)

/-- an exception: its class's name, its fields -/
structure Exn where
  cls : Str
  fs : List (Str × W)

inductive Res (α : Type) where
  | ok (a : α) (st : Sto)
  | exc (x : Exn) (st : Sto)
  | bad

def Res.bind {α β : Type} (r : Res α) (f : α → Sto → Res β) : Res β := match r with
  | .ok a st => f a st
  | .exc x st => .exc x st
  | .bad => .bad

abbrev SemE := En → Sto → Res W
abbrev SemT := En → Sto → Res Bool
abbrev SemA := En → Sto → Res (List W)

/-- how a statement ends -/
inductive Fl where
  | nx (en : En)
  | rt (w : W)
  | bk (en : En)
  | ct (en : En)
abbrev SemS := En → Sto → Res Fl

structure Bx where
  P : Program
  w : World
  K : PySem.W.Frag
  mg : Str → Option Value
  /-- a frame: objects that nobody touches meanwhile -/
  F : Hp
def bx (X : Cx) (F : Hp) : Bx := ⟨X.prog, X.w, X.K, X.mg, F⟩

def keyD : Key → PyData
  | .inl i => .int i
  | .inr x => .str x

/-! ### dicts whose keys are tuples of leaves -/
def leafV : Leaf → V
  | .none => .non
  | .num i => .int i
  | .text x => .str x
def leafD : Leaf → PyData
  | .none => .none
  | .num i => .int i
  | .text x => .str x
/-- one kind of keys -/
abbrev tkn := tupleKind (leafKind Wd.P Wd.w)
abbrev TE3 := List Leaf × Addr × V
/-- the entries as they lie in the object at a -/
def DtAt (a : Addr) (kvs : List TE3) (h : Heap) : Prop := kvs.length ≤ sizeLine ∧ (a == sysModules) = false ∧ ∃ xs : List (List Leaf × Addr × Value), Paired (fun (p : TE3) (q : List Leaf × Addr × Value) => p.1 = q.1 ∧ p.2.1 = q.2.1 ∧ RelV p.2.2 q.2.2) kvs xs ∧
  ∃ o es ep, h.get? a = some o ∧ o.ExactDict ∧ o.data = .dict es ep ∧ es.toList = xs.map (entryOfKey tkn) ∧ (xs.map (·.1)).Nodup
def dTO (a : Addr) (kvs : List TE3) : HO := .ext (DtAt a kvs)

/-! ### what represents what -/
mutual
inductive Rp (G : Hp) : V → PyData → Prop
  | non : Rp G .non .none
  | bl (b : Bool) : Rp G (.bl b) (.bool b)
  | int (i : Int) : Rp G (.int i) (.int i)
  | str (x : Str) : Rp G (.str x) (.str x)
  | lst {a : Addr} {xs : List V} {ds : List PyData} : G a = some (.lst xs) → xs.length ≤ sizeLine → Rps G xs ds → Rp G (.ref a) (.list ds)
  | tup {a : Addr} {xs : List V} {ds : List PyData} : G a = some (.tup xs) → xs.length ≤ sizeLine → Rps G xs ds → Rp G (.ref a) (.tuple ds)
  | dic {a : Addr} {o : Obj} {kvs : List (Key × V)} {ds : List (PyData × PyData)} : G a = some (.frz o (.dK kvs)) → Rkv G kvs ds → Rp G (.ref a) (.dict ds)
  | dit {a : Addr} {kvs : List TE3} {ds : List (PyData × PyData)} : G a = some (dTO a kvs) → kvs ≠ [] → Rtv G kvs ds → Rp G (.ref a) (.dict ds)
inductive Rps (G : Hp) : List V → List PyData → Prop
  | nil : Rps G [] []
  | cons {v : V} {vs : List V} {d : PyData} {ds : List PyData} : Rp G v d → Rps G vs ds → Rps G (v :: vs) (d :: ds)
inductive Rkv (G : Hp) : List (Key × V) → List (PyData × PyData) → Prop
  | nil : Rkv G [] []
  | cons {k : Key} {v : V} {kvs : List (Key × V)} {d : PyData} {ds : List (PyData × PyData)} : Rp G v d → Rkv G kvs ds → Rkv G ((k, v) :: kvs) ((keyD k, d) :: ds)
inductive Rtv (G : Hp) : List TE3 → List (PyData × PyData) → Prop
  | nil : Rtv G [] []
  | cons {ks : List Leaf} {q : Addr} {v : V} {kvs : List TE3} {d : PyData} {ds : List (PyData × PyData)} : G q = some (.tup (ks.map leafV)) → Rp G v d → Rtv G kvs ds → Rtv G ((ks, q, v) :: kvs) ((.tuple (ks.map leafD), d) :: ds)
end

/-- more is closed than before -/
def Sub (G G' : Hp) : Prop := ∀ a u, G a = some u → G' a = some u
theorem Sub.refl (G : Hp) : Sub G G := fun _ _ h => h
theorem Sub.trans {G H J : Hp} (a : Sub G H) (b : Sub H J) : Sub G J := fun c u h => b c u (a c u h)

mutual
theorem Rp.sub {G G' : Hp} (s : Sub G G') : ∀ {v : V} {d : PyData}, Rp G v d → Rp G' v d
  | _, _, .non => .non
  | _, _, .bl b => .bl b
  | _, _, .int i => .int i
  | _, _, .str x => .str x
  | _, _, .lst h z r => .lst (s _ _ h) z (Rps.sub s r)
  | _, _, .tup h z r => .tup (s _ _ h) z (Rps.sub s r)
  | _, _, .dic h r => .dic (s _ _ h) (Rkv.sub s r)
  | _, _, .dit h z r => .dit (s _ _ h) z (Rtv.sub s r)
theorem Rps.sub {G G' : Hp} (s : Sub G G') : ∀ {vs : List V} {ds : List PyData}, Rps G vs ds → Rps G' vs ds
  | _, _, .nil => .nil
  | _, _, .cons h r => .cons (Rp.sub s h) (Rps.sub s r)
theorem Rkv.sub {G G' : Hp} (s : Sub G G') : ∀ {vs : List (Key × V)} {ds : List (PyData × PyData)}, Rkv G vs ds → Rkv G' vs ds
  | _, _, .nil => .nil
  | _, _, .cons h r => .cons (Rp.sub s h) (Rkv.sub s r)
theorem Rtv.sub {G G' : Hp} (s : Sub G G') : ∀ {vs : List TE3} {ds : List (PyData × PyData)}, Rtv G vs ds → Rtv G' vs ds
  | _, _, .nil => .nil
  | _, _, .cons h g r => .cons (s _ _ h) (Rp.sub s g) (Rtv.sub s r)
end

abbrev Al := List Addr
/-- a value of either sort -/
def Rw (B : Bx) (G : Hp) (al : Al) (v : V) : W → Prop
  | .p d => Rp G v d
  | .o n => ∃ a, al[n]? = some a ∧ v = .ref a
  | .s ns => ∃ a, v = .ref a ∧ SqL B.K G a (ns.map V.int)
abbrev Rws (B : Bx) (G : Hp) (al : Al) : List V → List W → Prop := Paired (Rw B G al)
/-- fields: the same names in the same order -/
abbrev Rfs (B : Bx) (G : Hp) (al : Al) : List (Str × V) → List (Str × W) → Prop := Paired fun p q => p.1 = q.1 ∧ Rw B G al p.2 q.2
abbrev Rrs (B : Bx) (G : Hp) (al : Al) : List (Key × V) → List (Str × W) → Prop := Paired fun p q => p.1 = .inr q.1 ∧ Rw B G al p.2 q.2

/-- a dict or list or tuple that is locked may be read -/
def Sam (G H : Hp) : Prop := ∀ a u, G a = some u → H a = some u ∨ ((∃ kvs, u = .dK kvs) ∧ ∃ o, H a = some (.frz o u))

def CellOk (B : Bx) (G : Hp) (al : Al) (H : Hp) (a : Addr) : Cell → Prop
  | .lst ds => G a = none ∧ ∃ xs, H a = some (.lst xs) ∧ xs.length ≤ sizeLine ∧ Rps G xs ds
  | .dic ds => G a = none ∧ ∃ kvs, H a = some (.dK kvs) ∧ Rkv G kvs ds
  | .dit ds => G a = none ∧ ∃ kvs, H a = some (dTO a kvs) ∧ Rtv G kvs ds
  | .rcd ds => G a = none ∧ ∃ kvs, H a = some (.dK kvs) ∧ Rrs B G al kvs ds
  | .ins c ds => G a = none ∧ ∃ C dx fs, B.mg c = some (.ref C) ∧ H a = some (.ins C dx fs) ∧ Rfs B G al fs ds
  | .frz d => Rp G (.ref a) d

structure RelS (B : Bx) (G : Hp) (al : Al) (st : Sto) (H : Hp) : Prop where
  pw : B.P = Wd.P ∧ B.w = Wd.w
  len : al.length = st.length
  nd : al.Nodup
  sam : Sam G H
  frm : ∀ a u, B.F a = some u → H a = some u ∧ a ∉ al ∧ G a = none
  has : ∀ a ∈ al, ∃ u, H a = some u
  cel : ∀ (n : Nat) (a : Addr) (c : Cell), al[n]? = some a → st[n]? = some c → CellOk B G al H a c

structure Rel (B : Bx) (G : Hp) (al : Al) (en : En) (st : Sto) (σ : St) (H : Hp) : Prop where
  s : RelS B G al st H
  len : en.length = σ.length
  loc : ∀ (i : Nat) (w : W), en[i]? = some (some w) → ∃ v, σ[i]? = some (some v) ∧ Rw B G al v w

/-- the closed heap and the open addresses grow -/
structure Gr (G : Hp) (al : Al) (G' : Hp) (al' : Al) : Prop where
  sub : Sub G G'
  pre : ∀ (n : Nat) (a : Addr), al[n]? = some a → al'[n]? = some a
theorem Gr.refl (G : Hp) (al : Al) : Gr G al G al := ⟨Sub.refl G, fun _ _ h => h⟩
theorem Gr.trans {G G1 G2 : Hp} {al al1 al2 : Al} (a : Gr G al G1 al1) (b : Gr G1 al1 G2 al2) : Gr G al G2 al2 :=
  ⟨a.sub.trans b.sub, fun n x h => b.pre n x (a.pre n x h)⟩

section
variable {B : Bx} {G G' : Hp} {al al' : Al} {en : En} {st st' : Sto} {σ : St} {H H' : Hp} {v : V} {w : W}
theorem SqL.sub {K : PySem.W.Frag} {a : Addr} {xs : List V} (s : Sub G G') (h : SqL K G a xs) : SqL K G' a xs := by
  rcases h with (h | ⟨o, h⟩) | h
  · exact .inl (.inl (s _ _ h))
  · exact .inl (.inr ⟨o, s _ _ h⟩)
  · exact .inr h
theorem Rw.gr (g : Gr G al G' al') (r : Rw B G al v w) : Rw B G' al' v w := by
  cases w with
  | p d => exact Rp.sub g.sub r
  | o n => obtain ⟨a, h, e⟩ := r; exact ⟨a, g.pre _ _ h, e⟩
  | s ns => obtain ⟨a, e, h⟩ := r; exact ⟨a, e, SqL.sub g.sub h⟩
theorem Rws.gr (g : Gr G al G' al') {vs : List V} {ws : List W} (r : Rws B G al vs ws) : Rws B G' al' vs ws := Paired.mapP r fun _ _ h => h.gr g
theorem Rfs.gr (g : Gr G al G' al') {vs : List (Str × V)} {ws : List (Str × W)} (r : Rfs B G al vs ws) : Rfs B G' al' vs ws := Paired.mapP r fun _ _ h => ⟨h.1, h.2.gr g⟩
theorem Rrs.gr (g : Gr G al G' al') {vs : List (Key × V)} {ws : List (Str × W)} (r : Rrs B G al vs ws) : Rrs B G' al' vs ws := Paired.mapP r fun _ _ h => ⟨h.1, h.2.gr g⟩
theorem Rel.to (R : Rel B G al en st σ H) (g : Gr G al G' al') (rs : RelS B G' al' st' H') : Rel B G' al' en st' σ H' :=
  ⟨rs, R.len, fun i w h => let ⟨v, e, r⟩ := R.loc i w h; ⟨v, e, r.gr g⟩⟩
end

/-! ### what is wanted of an outcome -/
/-- an exception's own dict -/
def XdOk (B : Bx) (G : Hp) (al : Al) (H : Hp) (d : Option Addr) (fs : List (Str × W)) : Prop :=
  (d = none ∧ fs = []) ∨ ∃ a gs, d = some a ∧ H a = some (.xd gs) ∧ Rfs B G al gs fs

def Post {α : Type} (B : Bx) (E : XK) (G : Hp) (al : Al) (Q : α → Hp → Al → Sto → Hp → Prop) : Res α → Prop
  | .ok x st => ∀ G' al' H', Gr G al G' al' → RelS B G' al' st H' → Q x G' al' st H'
  | .exc x st => ∀ C d G' al' H', Gr G al G' al' → RelS B G' al' st H' → B.mg x.cls = some (.ref C) → XdOk B G' al' H' d x.fs → E (.ref C) d H'
  | .bad => False
theorem Post.gr {α : Type} {B : Bx} {E : XK} {G G' : Hp} {al al' : Al} {Q : α → Hp → Al → Sto → Hp → Prop} {r : Res α} (p : Post B E G al Q r) (g : Gr G al G' al') : Post B E G' al' Q r := by
  cases r with
  | ok x st => exact fun G2 al2 H2 g2 rs => p G2 al2 H2 (g.trans g2) rs
  | exc x st => exact fun C d G2 al2 H2 g2 rs hm hx => p C d G2 al2 H2 (g.trans g2) rs hm hx
  | bad => exact p
theorem Post.imp {α : Type} {B : Bx} {E : XK} {G : Hp} {al : Al} {Q Q' : α → Hp → Al → Sto → Hp → Prop} {r : Res α} (p : Post B E G al Q r)
    (h : ∀ x G' al' st H', Gr G al G' al' → RelS B G' al' st H' → Q x G' al' st H' → Q' x G' al' st H') : Post B E G al Q' r := by
  cases r with
  | ok x st => exact fun G2 al2 H2 g2 rs => h _ _ _ _ _ g2 rs (p G2 al2 H2 g2 rs)
  | exc x st => exact p
  | bad => exact p
theorem Post.bind {α β : Type} {B : Bx} {E : XK} {G : Hp} {al : Al} {Q : β → Hp → Al → Sto → Hp → Prop} {r : Res α} {f : α → Sto → Res β} (p : Post B E G al Q (r.bind f)) :
    Post B E G al (fun x G' al' st _ => Post B E G' al' Q (f x st)) r := by
  cases r with
  | ok x st => exact fun G2 al2 H2 g2 rs => p.gr g2
  | exc x st => exact p
  | bad => exact p

/-- the value comes back -/
def PQ (B : Bx) (Q : VK) (w : W) (G' : Hp) (al' : Al) (_ : Sto) (H' : Hp) : Prop := ∀ v, Rw B G' al' v w → Q v H'
def PQs (B : Bx) (Q : List V → Hp → Prop) (ws : List W) (G' : Hp) (al' : Al) (_ : Sto) (H' : Hp) : Prop := ∀ vs, Rws B G' al' vs ws → Q vs H'
/-- the readings of semantic functions -/
def tD (b : Hp → Bx) (E : XK) (s : SemE) : TE := fun σ H Q => ∃ F G al en st, Rel (b F) G al en st σ H ∧ Post (b F) E G al (PQ (b F) Q) (s en st)
def tDT (b : Hp → Bx) (E : XK) (s : SemT) : TT := fun σ H Q => ∃ F G al en st, Rel (b F) G al en st σ H ∧ Post (b F) E G al (fun c _ _ _ H' => Q c H') (s en st)
def tDA (b : Hp → Bx) (E : XK) (s : SemA) : TA := fun σ H Q => ∃ F G al en st, Rel (b F) G al en st σ H ∧ Post (b F) E G al (PQs (b F) Q) (s en st)
/-- an environment as slots -/
def EnvOk (B : Bx) (G : Hp) (al : Al) (en : En) (σ : St) : Prop := en.length = σ.length ∧ ∀ (i : Nat) (w : W), en[i]? = some (some w) → ∃ v, σ[i]? = some (some v) ∧ Rw B G al v w
def PF (B : Bx) (D : Ends) (f : Fl) (G' : Hp) (al' : Al) (_ : Sto) (H' : Hp) : Prop := match f with
  | .nx en => ∀ σ', EnvOk B G' al' en σ' → D.nx σ' H'
  | .rt w => ∀ v, Rw B G' al' v w → D.rt v H'
  | .bk en => ∀ σ', EnvOk B G' al' en σ' → D.bk σ' H'
  | .ct en => ∀ σ', EnvOk B G' al' en σ' → D.ct σ' H'
def tDS (b : Hp → Bx) (E : XK) (s : SemS) : TS := fun D σ H => ∃ F G al en st, Rel (b F) G al en st σ H ∧ Post (b F) E G al (PF (b F) D) (s en st)

abbrev SE (X : Cx) (E : XK) (e : Expr) (s : SemE) : Prop := PE X e (tD (bx X) E s)
abbrev ST (X : Cx) (E : XK) (e : Expr) (s : SemT) : Prop := PT X e (tDT (bx X) E s)
abbrev SA (X : Cx) (E : XK) (es : List Expr) (s : SemA) : Prop := PA X es (tDA (bx X) E s)
abbrev SS (X : Cx) (E : XK) (st : Stmt) (s : SemS) : Prop := PS X st (tDS (bx X) E s)
abbrev SSs (X : Cx) (E : XK) (st : List Stmt) (s : SemS) : Prop := PSs X st (tDS (bx X) E s)

theorem _root_.L2.PE.weak {X : Cx} {e : Expr} {t t' : TE} (h : PE X e t) (i : ∀ σ H Q, t' σ H Q → t σ H Q) : PE X e t' := ⟨fun pins s σ H Q I q => h.run pins s σ H Q I (i σ H Q q)⟩
theorem _root_.L2.PT.weak {X : Cx} {e : Expr} {t t' : TT} (h : PT X e t) (i : ∀ σ H Q, t' σ H Q → t σ H Q) : PT X e t' := ⟨fun pins s σ H Q I q => h.run pins s σ H Q I (i σ H Q q)⟩
theorem _root_.L2.PA.weak {X : Cx} {e : List Expr} {t t' : TA} (h : PA X e t) (i : ∀ σ H Q, t' σ H Q → t σ H Q) : PA X e t' := ⟨fun pos pins s σ H Q I q => h.run pos pins s σ H Q I (i σ H Q q)⟩
theorem _root_.L2.PS.weak {X : Cx} {e : Stmt} {t t' : TS} (h : PS X e t) (i : ∀ D σ H, t' D σ H → t D σ H) : PS X e t' := ⟨fun pins s σ H D I q => h.run pins s σ H D I (i D σ H q)⟩
theorem _root_.L2.PSs.weak {X : Cx} {e : List Stmt} {t t' : TS} (h : PSs X e t) (i : ∀ D σ H, t' D σ H → t D σ H) : PSs X e t' := ⟨fun pins s σ H D I q => h.run pins s σ H D I (i D σ H q)⟩

/-- THE SPLIT: the first part's reading, and what is left behind it -/
theorem tD_bind {b : Hp → Bx} {F : Hp} {E : XK} {sa : SemE} {β : Type} {k : W → En → Sto → Res β} {G : Hp} {al : Al} {en : En} {st : Sto} {σ : St} {H : Hp} {Q : β → Hp → Al → Sto → Hp → Prop} (R : Rel (b F) G al en st σ H)
    (p : Post (b F) E G al Q ((sa en st).bind fun w st' => k w en st')) {Q' : VK}
    (h : ∀ x H1 G1 al1 st1 w, Rel (b F) G1 al1 en st1 σ H1 → Rw (b F) G1 al1 x w → Post (b F) E G1 al1 Q (k w en st1) → Gr G al G1 al1 → Q' x H1) : tD b E sa σ H Q' :=
  ⟨F, G, al, en, st, R, p.bind.imp fun w G1 al1 st1 H1 g rs q v rv => h v H1 G1 al1 st1 w (R.to g rs) rv q g⟩
theorem tDT_bind {b : Hp → Bx} {F : Hp} {E : XK} {sa : SemT} {β : Type} {k : Bool → En → Sto → Res β} {G : Hp} {al : Al} {en : En} {st : Sto} {σ : St} {H : Hp} {Q : β → Hp → Al → Sto → Hp → Prop} (R : Rel (b F) G al en st σ H)
    (p : Post (b F) E G al Q ((sa en st).bind fun w st' => k w en st')) {Q' : Bool → Hp → Prop}
    (h : ∀ c H1 G1 al1 st1, Rel (b F) G1 al1 en st1 σ H1 → Post (b F) E G1 al1 Q (k c en st1) → Gr G al G1 al1 → Q' c H1) : tDT b E sa σ H Q' :=
  ⟨F, G, al, en, st, R, p.bind.imp fun w G1 al1 st1 H1 g rs q => h w H1 G1 al1 st1 (R.to g rs) q g⟩
theorem tDA_bind {b : Hp → Bx} {F : Hp} {E : XK} {sa : SemA} {β : Type} {k : List W → En → Sto → Res β} {G : Hp} {al : Al} {en : En} {st : Sto} {σ : St} {H : Hp} {Q : β → Hp → Al → Sto → Hp → Prop} (R : Rel (b F) G al en st σ H)
    (p : Post (b F) E G al Q ((sa en st).bind fun w st' => k w en st')) {Q' : List V → Hp → Prop}
    (h : ∀ xs H1 G1 al1 st1 ws, Rel (b F) G1 al1 en st1 σ H1 → Rws (b F) G1 al1 xs ws → Post (b F) E G1 al1 Q (k ws en st1) → Gr G al G1 al1 → Q' xs H1) : tDA b E sa σ H Q' :=
  ⟨F, G, al, en, st, R, p.bind.imp fun w G1 al1 st1 H1 g rs q v rv => h v H1 G1 al1 st1 w (R.to g rs) rv q g⟩

end Pd
end

section
set_option Elab.async false
set_option linter.all false
set_option autoImplicit false
set_option maxRecDepth 100000
/-! Pd: the heap's steps: a new closed object, a new open cell, a cell written, a cell closed; what a value stands for. -/
namespace Pd
open PySem L2
variable [Wd]

section
variable {B : Bx} {G G' : Hp} {al al' : Al} {en : En} {st st' : Sto} {σ : St} {H H' : Hp} {v : V} {w : W} {p a : Addr} {u : HO} {c : Cell} {n : Nat}

theorem CellOk.move (x : CellOk B G al H a c) (g : Gr G al G' al') (h : H' a = H a) (hn : G a = none → G' a = none) : CellOk B G' al' H' a c := by
  cases c with
  | lst ds => obtain ⟨g0, xs, e, z, r⟩ := x; exact ⟨hn g0, xs, h.trans e, z, r.sub g.sub⟩
  | dic ds => obtain ⟨g0, xs, e, r⟩ := x; exact ⟨hn g0, xs, h.trans e, r.sub g.sub⟩
  | dit ds => obtain ⟨g0, xs, e, r⟩ := x; exact ⟨hn g0, xs, h.trans e, r.sub g.sub⟩
  | rcd ds => obtain ⟨g0, xs, e, r⟩ := x; exact ⟨hn g0, xs, h.trans e, Rrs.gr g r⟩
  | ins c ds => obtain ⟨g0, C, dx, fs, hm, e, r⟩ := x; exact ⟨hn g0, C, dx, fs, hm, h.trans e, Rfs.gr g r⟩
  | frz d => exact Rp.sub g.sub x

theorem RelS.free (R : RelS B G al st H) (h : H p = none) : G p = none ∧ p ∉ al := by
  refine ⟨?_, fun hm => ?_⟩
  · cases e : G p with
    | none => rfl
    | some u =>
      rcases R.sam p u e with q | ⟨_, o, q⟩
      · rw [h] at q; cases q
      · rw [h] at q; cases q
  · obtain ⟨u, q⟩ := R.has p hm
    rw [h] at q; cases q
theorem Sub.upd (h : G p = none) : Sub G (upd G p u) := fun a x e => by
  have hne : a ≠ p := fun z => by rw [z, h] at e; cases e
  rw [upd_ne hne]; exact e
theorem RelS.get (R : RelS B G al st H) (h : al[n]? = some a) : ∃ c, st[n]? = some c ∧ CellOk B G al H a c := by
  have hl : n < al.length := (List.getElem?_eq_some_iff.mp h).1
  have hs : n < st.length := by rw [← R.len]; exact hl
  exact ⟨st[n], List.getElem?_eq_getElem hs, R.cel n a _ h (List.getElem?_eq_getElem hs)⟩

/-- a new closed object -/
theorem RelS.close (R : RelS B G al st H) (h : H p = none) : Gr G al (upd G p u) al ∧ RelS B (upd G p u) al st (upd H p u) := by
  obtain ⟨g0, hp⟩ := R.free h
  have g : Gr G al (upd G p u) al := ⟨Sub.upd g0, fun _ _ h => h⟩
  refine ⟨g, R.pw, R.len, R.nd, fun b x e => ?_, fun b x e => ?_, fun b hb => ?_, fun m b c e1 e2 => ?_⟩
  · by_cases hb : b = p
    · subst hb; rw [upd_same] at e ⊢; exact .inl e
    · rw [upd_ne hb] at e ⊢; exact R.sam b x e
  · obtain ⟨f1, f2, f3⟩ := R.frm b x e
    have hb : b ≠ p := fun z => by rw [z, h] at f1; cases f1
    exact ⟨by rw [upd_ne hb]; exact f1, f2, by rw [upd_ne hb]; exact f3⟩
  · obtain ⟨x, e⟩ := R.has b hb
    have hne : b ≠ p := fun z => by rw [z, h] at e; cases e
    exact ⟨x, by rw [upd_ne hne]; exact e⟩
  · have hne : b ≠ p := fun z => hp (z ▸ List.mem_of_getElem? e1)
    exact (R.cel m b c e1 e2).move g (upd_ne hne) fun q => by rw [upd_ne hne]; exact q
/-- a heap where more is tracked beside -/
theorem RelS.beside (R : RelS B G al st H) (h : H p = none) : RelS B G al st (upd H p u) := by
  obtain ⟨g0, hp⟩ := R.free h
  refine ⟨R.pw, R.len, R.nd, fun b x e => ?_, fun b x e => ?_, fun b hb => ?_, fun m b c e1 e2 => ?_⟩
  · have hb : b ≠ p := fun z => by rw [z, g0] at e; cases e
    rw [upd_ne hb]; exact R.sam b x e
  · obtain ⟨f1, f2, f3⟩ := R.frm b x e
    have hb : b ≠ p := fun z => by rw [z, h] at f1; cases f1
    exact ⟨by rw [upd_ne hb]; exact f1, f2, f3⟩
  · obtain ⟨x, e⟩ := R.has b hb
    have hne : b ≠ p := fun z => by rw [z, h] at e; cases e
    exact ⟨x, by rw [upd_ne hne]; exact e⟩
  · have hne : b ≠ p := fun z => hp (z ▸ List.mem_of_getElem? e1)
    exact (R.cel m b c e1 e2).move (Gr.refl _ _) (upd_ne hne) fun q => q
/-- a new open cell at a tracked address -/
theorem RelS.add (R : RelS B G al st H) (hp : p ∉ al) (hF : B.F p = none) (hu : H p = some u) (hc : CellOk B G (al ++ [p]) H p c) : Gr G al G (al ++ [p]) ∧ RelS B G (al ++ [p]) (st ++ [c]) H := by
  have pre : ∀ (n : Nat) (a : Addr), al[n]? = some a → (al ++ [p])[n]? = some a := fun n a e => by
    have hl : n < al.length := (List.getElem?_eq_some_iff.mp e).1
    rw [List.getElem?_append_left hl]; exact e
  have g : Gr G al G (al ++ [p]) := ⟨Sub.refl G, pre⟩
  refine ⟨g, R.pw, by simp [R.len], ?_, R.sam, fun b x e => ?_, fun b hb => ?_, fun m b c' e1 e2 => ?_⟩
  · refine List.nodup_append.mpr ⟨R.nd, List.nodup_cons.mpr ⟨by simp, List.nodup_nil⟩, fun x hx y hy => ?_⟩
    rcases List.mem_cons.mp hy with rfl | hy
    · exact fun z => hp (z ▸ hx)
    · cases hy
  · obtain ⟨f1, f2, f3⟩ := R.frm b x e
    refine ⟨f1, fun hm => ?_, f3⟩
    rcases List.mem_append.mp hm with hm | hm
    · exact f2 hm
    · rcases List.mem_cons.mp hm with rfl | hm
      · rw [hF] at e; cases e
      · cases hm
  · rcases List.mem_append.mp hb with hb | hb
    · exact R.has b hb
    · rcases List.mem_cons.mp hb with rfl | hb
      · exact ⟨u, hu⟩
      · cases hb
  · by_cases hm : m < al.length
    · rw [List.getElem?_append_left hm] at e1
      rw [List.getElem?_append_left (by rw [← R.len]; exact hm)] at e2
      exact (R.cel m b c' e1 e2).move g rfl fun q => q
    · have hlen : m < (al ++ [p]).length := (List.getElem?_eq_some_iff.mp e1).1
      have e : m = al.length := by rw [List.length_append] at hlen; simp at hlen; omega
      subst e
      rw [List.getElem?_concat_length] at e1
      rw [R.len, List.getElem?_concat_length] at e2
      cases e1; cases e2
      exact hc
theorem RelS.open (R : RelS B G al st H) (h : H p = none) (hc : CellOk B G (al ++ [p]) (upd H p u) p c) : Gr G al G (al ++ [p]) ∧ RelS B G (al ++ [p]) (st ++ [c]) (upd H p u) :=
  (R.beside h).add (R.free h).2 (by
    cases e : B.F p with
    | none => rfl
    | some x => have := (R.frm p x e).1; rw [h] at this; cases this) upd_same hc
theorem al_inj (R : RelS B G al st H) {m : Nat} (h1 : al[n]? = some a) (h2 : al[m]? = some a) : n = m := by
  obtain ⟨l1, e1⟩ := List.getElem?_eq_some_iff.mp h1
  obtain ⟨l2, e2⟩ := List.getElem?_eq_some_iff.mp h2
  exact (List.getElem_inj R.nd).mp (e1.trans e2.symm)
/-- an open cell is written -/
theorem RelS.write (R : RelS B G al st H) (h : al[n]? = some a) (g0 : G a = none) (hc : CellOk B G al (upd H a u) a c) : RelS B G al (st.set n c) (upd H a u) := by
  refine ⟨R.pw, by simp [R.len], R.nd, fun b x e => ?_, fun b x e => ?_, fun b hb => ?_, fun m b c' e1 e2 => ?_⟩
  · have hb : b ≠ a := fun z => by rw [z, g0] at e; cases e
    rw [upd_ne hb]; exact R.sam b x e
  · obtain ⟨f1, f2, f3⟩ := R.frm b x e
    have hb : b ≠ a := fun z => f2 (z ▸ List.mem_of_getElem? h)
    exact ⟨by rw [upd_ne hb]; exact f1, f2, f3⟩
  · by_cases hb' : b = a
    · subst hb'; exact ⟨u, upd_same⟩
    · obtain ⟨x, e⟩ := R.has b hb
      exact ⟨x, by rw [upd_ne hb']; exact e⟩
  · by_cases hm : m = n
    · subst hm
      rw [h] at e1; cases e1
      have hs : m < st.length := by rw [← R.len]; exact (List.getElem?_eq_some_iff.mp h).1
      rw [List.getElem?_set_self hs] at e2
      cases e2; exact hc
    · rw [List.getElem?_set_ne (Ne.symm hm)] at e2
      have hne : b ≠ a := fun z => hm (al_inj R e1 (z ▸ h))
      exact (R.cel m b c' e1 e2).move (Gr.refl _ _) (upd_ne hne) fun q => q
/-- an open cell is closed for good -/
theorem RelS.freeze {d : PyData} (R : RelS B G al st H) (h : al[n]? = some a) (g0 : G a = none) (hu : H a = some u) (hd : Rp (upd G a u) (.ref a) d) :
    Gr G al (upd G a u) al ∧ RelS B (upd G a u) al (st.set n (.frz d)) H := by
  have g : Gr G al (upd G a u) al := ⟨Sub.upd g0, fun _ _ h => h⟩
  refine ⟨g, R.pw, by simp [R.len], R.nd, fun b x e => ?_, fun b x e => ?_, R.has, fun m b c' e1 e2 => ?_⟩
  · by_cases hb : b = a
    · subst hb; rw [upd_same] at e; cases e; exact .inl hu
    · rw [upd_ne hb] at e; exact R.sam b x e
  · obtain ⟨f1, f2, f3⟩ := R.frm b x e
    have hb : b ≠ a := fun z => f2 (z ▸ List.mem_of_getElem? h)
    exact ⟨f1, f2, by rw [upd_ne hb]; exact f3⟩
  · by_cases hm : m = n
    · subst hm
      rw [h] at e1; cases e1
      have hs : m < st.length := by rw [← R.len]; exact (List.getElem?_eq_some_iff.mp h).1
      rw [List.getElem?_set_self hs] at e2
      cases e2; exact hd
    · rw [List.getElem?_set_ne (Ne.symm hm)] at e2
      have hne : b ≠ a := fun z => hm (al_inj R e1 (z ▸ h))
      exact (R.cel m b c' e1 e2).move g rfl fun q => by rw [upd_ne hne]; exact q

/-- .. and looked: a dict -/
theorem RelS.lockd {d : PyData} {od : Obj} (R : RelS B G al st H) (h : al[n]? = some a) (g0 : G a = none) (hd : Rp (upd G a (.frz od u)) (.ref a) d) :
    Gr G al (upd G a (.frz od u)) al ∧ RelS B (upd G a (.frz od u)) al (st.set n (.frz d)) (upd H a (.frz od u)) := by
  have g : Gr G al (upd G a (.frz od u)) al := ⟨Sub.upd g0, fun _ _ h => h⟩
  refine ⟨g, R.pw, by simp [R.len], R.nd, fun b x e => ?_, fun b x e => ?_, fun b hb => ?_, fun m b c' e1 e2 => ?_⟩
  · by_cases hb : b = a
    · subst hb; rw [upd_same] at e ⊢; exact .inl e
    · rw [upd_ne hb] at e ⊢; exact R.sam b x e
  · obtain ⟨f1, f2, f3⟩ := R.frm b x e
    have hb : b ≠ a := fun z => f2 (z ▸ List.mem_of_getElem? h)
    exact ⟨by rw [upd_ne hb]; exact f1, f2, by rw [upd_ne hb]; exact f3⟩
  · by_cases hb' : b = a
    · subst hb'; exact ⟨_, upd_same⟩
    · obtain ⟨x, e⟩ := R.has b hb
      exact ⟨x, by rw [upd_ne hb']; exact e⟩
  · by_cases hm : m = n
    · subst hm
      rw [h] at e1; cases e1
      have hs : m < st.length := by rw [← R.len]; exact (List.getElem?_eq_some_iff.mp h).1
      rw [List.getElem?_set_self hs] at e2
      cases e2; exact hd
    · rw [List.getElem?_set_ne (Ne.symm hm)] at e2
      have hne : b ≠ a := fun z => hm (al_inj R e1 (z ▸ h))
      exact (R.cel m b c' e1 e2).move g (upd_ne hne) fun q => by rw [upd_ne hne]; exact q

/-! ### what a value stands for, read through the store -/
/-- a key as data -/
def keyOf : PyData → Option Key
  | .int i => some (.inl i)
  | .str x => some (.inr x)
  | _ => none
/-- no dict with tuple keys at its head -/
def dOk : PyData → Bool
  | .dict kvs => kvs.all fun kv => (keyOf kv.1).isSome
  | _ => true
def val (st : Sto) : W → Option PyData
  | .p d => if dOk d = true then some d else none
  | .o n => match st[n]? with
    | some (.lst ds) => some (.list ds)
    | some (.dic ds) => some (.dict ds)
    | some (.frz d) => if dOk d = true then some d else none
    | _ => none
  | .s _ => none
/-- .. read at the heap itself (open objects included) -/
inductive Rv (G H : Hp) : V → PyData → Prop
  | non : Rv G H .non .none
  | bl (b : Bool) : Rv G H (.bl b) (.bool b)
  | int (i : Int) : Rv G H (.int i) (.int i)
  | str (x : Str) : Rv G H (.str x) (.str x)
  | lst {a : Addr} {xs : List V} {ds : List PyData} : H a = some (.lst xs) → xs.length ≤ sizeLine → Rps G xs ds → Rv G H (.ref a) (.list ds)
  | tup {a : Addr} {xs : List V} {ds : List PyData} : H a = some (.tup xs) → xs.length ≤ sizeLine → Rps G xs ds → Rv G H (.ref a) (.tuple ds)
  | dic {a : Addr} {kvs : List (Key × V)} {ds : List (PyData × PyData)} : Rd H a (.dK kvs) → Rkv G kvs ds → Rv G H (.ref a) (.dict ds)
theorem Rp.rv {d : PyData} (s : Sam G H) (r : Rp G v d) (k : dOk d = true) : Rv G H v d := by
  cases r with
  | non => exact .non
  | bl b => exact .bl b
  | int i => exact .int i
  | str x => exact .str x
  | lst h z r =>
    rcases s _ _ h with q | ⟨⟨_, q⟩, _⟩
    · exact .lst q z r
    · cases q
  | tup h z r =>
    rcases s _ _ h with q | ⟨⟨_, q⟩, _⟩
    · exact .tup q z r
    · cases q
  | dic h r =>
    rcases s _ _ h with q | ⟨⟨_, q⟩, _⟩
    · exact .dic (.inr ⟨_, q⟩) r
    · cases q
  | dit h z r =>
    cases r with
    | nil => exact absurd rfl z
    | cons _ _ _ => simp [dOk, keyOf] at k
theorem val_rv {d : PyData} (R : RelS B G al st H) (r : Rw B G al v w) (h : val st w = some d) : Rv G H v d := by
  cases w with
  | p e =>
    simp only [val] at h
    split at h
    · rename_i k; cases h; exact Rp.rv R.sam r k
    · cases h
  | s ns => cases h
  | o n =>
    obtain ⟨a, ha, rfl⟩ := r
    obtain ⟨c, hc, ok⟩ := R.get ha
    simp only [val, hc] at h
    cases c with
    | lst ds => cases h; obtain ⟨_, xs, e, z, r⟩ := ok; exact .lst e z r
    | dic ds => cases h; obtain ⟨_, xs, e, r⟩ := ok; exact .dic (.inl e) r
    | frz d =>
      simp only at h
      split at h
      · rename_i k; cases h; exact Rp.rv R.sam ok k
      · cases h
    | dit ds => cases h
    | rcd ds => cases h
    | ins c ds => cases h
theorem Rps.length {xs : List V} {ds : List PyData} (r : Rps G xs ds) : xs.length = ds.length := by
  induction ds generalizing xs with
  | nil => cases r; rfl
  | cons d ds ih => cases r with | cons h t => simp [ih t]
theorem Rkv.length {xs : List (Key × V)} {ds : List (PyData × PyData)} (r : Rkv G xs ds) : xs.length = ds.length := by
  induction ds generalizing xs with
  | nil => cases r; rfl
  | cons d ds ih => cases r with | cons h t => simp [ih t]
theorem Rps.get : ∀ {xs : List V} {ds : List PyData} {i : Nat} {d : PyData}, Rps G xs ds → ds[i]? = some d → ∃ x, xs[i]? = some x ∧ Rp G x d
  | _, _, _, _, .nil, e => by simp at e
  | _, _, 0, _, .cons h _, e => by simp at e; subst e; exact ⟨_, by simp, h⟩
  | _, _, i + 1, d, .cons _ t, e => by
    obtain ⟨x, h1, h2⟩ := Rps.get (i := i) t (by simpa using e)
    exact ⟨x, by simpa using h1, h2⟩
theorem Rps.append : ∀ {xs ys : List V} {ds es : List PyData}, Rps G xs ds → Rps G ys es → Rps G (xs ++ ys) (ds ++ es)
  | _, _, _, _, .nil, s => s
  | _, _, _, _, .cons h t, s => .cons h (Rps.append t s)
theorem Rps.take : ∀ {xs : List V} {ds : List PyData} (n : Nat), Rps G xs ds → Rps G (xs.take n) (ds.take n)
  | _, _, 0, _ => .nil
  | _, _, _ + 1, .nil => .nil
  | _, _, n + 1, .cons h t => .cons h (Rps.take n t)
theorem Rps.drop : ∀ {xs : List V} {ds : List PyData} (n : Nat), Rps G xs ds → Rps G (xs.drop n) (ds.drop n)
  | _, _, 0, r => r
  | _, _, _ + 1, .nil => .nil
  | _, _, n + 1, .cons _ t => Rps.drop n t
theorem Rps.erase : ∀ {xs : List V} {ds : List PyData} (n : Nat), Rps G xs ds → Rps G (xs.eraseIdx n) (ds.eraseIdx n)
  | _, _, _, .nil => .nil
  | _, _, 0, .cons _ t => t
  | _, _, n + 1, .cons h t => .cons h (Rps.erase n t)
theorem Rps.reverse {xs : List V} {ds : List PyData} (r : Rps G xs ds) : Rps G xs.reverse ds.reverse := by
  induction ds generalizing xs with
  | nil => cases r; exact .nil
  | cons d ds ih => cases r with | cons h t => rw [List.reverse_cons, List.reverse_cons]; exact (ih t).append (.cons h .nil)
theorem Rps.flat {xs : List V} {ds : List PyData} (r : Rps G xs ds) : ∀ k : Nat, Rps G (List.replicate k xs).flatten (List.replicate k ds).flatten
  | 0 => .nil
  | k + 1 => by rw [List.replicate_succ, List.replicate_succ, List.flatten_cons, List.flatten_cons]; exact r.append (r.flat k)
end
end Pd
end

section
set_option Elab.async false
set_option linter.all false
set_option autoImplicit false
set_option maxRecDepth 100000
/-! Pd: expressions: names, constants, operators, comparisons, tests, displays, subscripts. -/
namespace Pd
open PySem L2
variable [Wd]

/-! ### names, constants -/
def sVar (i : Nat) : SemE := fun en st => match en[i]? with
  | some (some w) => .ok w st
  | _ => .bad
def sC (d : PyData) : SemE := fun _ st => .ok (.p d) st
section
variable {X : Cx} {E : XK} {e a b : Expr} {pos : Pos}
theorem se_var {i : Nat} (h : PE X e (tVar i)) : SE X E e (sVar i) := h.weak fun σ H Q ⟨F, G, al, en, st, R, p⟩ => by
  unfold sVar at p
  cases hi : en[i]? with
  | none => rw [hi] at p; exact p.elim
  | some w =>
    cases w with
    | none => rw [hi] at p; exact p.elim
    | some w =>
      rw [hi] at p
      obtain ⟨v, e1, r⟩ := R.loc i w hi
      exact ⟨v, e1, p G al H (.refl _ _) R.s v r⟩
theorem se_c {v : V} {d : PyData} (h : PE X e (tC v)) (r : ∀ G, Rp G v d) : SE X E e (sC d) := h.weak fun σ H Q ⟨F, G, al, en, st, R, p⟩ => p G al H (.refl _ _) R.s v (r G)
theorem se_int {i : Int} {j pos} : SE X E (.Constant (.int i) j pos) (sC (.int i)) := se_c pe_int fun _ => .int i
theorem se_str {i : Str} {j pos} : SE X E (.Constant (.str i) j pos) (sC (.str i)) := se_c pe_str fun _ => .str i
theorem se_bl {i : Bool} {j pos} : SE X E (.Constant (.bool i) j pos) (sC (.bool i)) := se_c pe_bl fun _ => .bl i
theorem se_non {j pos} : SE X E (.Constant .none j pos) (sC .none) := se_c pe_non fun _ => .non
/-- a module's constant -/
theorem se_gint {x : Str} {i : Int} {t : Tok} (hg : Gl X x) (hm : X.mg x = some (.int i t)) (hd : (x == ("__debug__" : Str)) = false := by decide) : SE X E (.Name x pos) (sC (.int i)) :=
  se_c (pe_glob (v := .int i) hg hm ⟨t, rfl⟩ hd) fun _ => .int i
theorem se_gstr {x : Str} {i : Str} {t : Tok} (hg : Gl X x) (hm : X.mg x = some (.str i t)) (hd : (x == ("__debug__" : Str)) = false := by decide) : SE X E (.Name x pos) (sC (.str i)) :=
  se_c (pe_glob (v := .str i) hg hm ⟨t, rfl⟩ hd) fun _ => .str i

/-! ### operators by values -/
/-- what an operator does with two values -/
abbrev Op2 := W → W → Sto → Res W
def Prim2 (b : Hp → Bx) (E : XK) (op : Op2) (r : R2) : Prop := ∀ (F G : Hp) (al : Al) (st : Sto) (H : Hp) (x y : V) (w u : W) (Q : VK), RelS (b F) G al st H → Rw (b F) G al x w → Rw (b F) G al y u → Post (b F) E G al (PQ (b F) Q) (op w u st) → r x y H Q
def sB (op : Op2) (sa sb : SemE) : SemE := fun en st => (sa en st).bind fun w st => (sb en st).bind fun u st => op w u st
theorem tD_two {b : Hp → Bx} {op : Op2} {r : R2} {sa sb : SemE} (pr : Prim2 b E op r) {σ : St} {H : Hp} {Q : VK} (h : tD b E (sB op sa sb) σ H Q) : tOp r (tD b E sa) (tD b E sb) σ H Q := by
  obtain ⟨F, G, al, en, st, R, p⟩ := h
  refine tD_bind (sa := sa) (k := fun w en st => (sb en st).bind fun u st => op w u st) R p fun x H1 G1 al1 st1 w R1 r1 p1 _ => ?_
  refine tD_bind (sa := sb) (k := fun u en st => op w u st) R1 p1 fun y H2 G2 al2 st2 u R2 r2 p2 g2 => ?_
  exact pr F G2 al2 st2 H2 x y w u Q R2.s (r1.gr g2) r2 p2
theorem se_op {o : Operator} {op : Op2} {r : R2} {sa sb : SemE} (ho : OpR X (binaryOp o) r) (pr : Prim2 (bx X) E op r) (ha : SE X E a sa) (hb : SE X E b sb) : SE X E (.BinOp a o b pos) (sB op sa sb) :=
  (pe_op ho ha hb).weak fun _ _ _ h => tD_two pr h
theorem se_cmp {o : CmpOp} {op : Op2} {r : R2} {sa sb : SemE} (ho : OpR X (compareOp o) r) (pr : Prim2 (bx X) E op r) (ha : SE X E a sa) (hb : SE X E b sb) (hm : behindInMarks o b = false) : SE X E (.Compare a [o] [b] pos) (sB op sa sb) :=
  (pe_cmpR ho ha hb hm).weak fun _ _ _ h => tD_two pr h
/-- a value as a test's answer -/
def asB (r : Res W) : Res Bool := r.bind fun w st => match w with
  | .p (.bool b) => .ok b st
  | _ => .bad
def sT (s : SemE) : SemT := fun en st => asB (s en st)
theorem asB_to {B : Bx} {G : Hp} {al : Al} {Q : Bool → Hp → Prop} {r : Res W} (p : Post B E G al (fun b _ _ _ H' => Q b H') (asB r)) : Post B E G al (PQ B fun x H' => ∃ k, x = .bl k ∧ Q k H') r := by
  refine (Post.bind p).imp fun w G1 al1 st1 H1 g rs q v rv => ?_
  cases w with
  | o n => exact q.elim
  | s ns => exact q.elim
  | p d =>
    cases d with
    | bool b => cases rv; exact ⟨b, rfl, q G1 al1 H1 (.refl _ _) rs⟩
    | _ => exact q.elim
theorem tDT_of {b : Hp → Bx} {s : SemE} {σ : St} {H : Hp} {Q : Bool → Hp → Prop} (h : tDT b E (sT s) σ H Q) : tD b E s σ H fun x H' => ∃ k, x = .bl k ∧ Q k H' := by
  obtain ⟨F, G, al, en, st, R, p⟩ := h
  exact ⟨F, G, al, en, st, R, asB_to p⟩
theorem st_cmp {o : CmpOp} {op : Op2} {r : R2} {sa sb : SemE} (ho : OpR X (compareOp o) r) (pr : Prim2 (bx X) E op r) (ha : SE X E a sa) (hb : SE X E b sb) (hm : behindInMarks o b = false) : ST X E (.Compare a [o] [b] pos) (sT (sB op sa sb)) :=
  (pt_cmpR ho ha hb hm).weak fun _ _ _ h => tD_two pr (tDT_of h)
theorem st_val {s : SemE} (h : SE X E e s) (he : ∀ whole, isTrue e X.env whole = (do let v ← whole; standAt e.pos; holding [v] (truthy v)) := by intro _; rfl) : ST X E e (sT s) :=
  (pt_val h he).weak fun _ _ _ h => tDT_of h

/-! ### and, or, not, if-else -/
def sAnd (s t : SemT) : SemT := fun en st => (s en st).bind fun b st => if b = true then t en st else .ok false st
def sOr (s t : SemT) : SemT := fun en st => (s en st).bind fun b st => if b = true then .ok true st else t en st
def sNot (s : SemT) : SemT := fun en st => (s en st).bind fun b st => .ok (!b) st
def sIf (c : SemT) (s t : SemE) : SemE := fun en st => (c en st).bind fun b st => if b = true then s en st else t en st
/-- a test's answer as a value -/
def sBl (c : SemT) : SemE := fun en st => (c en st).bind fun b st => .ok (.p (.bool b)) st
variable {s t : SemT} {sa sb : SemE} {rest : List Expr}
theorem st_and1 (ha : ST X E a s) : PW X (.BoolOp .And [a] pos) (tDT (bx X) E s) := pw_and1 ha
theorem st_or1 (ha : ST X E a s) : PW X (.BoolOp .Or [a] pos) (tDT (bx X) E s) := pw_or1 ha
theorem st_and (ha : ST X E a s) (hb : PW X (.BoolOp .And (b :: rest) pos) (tDT (bx X) E t)) : PW X (.BoolOp .And (a :: b :: rest) pos) (tDT (bx X) E (sAnd s t)) := by
  refine ⟨fun wh pins s1 σ H Q I h => (pw_and ha hb).run wh pins s1 σ H Q I ?_⟩
  obtain ⟨F, G, al, en, st, R, p⟩ := h
  refine tDT_bind (sa := s) (k := fun b en st => if b = true then t en st else .ok false st) R p fun c H1 G1 al1 st1 R1 p1 _ => ?_
  cases c with
  | true => rw [if_pos rfl] at p1 ⊢; exact ⟨F, G1, al1, en, st1, R1, p1⟩
  | false => rw [if_neg Bool.false_ne_true] at p1 ⊢; exact p1 G1 al1 H1 (.refl _ _) R1.s
theorem st_or (ha : ST X E a s) (hb : PW X (.BoolOp .Or (b :: rest) pos) (tDT (bx X) E t)) : PW X (.BoolOp .Or (a :: b :: rest) pos) (tDT (bx X) E (sOr s t)) := by
  refine ⟨fun wh pins s1 σ H Q I h => (pw_or ha hb).run wh pins s1 σ H Q I ?_⟩
  obtain ⟨F, G, al, en, st, R, p⟩ := h
  refine tDT_bind (sa := s) (k := fun b en st => if b = true then .ok true st else t en st) R p fun c H1 G1 al1 st1 R1 p1 _ => ?_
  cases c with
  | true => rw [if_pos rfl] at p1 ⊢; exact p1 G1 al1 H1 (.refl _ _) R1.s
  | false => rw [if_neg Bool.false_ne_true] at p1 ⊢; exact ⟨F, G1, al1, en, st1, R1, p1⟩
theorem st_not (ha : ST X E a s) : ST X E (.UnaryOp .Not a pos) (sNot s) := (pt_not ha).weak fun σ H Q ⟨F, G, al, en, st, R, p⟩ =>
  tDT_bind (sa := s) (k := fun b _ st => .ok (!b) st) R p fun c H1 G1 al1 st1 R1 p1 _ => p1 G1 al1 H1 (.refl _ _) R1.s
theorem se_ifexp {c : Expr} (hc : ST X E c s) (ha : SE X E a sa) (hb : SE X E b sb) : SE X E (.IfExp c a b pos) (sIf s sa sb) := (pe_ifExp hc ha hb).weak fun σ H Q ⟨F, G, al, en, st, R, p⟩ =>
  tDT_bind (sa := s) (k := fun b en st => if b = true then sa en st else sb en st) R p fun c H1 G1 al1 st1 R1 p1 _ => by
    cases c with
    | true => rw [if_pos rfl] at p1 ⊢; exact ⟨F, G1, al1, en, st1, R1, p1⟩
    | false => rw [if_neg Bool.false_ne_true] at p1 ⊢; exact ⟨F, G1, al1, en, st1, R1, p1⟩
/-- as values, all parts True or False -/
def sAndV (s : SemE) (t : SemE) : SemE := fun en st => (asB (s en st)).bind fun b st => if b = true then t en st else .ok (.p (.bool false)) st
def sOrV (s : SemE) (t : SemE) : SemE := fun en st => (asB (s en st)).bind fun b st => if b = true then .ok (.p (.bool true)) st else t en st
def sNotV (s : SemE) : SemE := fun en st => (asB (s en st)).bind fun b st => .ok (.p (.bool (!b))) st
theorem tD_asB {b : Hp → Bx} {F : Hp} {β : Type} {sa : SemE} {k : Bool → En → Sto → Res β} {G : Hp} {al : Al} {en : En} {st : Sto} {σ : St} {H : Hp} {Q : β → Hp → Al → Sto → Hp → Prop} (R : Rel (b F) G al en st σ H)
    (p : Post (b F) E G al Q ((asB (sa en st)).bind fun c st' => k c en st')) {Q' : VK}
    (h : ∀ c H1 G1 al1 st1, Rel (b F) G1 al1 en st1 σ H1 → Post (b F) E G1 al1 Q (k c en st1) → Q' (.bl c) H1) : tD b E sa σ H Q' := by
  refine ⟨F, G, al, en, st, R, ?_⟩
  have q := (Post.bind p)
  unfold asB at q
  refine (Post.bind q).imp fun w G1 al1 st1 H1 g rs q v rv => ?_
  cases w with
  | o n => exact q.elim
  | s ns => exact q.elim
  | p d =>
    cases d with
    | bool c => cases rv; exact h c H1 G1 al1 st1 (R.to g rs) (q G1 al1 H1 (.refl _ _) rs)
    | _ => exact q.elim
theorem se_one {op} (h : SE X E a sa) : SE X E (.BoolOp op [a] pos) sa := pe_one h
theorem se_and (ha : SE X E a sa) (hb : SE X E (.BoolOp .And (b :: rest) pos) sb) : SE X E (.BoolOp .And (a :: b :: rest) pos) (sAndV sa sb) := (pe_and ha hb).weak fun σ H Q ⟨F, G, al, en, st, R, p⟩ =>
  tD_asB (sa := sa) (k := fun b en st => if b = true then sb en st else .ok (.p (.bool false)) st) R p fun c H1 G1 al1 st1 R1 p1 => ⟨c, rfl, by
    cases c with
    | true => rw [if_pos rfl] at p1 ⊢; exact ⟨F, G1, al1, en, st1, R1, p1⟩
    | false => rw [if_neg Bool.false_ne_true] at p1 ⊢; exact p1 G1 al1 H1 (.refl _ _) R1.s _ (.bl false)⟩
theorem se_or (ha : SE X E a sa) (hb : SE X E (.BoolOp .Or (b :: rest) pos) sb) : SE X E (.BoolOp .Or (a :: b :: rest) pos) (sOrV sa sb) := (pe_or ha hb).weak fun σ H Q ⟨F, G, al, en, st, R, p⟩ =>
  tD_asB (sa := sa) (k := fun b en st => if b = true then .ok (.p (.bool true)) st else sb en st) R p fun c H1 G1 al1 st1 R1 p1 => ⟨c, rfl, by
    cases c with
    | true => rw [if_pos rfl] at p1 ⊢; exact p1 G1 al1 H1 (.refl _ _) R1.s _ (.bl true)
    | false => rw [if_neg Bool.false_ne_true] at p1 ⊢; exact ⟨F, G1, al1, en, st1, R1, p1⟩⟩
theorem se_not (ha : SE X E a sa) : SE X E (.UnaryOp .Not a pos) (sNotV sa) := (pe_not ha).weak fun σ H Q ⟨F, G, al, en, st, R, p⟩ =>
  tD_asB (sa := sa) (k := fun b _ st => (Res.ok (W.p (.bool (!b))) st : Res W)) (Q := PQ (bx X F) Q) R p fun c H1 G1 al1 st1 R1 p1 => ⟨c, rfl, p1 G1 al1 H1 (.refl _ _) R1.s _ (.bl _)⟩

/-! ### arguments, displays -/
def sNil : SemA := fun _ st => .ok [] st
def sCons (s : SemE) (t : SemA) : SemA := fun en st => (s en st).bind fun w st => (t en st).bind fun ws st => .ok (w :: ws) st
theorem sa_nil : SA X E [] sNil := pa_nil.weak fun σ H Q ⟨F, G, al, en, st, R, p⟩ => p G al H (.refl _ _) R.s [] .nil
theorem sa_cons {es : List Expr} {sr : SemA} (ha : SE X E a sa) (hr : SA X E es sr) (hs : starEach (a :: es) X.env = (false, eval a X.env) :: starEach es X.env := by rfl) : SA X E (a :: es) (sCons sa sr) :=
  (pa_cons ha hr hs).weak fun σ H Q ⟨F, G, al, en, st, R, p⟩ =>
    tD_bind (sa := sa) (k := fun w en st => (sr en st).bind fun ws st => .ok (w :: ws) st) R p fun x H1 G1 al1 st1 w R1 r1 p1 _ =>
      tDA_bind (sa := sr) (k := fun ws _ st => .ok (w :: ws) st) R1 p1 fun xs H2 G2 al2 st2 ws R2 r2 p2 g2 => p2 G2 al2 H2 (.refl _ _) R2.s _ (.cons (r1.gr g2) r2)

/-- plain values only -/
def plains : List W → Option (List PyData)
  | [] => some []
  | .p d :: ws => (plains ws).map (d :: ·)
  | _ => none
theorem plains_ok {B : Bx} {G : Hp} {al : Al} : ∀ {vs : List V} {ws : List W} {ds : List PyData}, Rws B G al vs ws → plains ws = some ds → Rps G vs ds
  | _, _, _, .nil, h => by simp [plains] at h; subst h; exact .nil
  | _, _, ds, .cons (b := w) hr t, h => by
    cases w with
    | o n => simp [plains] at h
    | s n => simp [plains] at h
    | p d =>
      simp only [plains, Option.map_eq_some_iff] at h
      obtain ⟨es, h1, rfl⟩ := h
      exact .cons hr (plains_ok t h1)
/-- a new closed list; tuple -/
def mkL (ds : List PyData) (st : Sto) : Res W := if ds.length ≤ sizeLine then .ok (.p (.list ds)) st else .bad
def mkT (ds : List PyData) (st : Sto) : Res W := if ds.length ≤ sizeLine then .ok (.p (.tuple ds)) st else .bad
/-- a new open list -/
def mkO (ds : List PyData) (st : Sto) : Res W := if ds.length ≤ sizeLine then .ok (.o st.length) (st ++ [.lst ds]) else .bad
theorem mkL_ok {B : Bx} {G : Hp} {al : Al} {st : Sto} {H : Hp} {vs : List V} {ds : List PyData} {Q : VK} (R : RelS B G al st H) (r : Rps G vs ds) (p : Post B E G al (PQ B Q) (mkL ds st)) :
    vs.length ≤ sizeLine ∧ ∀ p, H p = none → Q (.ref p) (upd H p (.lst vs)) := by
  unfold mkL at p
  by_cases z : ds.length ≤ sizeLine
  · rw [if_pos z] at p
    have z' : vs.length ≤ sizeLine := by rw [r.length]; exact z
    refine ⟨z', fun q hq => ?_⟩
    obtain ⟨g, R'⟩ := R.close (u := .lst vs) hq
    exact p _ al _ g R' _ (Rp.lst upd_same z' (r.sub g.sub))
  · rw [if_neg z] at p; exact p.elim
theorem mkT_ok {B : Bx} {G : Hp} {al : Al} {st : Sto} {H : Hp} {vs : List V} {ds : List PyData} {Q : VK} (R : RelS B G al st H) (r : Rps G vs ds) (p : Post B E G al (PQ B Q) (mkT ds st)) :
    vs.length ≤ sizeLine ∧ ∀ p, H p = none → Q (.ref p) (upd H p (.tup vs)) := by
  unfold mkT at p
  by_cases z : ds.length ≤ sizeLine
  · rw [if_pos z] at p
    have z' : vs.length ≤ sizeLine := by rw [r.length]; exact z
    refine ⟨z', fun q hq => ?_⟩
    obtain ⟨g, R'⟩ := R.close (u := .tup vs) hq
    exact p _ al _ g R' _ (Rp.tup upd_same z' (r.sub g.sub))
  · rw [if_neg z] at p; exact p.elim
theorem mkO_ok {B : Bx} {G : Hp} {al : Al} {st : Sto} {H : Hp} {vs : List V} {ds : List PyData} {Q : VK} (R : RelS B G al st H) (r : Rps G vs ds) (p : Post B E G al (PQ B Q) (mkO ds st)) :
    vs.length ≤ sizeLine ∧ ∀ p, H p = none → Q (.ref p) (upd H p (.lst vs)) := by
  unfold mkO at p
  by_cases z : ds.length ≤ sizeLine
  · rw [if_pos z] at p
    have z' : vs.length ≤ sizeLine := by rw [r.length]; exact z
    refine ⟨z', fun q hq => ?_⟩
    obtain ⟨g, R'⟩ := R.open (u := .lst vs) (c := .lst ds) hq ⟨(R.free hq).1, vs, upd_same, z', r⟩
    exact p G _ _ g R' _ ⟨q, by rw [← R.len]; exact List.getElem?_concat_length, rfl⟩
  · rw [if_neg z] at p; exact p.elim
/-- a display of plain values by a maker -/
abbrev Mk1 := List PyData → Sto → Res W
def sDisp (mk : Mk1) (t : SemA) : SemE := fun en st => (t en st).bind fun ws st => match plains ws with
  | some ds => mk ds st
  | none => .bad
theorem disp_go {b : Hp → Bx} {mk : Mk1} {C : List V → Hp → VK → Prop} (hmk : ∀ {F G al st H vs ds Q}, RelS (b F) G al st H → Rps G vs ds → Post (b F) E G al (PQ (b F) Q) (mk ds st) → C vs H Q)
    {t : SemA} {σ : St} {H : Hp} {Q : VK} (h : tD b E (sDisp mk t) σ H Q) : tDA b E t σ H fun vs H1 => C vs H1 Q := by
  obtain ⟨F, G, al, en, st, R, p⟩ := h
  refine tDA_bind (sa := t) (k := fun ws _ st => match plains ws with | some ds => mk ds st | none => .bad) R p fun xs H1 G1 al1 st1 ws R1 r1 p1 _ => ?_

  cases hp : plains ws with
  | none => rw [hp] at p1; exact p1.elim
  | some ds => rw [hp] at p1; exact hmk R1.s (plains_ok r1 hp) p1
theorem se_lst {es : List Expr} {t : SemA} (h : SA X E es t) : SE X E (.List es pos) (sDisp mkL t) := (pe_lst h).weak fun _ _ _ h => disp_go (C := fun vs H Q => vs.length ≤ sizeLine ∧ ∀ p, H p = none → Q (.ref p) (upd H p (.lst vs))) (fun R r p => mkL_ok R r p) h
theorem se_lstO {es : List Expr} {t : SemA} (h : SA X E es t) : SE X E (.List es pos) (sDisp mkO t) := (pe_lst h).weak fun _ _ _ h => disp_go (C := fun vs H Q => vs.length ≤ sizeLine ∧ ∀ p, H p = none → Q (.ref p) (upd H p (.lst vs))) (fun R r p => mkO_ok R r p) h
theorem se_tup {es : List Expr} {t : SemA} {x1} (h : SA X E es t) : SE X E (.Tuple es x1 pos) (sDisp mkT t) := (pe_tup h).weak fun _ _ _ h => disp_go (C := fun vs H Q => vs.length ≤ sizeLine ∧ ∀ p, H p = none → Q (.ref p) (upd H p (.tup vs))) (fun R r p => mkT_ok R r p) h
end
end Pd
end

section
set_option Elab.async false
set_option linter.all false
set_option autoImplicit false
set_option maxRecDepth 100000
/-! Pd: the operators by values: + - * // % **, comparisons, in, is None. -/
namespace Pd
open PySem L2 PySem.SeqAt
variable [Wd]

/-! ### from plain data to the library's Reads -/
mutual
theorem Rp.dp {K : PySem.W.Frag} {G H : Hp} (s : Sam G H) : ∀ {v : V} {d : PyData}, Rp G v d → d.plain = true → Dp K H v d
  | _, _, .non, _ => .non
  | _, _, .bl b, _ => .bl b
  | _, _, .int i, _ => .int i
  | _, _, .str x, _ => .str x
  | _, _, .lst h z r, q => by
    rcases s _ _ h with e | ⟨⟨_, e⟩, _⟩
    · exact .lst (SqL.of e) (Rps.dp s r (by simpa [PyData.plain] using q))
    · cases e
  | _, _, .tup h z r, q => by
    rcases s _ _ h with e | ⟨⟨_, e⟩, _⟩
    · exact .tup (SqT.of e) (Rps.dp s r (by simpa [PyData.plain] using q))
    · cases e
  | _, _, .dic h r, q => by simp [PyData.plain] at q
  | _, _, .dit h z r, q => by simp [PyData.plain] at q
theorem Rps.dp {K : PySem.W.Frag} {G H : Hp} (s : Sam G H) : ∀ {v : List V} {d : List PyData}, Rps G v d → PyData.plainAll d = true → DpAll K H v d
  | _, _, .nil, _ => .nil
  | _, _, .cons h r, q => by
    have q' := Bool.and_eq_true_iff.mp (by simpa [PyData.plainAll] using q)
    exact .cons (Rp.dp s h q'.1) (Rps.dp s r q'.2)
end
theorem Rv.dp {K : PySem.W.Frag} {G H : Hp} (s : Sam G H) {v : V} {d : PyData} (r : Rv G H v d) (q : d.plain = true) : Dp K H v d := by
  cases r with
  | non => exact .non
  | bl b => exact .bl b
  | int i => exact .int i
  | str x => exact .str x
  | lst h z r => exact .lst (SqL.of h) (Rps.dp s r (by simpa [PyData.plain] using q))
  | tup h z r => exact .tup (SqT.of h) (Rps.dp s r (by simpa [PyData.plain] using q))
  | dic h r => simp [PyData.plain] at q

section
variable {X : Cx} {E : XK}
/-! ### == and in over data -/
def rEqP (K : PySem.W.Frag) : R2 := fun x y H Q => ∃ d e, Dp K H x d ∧ Dp K H y e ∧ d.plain = true ∧ e.plain = true ∧ min d.depth e.depth ≤ 60 ∧ Q (.bl (PyData.eqv d e)) H
def rNeP (K : PySem.W.Frag) : R2 := fun x y H Q => ∃ d e, Dp K H x d ∧ Dp K H y e ∧ d.plain = true ∧ e.plain = true ∧ min d.depth e.depth ≤ 60 ∧ Q (.bl (!PyData.eqv d e)) H
theorem op_eqP (hu : X.A.units + 64 < cLine) : OpR X (compareOp .Eq) (rEqP X.K) := by
  intro pins s σ H x y v u Q I rx ry h
  obtain ⟨d, e, hd, he, sd, se, hm, q⟩ := h
  obtain ⟨as, r1⟩ := Dp.reads I d x v hd rx
  obtain ⟨bs, r2⟩ := Dp.reads I e y u he ry
  exact eq_plain r1 r2 sd se (by omega) ⟨.bl _, H, I, rfl, q⟩
theorem op_neP (hu : X.A.units + 64 < cLine) : OpR X (compareOp .NotEq) (rNeP X.K) := by
  intro pins s σ H x y v u Q I rx ry h
  obtain ⟨d, e, hd, he, sd, se, hm, q⟩ := h
  obtain ⟨as, r1⟩ := Dp.reads I d x v hd rx
  obtain ⟨bs, r2⟩ := Dp.reads I e y u he ry
  exact ne_plain r1 r2 sd se (by omega) ⟨.bl _, H, I, rfl, q⟩
def rInP (K : PySem.W.Frag) (neg : Bool) : R2 := fun x y H Q => ∃ d ds, Dp K H x d ∧ (Dp K H y (.list ds) ∨ Dp K H y (.tuple ds)) ∧ d.plain = true ∧ PyData.plainAll ds = true ∧ d.depth ≤ 60 ∧ Q (.bl (if neg then !(ds.any fun z => PyData.eqv z d) else ds.any fun z => PyData.eqv z d)) H
theorem op_inP (hu : X.A.units + 64 < cLine) : OpR X (compareOp .In) (rInP X.K false) := by
  intro pins s σ H x y v u Q I rx ry h
  obtain ⟨d, ds, hd, he, sd, se, hm, q⟩ := h
  obtain ⟨as, r1⟩ := Dp.reads I d x v hd rx
  have hu' : X.A.units + 1 + min (PyData.depthAll ds) d.depth < cLine := by have := Nat.min_le_right (PyData.depthAll ds) d.depth; omega
  rcases he with he | he
  · obtain ⟨bs, r2⟩ := Dp.reads I _ y u he ry
    exact in_list_data r2 r1 se sd hu' ⟨.bl _, H, I, rfl, q⟩
  · obtain ⟨bs, r2⟩ := Dp.reads I _ y u he ry
    exact in_tuple_data r2 r1 se sd hu' ⟨.bl _, H, I, rfl, q⟩
theorem op_notInP (hu : X.A.units + 64 < cLine) : OpR X (compareOp .NotIn) (rInP X.K true) := by
  intro pins s σ H x y v u Q I rx ry h
  obtain ⟨d, ds, hd, he, sd, se, hm, q⟩ := h
  obtain ⟨as, r1⟩ := Dp.reads I d x v hd rx
  have hu' : X.A.units + 1 + min (PyData.depthAll ds) d.depth < cLine := by have := Nat.min_le_right (PyData.depthAll ds) d.depth; omega
  rcases he with he | he
  · obtain ⟨bs, r2⟩ := Dp.reads I _ y u he ry
    exact notIn_list_data r2 r1 se sd hu' ⟨.bl _, H, I, rfl, q⟩
  · obtain ⟨bs, r2⟩ := Dp.reads I _ y u he ry
    exact notIn_tuple_data r2 r1 se sd hu' ⟨.bl _, H, I, rfl, q⟩
/-- k in d, d a dict with int and text keys -/
def rInD (neg : Bool) : R2 := fun x y H Q => ∃ a o, y = .ref a ∧ DGet H a x o ∧ Q (.bl (if neg then !o.isSome else o.isSome)) H
theorem op_inD (hu : X.A.units + 64 < cLine) : OpR X (compareOp .In) (rInD false) := by
  intro pins s σ H x y v u Q I rx ry h
  obtain ⟨a, o, rfl, g, q⟩ := h
  cases ry
  exact d_in (by omega) I g rx fun s' I' => ⟨.bl _, H, I', rfl, q⟩
theorem op_notInD (hu : X.A.units + 64 < cLine) : OpR X (compareOp .NotIn) (rInD true) := by
  intro pins s σ H x y v u Q I rx ry h
  obtain ⟨a, o, rfl, g, q⟩ := h
  cases ry
  exact d_notIn (by omega) I g rx fun s' I' => ⟨.bl _, H, I', rfl, q⟩

/-! ### the semantic operators -/
/-- the size of what == is asked of -/
def okD (d : PyData) : Bool := d.plain && decide (d.depth ≤ 40)
def retB (b : Bool) (st : Sto) : Res W := .ok (.p (.bool b)) st
def retI (i : Int) (st : Sto) : Res W := .ok (.p (.int i)) st
def retS (x : Str) (st : Sto) : Res W := .ok (.p (.str x)) st
theorem retB_ok {B : Bx} {G : Hp} {al : Al} {st : Sto} {H : Hp} {b : Bool} {Q : VK} (R : RelS B G al st H) (p : Post B E G al (PQ B Q) (retB b st)) : Q (.bl b) H := p G al H (.refl _ _) R _ (.bl b)
theorem retI_ok {B : Bx} {G : Hp} {al : Al} {st : Sto} {H : Hp} {i : Int} {Q : VK} (R : RelS B G al st H) (p : Post B E G al (PQ B Q) (retI i st)) : Q (.int i) H := p G al H (.refl _ _) R _ (.int i)
theorem retS_ok {B : Bx} {G : Hp} {al : Al} {st : Sto} {H : Hp} {i : Str} {Q : VK} (R : RelS B G al st H) (p : Post B E G al (PQ B Q) (retS i st)) : Q (.str i) H := p G al H (.refl _ _) R _ (.str i)

def oAdd : Op2 := fun w u st => match val st w, val st u with
  | some (.int i), some (.int j) => retI (i + j) st
  | some (.str x), some (.str y) => if x.length + y.length ≤ sizeLine then retS (x ++ y) st else .bad
  | some (.list xs), some (.list ys) => mkL (xs ++ ys) st
  | some (.tuple xs), some (.tuple ys) => mkT (xs ++ ys) st
  | _, _ => .bad
abbrev rAddP (K : PySem.W.Frag) : R2 := fun x y H Q => (rI0 fun i j => .int (i + j)) x y H Q ∨ ((∃ i j, x = .str i ∧ y = .str j ∧ i.length + j.length ≤ sizeLine ∧ Q (.str (i ++ j)) H) ∨ (rCat x y H Q ∨ rCatA K x y H Q))
theorem op_addP : OpR X (binaryOp .Add) (rAddP X.K) := op_add.or (op_add_str.or (op_cat.or op_catA))
theorem pr_add : Prim2 (bx X) E oAdd (rAddP X.K) := by
  intro F G al st H x y w u Q R rx ry p
  unfold oAdd at p
  split at p
  · rename_i i j e1 e2
    cases val_rv R rx e1; cases val_rv R ry e2
    exact .inl ⟨i, j, rfl, rfl, retI_ok R p⟩
  · rename_i i j e1 e2
    cases val_rv R rx e1; cases val_rv R ry e2
    split at p
    · rename_i hz
      exact .inr (.inl ⟨i, j, rfl, rfl, hz, retS_ok R p⟩)
    · exact p.elim
  · rename_i ds es e1 e2
    cases val_rv R rx e1 with
    | lst h1 z1 r1 =>
      cases val_rv R ry e2 with
      | lst h2 z2 r2 =>
        obtain ⟨z, q⟩ := mkL_ok R (r1.append r2) p
        exact .inr (.inr (.inl ⟨_, _, _, _, rfl, rfl, h1, h2, by rw [← List.length_append]; exact z, q⟩))
  · rename_i ds es e1 e2
    have v1 := val_rv R rx e1
    have v2 := val_rv R ry e2
    cases v1 with
    | tup h1 z1 r1 =>
      cases v2 with
      | tup h2 z2 r2 =>
        rename_i a xs b ys
        obtain ⟨z, q⟩ := mkT_ok R (r1.append r2) p
        refine .inr (.inr (.inr ⟨a, b, xs, ys, rfl, rfl, SqT.of h1, SqT.of h2, by rw [← List.length_append]; exact z, fun e => ?_, fun _ e => ?_, fun _ _ => q⟩))
        · subst e
          cases r1
          unfold mkT at p
          rw [if_pos (by simpa using by rw [← r2.length]; exact z2)] at p
          cases u with
          | s ns => cases e2
          | p d =>
            simp only [val] at e2
            split at e2
            · cases e2
              exact p G al H (.refl _ _) R _ ry
            · cases e2
          | o n =>
            obtain ⟨a', ha, he⟩ := ry
            cases he
            obtain ⟨c, hc, ok⟩ := R.get ha
            simp only [val, hc] at e2
            cases c with
            | frz d =>
              simp only at e2
              split at e2
              · cases e2; exact p G al H (.refl _ _) R _ ok
              · cases e2
            | _ => cases e2
        · subst e
          cases r2
          unfold mkT at p
          rw [if_pos (by rw [List.append_nil, ← r1.length]; exact z1), List.append_nil] at p
          cases w with
          | s ns => cases e1
          | p d =>
            simp only [val] at e1
            split at e1
            · cases e1
              exact p G al H (.refl _ _) R _ rx
            · cases e1
          | o n =>
            obtain ⟨a', ha, he⟩ := rx
            cases he
            obtain ⟨c, hc, ok⟩ := R.get ha
            simp only [val, hc] at e1
            cases c with
            | frz d =>
              simp only at e1
              split at e1
              · cases e1; exact p G al H (.refl _ _) R _ ok
              · cases e1
            | _ => cases e1
  · exact p.elim

def oSub : Op2 := fun w u st => match val st w, val st u with
  | some (.int i), some (.int j) => retI (i - j) st
  | _, _ => .bad
theorem pr_sub : Prim2 (bx X) E oSub (rI0 fun i j => .int (i - j)) := by
  intro F G al st H x y w u Q R rx ry p
  unfold oSub at p
  split at p
  · rename_i i j e1 e2
    cases val_rv R rx e1; cases val_rv R ry e2
    exact ⟨i, j, rfl, rfl, retI_ok R p⟩
  · exact p.elim
/-- a product: ints of which one is below 2^64; a list some times -/
def smallI (i : Int) : Bool := decide (-(2 ^ 64) < i) && decide (i < 2 ^ 64)
theorem smallI_of {i : Int} (h : smallI i = true) : -(2 ^ 64) < i ∧ i < 2 ^ 64 := by
  have := Bool.and_eq_true_iff.mp h
  exact ⟨of_decide_eq_true this.1, of_decide_eq_true this.2⟩
def oMul : Op2 := fun w u st => match val st w, val st u with
  | some (.int i), some (.int j) => if (smallI i || smallI j) = true then retI (i * j) st else .bad
  | some (.list xs), some (.int k) => if decide (-(2 ^ 63) ≤ k) && decide (k < 2 ^ 63) && decide (xs.length * k.toNat ≤ sizeLine) then mkL (List.replicate k.toNat xs).flatten st else .bad
  | some (.str x), some (.int k) => if decide (1 ≤ k) && decide (k ≤ 1000) && decide (x.length ≤ 1000) then retS (PySem.Txt.mul x k) st else .bad
  | _, _ => .bad
def rMulS : R2 := fun x y H Q => ∃ z n, x = .str z ∧ y = .int n ∧ PySem.MulOk z n ∧ Q (.str (PySem.Txt.mul z n)) H
theorem op_mulS : OpR X (binaryOp .Mult) rMulS := by
  intro pins s σ H x y v u Q I rx ry h
  obtain ⟨z, n, rfl, rfl, ok, q⟩ := h
  obtain ⟨t, rfl⟩ := rx
  obtain ⟨t2, rfl⟩ := ry
  exact PySem.SB.mul ok fun t' k => ⟨.str _, H, I.tok k, ⟨t', rfl⟩, q⟩
abbrev rMulP : R2 := fun x y H Q => (rI CMul fun i j => .int (i * j)) x y H Q ∨ (rRep x y H Q ∨ rMulS x y H Q)
theorem op_mulP : OpR X (binaryOp .Mult) rMulP := op_mul.or (op_rep.or op_mulS)
theorem length_flat {α : Type} (xs : List α) : ∀ k : Nat, (List.replicate k xs).flatten.length = xs.length * k
  | 0 => by simp
  | k + 1 => by rw [List.replicate_succ, List.flatten_cons, List.length_append, length_flat xs k, Nat.mul_succ, Nat.add_comm]
theorem pr_mul : Prim2 (bx X) E oMul rMulP := by
  intro F G al st H x y w u Q R rx ry p
  unfold oMul at p
  split at p
  · rename_i i j e1 e2
    cases val_rv R rx e1; cases val_rv R ry e2
    split at p
    · rename_i hs
      refine .inl ⟨i, j, rfl, rfl, ?_, retI_ok R p⟩
      rcases Bool.or_eq_true_iff.mp hs with h | h
      · exact .inl (smallI_of h)
      · exact .inr (smallI_of h)
    · exact p.elim
  · rename_i ds k e1 e2
    cases val_rv R ry e2
    cases val_rv R rx e1 with
    | lst h1 z1 r1 =>
      split at p
      · rename_i hs
        have h3 := Bool.and_eq_true_iff.mp hs
        have h4 := Bool.and_eq_true_iff.mp h3.1
        have h5 : ds.length * k.toNat ≤ sizeLine := of_decide_eq_true h3.2
        obtain ⟨z, q⟩ := mkL_ok R (r1.flat k.toNat) p
        exact .inr (.inl ⟨_, _, _, rfl, rfl, h1, of_decide_eq_true h4.1, of_decide_eq_true h4.2, by rw [r1.length]; exact h5, q⟩)
      · exact p.elim
  · rename_i z k e1 e2
    cases val_rv R ry e2
    cases val_rv R rx e1
    split at p
    · rename_i hs
      simp only [Bool.and_eq_true, decide_eq_true_eq] at hs
      refine .inr (.inr ⟨z, k, rfl, rfl, ?_, retS_ok R p⟩)
      obtain ⟨⟨h1, h2⟩, h3⟩ := hs
      refine ⟨by simp; omega, fun _ _ => ?_, fun _ _ => ?_⟩
      · have h5 : (1000 : Int) ≤ (2 ^ 63 - 1) / k := Int.le_ediv_of_mul_le (by omega) (by omega)
        omega
      · unfold Builtin.Str.tooLong
        have : z.length * k.toNat ≤ 1000 * 1000 := Nat.mul_le_mul h3 (by omega)
        simp [sizeLine_eq]
        omega
    · exact p.elim
  · exact p.elim
def oDiv : Op2 := fun w u st => match val st w, val st u with
  | some (.int i), some (.int j) => if decide (0 < j) && decide (j < 1073741824) then retI (i / j) st else .bad
  | _, _ => .bad
theorem pr_div : Prim2 (bx X) E oDiv (rI CDiv fun i j => .int (i / j)) := by
  intro F G al st H x y w u Q R rx ry p
  unfold oDiv at p
  split at p
  · rename_i i j e1 e2
    cases val_rv R rx e1; cases val_rv R ry e2
    split at p
    · rename_i hs
      have h3 := Bool.and_eq_true_iff.mp hs
      exact ⟨i, j, rfl, rfl, ⟨of_decide_eq_true h3.1, of_decide_eq_true h3.2⟩, retI_ok R p⟩
    · exact p.elim
  · exact p.elim
def oMod : Op2 := fun w u st => match val st w, val st u with
  | some (.int i), some (.int j) => if decide (0 < j) then retI (i % j) st else .bad
  | _, _ => .bad
theorem pr_mod : Prim2 (bx X) E oMod (rI (fun _ j => 0 < j) fun i j => .int (i % j)) := by
  intro F G al st H x y w u Q R rx ry p
  unfold oMod at p
  split at p
  · rename_i i j e1 e2
    cases val_rv R rx e1; cases val_rv R ry e2
    split at p
    · rename_i hs
      exact ⟨i, j, rfl, rfl, of_decide_eq_true hs, retI_ok R p⟩
    · exact p.elim
  · exact p.elim
def oPow : Op2 := fun w u st => match val st w, val st u with
  | some (.int i), some (.int j) => if decide (0 ≤ j) && decide (j ≤ 1000000) && decide (i.natAbs < 2 ^ 64) then retI (i ^ j.toNat) st else .bad
  | _, _ => .bad
theorem pr_pow : Prim2 (bx X) E oPow (rI CPow fun i j => .int (i ^ j.toNat)) := by
  intro F G al st H x y w u Q R rx ry p
  unfold oPow at p
  split at p
  · rename_i i j e1 e2
    cases val_rv R rx e1; cases val_rv R ry e2
    split at p
    · rename_i hs
      have h3 := Bool.and_eq_true_iff.mp hs
      have h4 := Bool.and_eq_true_iff.mp h3.1
      exact ⟨i, j, rfl, rfl, ⟨of_decide_eq_true h4.1, of_decide_eq_true h4.2, of_decide_eq_true h3.2⟩, retI_ok R p⟩
    · exact p.elim
  · exact p.elim

/-! ### comparisons -/
def oEq : Op2 := fun w u st => match val st w, val st u with
  | some d, some e => if (okD d && okD e) = true then retB (PyData.eqv d e) st else .bad
  | _, _ => .bad
theorem okD_of {d e : PyData} (h : (okD d && okD e) = true) : d.plain = true ∧ e.plain = true ∧ min d.depth e.depth ≤ 60 := by
  have h1 := Bool.and_eq_true_iff.mp h
  have h2 := Bool.and_eq_true_iff.mp h1.1
  have h3 := Bool.and_eq_true_iff.mp h1.2
  have := of_decide_eq_true h2.2
  exact ⟨h2.1, h3.1, by omega⟩
theorem pr_eq : Prim2 (bx X) E oEq (rEqP X.K) := by
  intro F G al st H x y w u Q R rx ry p
  unfold oEq at p
  split at p
  · rename_i d e e1 e2
    split at p
    · rename_i hs
      obtain ⟨h1, h2, h3⟩ := okD_of hs
      exact ⟨d, e, (val_rv R rx e1).dp R.sam h1, (val_rv R ry e2).dp R.sam h2, h1, h2, h3, retB_ok R p⟩
    · exact p.elim
  · exact p.elim
def oNe : Op2 := fun w u st => match val st w, val st u with
  | some d, some e => if (okD d && okD e) = true then retB (!PyData.eqv d e) st else .bad
  | _, _ => .bad
theorem pr_ne : Prim2 (bx X) E oNe (rNeP X.K) := by
  intro F G al st H x y w u Q R rx ry p
  unfold oNe at p
  split at p
  · rename_i d e e1 e2
    split at p
    · rename_i hs
      obtain ⟨h1, h2, h3⟩ := okD_of hs
      exact ⟨d, e, (val_rv R rx e1).dp R.sam h1, (val_rv R ry e2).dp R.sam h2, h1, h2, h3, retB_ok R p⟩
    · exact p.elim
  · exact p.elim
/-- < <= > >= of ints -/
def oCI (f : Int → Int → Bool) : Op2 := fun w u st => match val st w, val st u with
  | some (.int i), some (.int j) => retB (f i j) st
  | _, _ => .bad
theorem pr_cI (f : Int → Int → Bool) : Prim2 (bx X) E (oCI f) (rI0 fun i j => .bl (f i j)) := by
  intro F G al st H x y w u Q R rx ry p
  unfold oCI at p
  split at p
  · rename_i i j e1 e2
    cases val_rv R rx e1; cases val_rv R ry e2
    exact ⟨i, j, rfl, rfl, retB_ok R p⟩
  · exact p.elim
abbrev oLt : Op2 := oCI fun i j => decide (i < j)
abbrev oLe : Op2 := oCI fun i j => decide (i ≤ j)
abbrev oGt : Op2 := oCI fun i j => decide (j < i)
abbrev oGe : Op2 := oCI fun i j => decide (j ≤ i)
/-- s > t of texts -/
def oGtS : Op2 := fun w u st => match val st w, val st u with
  | some (.str i), some (.str j) => retB (decide (j.cps.toList < i.cps.toList)) st
  | _, _ => .bad
/-- is None -/
def isNoneD : PyData → Bool
  | .none => true
  | _ => false
def oIsN : Op2 := fun w u st => match w, u with
  | .p d, .p .none => retB (isNoneD d) st
  | _, _ => .bad
def oNotN : Op2 := fun w u st => match w, u with
  | .p d, .p .none => retB (!isNoneD d) st
  | _, _ => .bad
theorem rp_none {G : Hp} {v : V} {d : PyData} (r : Rp G v d) : decide (v = .non) = isNoneD d := by
  cases r <;> simp [isNoneD]
theorem pr_isN : Prim2 (bx X) E oIsN (fun x y H Q => y = .non ∧ Q (.bl (decide (x = .non))) H) := by
  intro F G al st H x y w u Q R rx ry p
  unfold oIsN at p
  split at p
  · rename_i d
    cases ry
    exact ⟨rfl, by rw [rp_none rx]; exact retB_ok R p⟩
  · exact p.elim
theorem pr_notN : Prim2 (bx X) E oNotN (fun x y H Q => y = .non ∧ Q (.bl (!decide (x = .non))) H) := by
  intro F G al st H x y w u Q R rx ry p
  unfold oNotN at p
  split at p
  · rename_i d
    cases ry
    exact ⟨rfl, by rw [rp_none rx]; exact retB_ok R p⟩
  · exact p.elim

/-! ### in -/
theorem keyOf_rp {G H : Hp} {v : V} {d : PyData} {k : Key} (r : Rv G H v d) (h : keyOf d = some k) : v = kV k := by
  cases r <;> simp [keyOf] at h <;> subst h <;> rfl
/-- what a dict's entries hold at a key -/
def dLook (kvs : List (PyData × PyData)) (k : Key) : Option PyData := match kvs with
  | [] => none
  | (d, e) :: r => if keyOf d = some k then some e else dLook r k
theorem keyOf_keyD (k : Key) : keyOf (keyD k) = some k := by cases k <;> rfl
theorem Rkv.look {G : Hp} : ∀ {kvs : List (Key × V)} {ds : List (PyData × PyData)} (k : Key), Rkv G kvs ds → match valV kvs k, dLook ds k with
    | some v, some d => Rp G v d
    | none, none => True
    | _, _ => False
  | _, _, k, .nil => trivial
  | _, _, k, .cons (k := j) (v := v) (kvs := kvs) (d := d) (ds := ds) h r => by
    by_cases e : j = k
    · subst e
      rw [valV_pos rfl]
      simp only [dLook, keyOf_keyD, if_true]
      exact h
    · rw [valV_neg e]
      have e' : ¬ keyOf (keyD j) = some k := by rw [keyOf_keyD]; exact fun z => e (Option.some.inj z)
      simp only [dLook, if_neg e']
      exact Rkv.look k r
theorem Rkv.isSome {G : Hp} {kvs : List (Key × V)} {ds : List (PyData × PyData)} (k : Key) (r : Rkv G kvs ds) : (valV kvs k).isSome = (dLook ds k).isSome := by
  have := r.look k
  cases h1 : valV kvs k <;> cases h2 : dLook ds k <;> rw [h1, h2] at this <;> first | rfl | exact this.elim
def oIn (neg : Bool) : Op2 := fun w u st => match val st w, val st u with
  | some d, some (.list ds) => if (okD d && PyData.plainAll ds) = true then retB (if neg then !(ds.any fun z => PyData.eqv z d) else ds.any fun z => PyData.eqv z d) st else .bad
  | some d, some (.tuple ds) => if (okD d && PyData.plainAll ds) = true then retB (if neg then !(ds.any fun z => PyData.eqv z d) else ds.any fun z => PyData.eqv z d) st else .bad
  | some d, some (.dict kvs) => match keyOf d with
    | some k => retB (if neg then !(dLook kvs k).isSome else (dLook kvs k).isSome) st
    | none => .bad
  | some (.str i), some (.str j) => retB (if neg then !(!(Builtin.Str.occurrences j i 0 j.length 1).isEmpty) else !(Builtin.Str.occurrences j i 0 j.length 1).isEmpty) st
  | _, _ => .bad
abbrev rInA (K : PySem.W.Frag) (neg : Bool) : R2 := fun x y H Q => rInP K neg x y H Q ∨ (rInD neg x y H Q ∨ ∃ i j, x = .str i ∧ y = .str j ∧ Q (.bl (if neg then !(!(Builtin.Str.occurrences j i 0 j.length 1).isEmpty) else !(Builtin.Str.occurrences j i 0 j.length 1).isEmpty)) H)
theorem op_inA (hu : X.A.units + 64 < cLine) : OpR X (compareOp .In) (rInA X.K false) := (op_inP hu).or ((op_inD hu).or op_in_str)
theorem op_notInA (hu : X.A.units + 64 < cLine) : OpR X (compareOp .NotIn) (rInA X.K true) := (op_notInP hu).or ((op_notInD hu).or op_notin_str)
theorem pr_in (neg : Bool) : Prim2 (bx X) E (oIn neg) (rInA X.K neg) := by
  intro F G al st H x y w u Q R rx ry p
  unfold oIn at p
  split at p
  · rename_i d ds e1 e2
    split at p
    · rename_i hs
      have h1 := Bool.and_eq_true_iff.mp hs
      have h2 := Bool.and_eq_true_iff.mp h1.1
      have := of_decide_eq_true h2.2
      exact .inl ⟨d, ds, (val_rv R rx e1).dp R.sam h2.1, .inl ((val_rv R ry e2).dp R.sam (by simpa [PyData.plain] using h1.2)), h2.1, h1.2, by omega, retB_ok R p⟩
    · exact p.elim
  · rename_i d ds e1 e2
    split at p
    · rename_i hs
      have h1 := Bool.and_eq_true_iff.mp hs
      have h2 := Bool.and_eq_true_iff.mp h1.1
      have := of_decide_eq_true h2.2
      exact .inl ⟨d, ds, (val_rv R rx e1).dp R.sam h2.1, .inr ((val_rv R ry e2).dp R.sam (by simpa [PyData.plain] using h1.2)), h2.1, h1.2, by omega, retB_ok R p⟩
    · exact p.elim
  · rename_i d kvs e1 e2
    split at p
    · rename_i k hk
      have v1 := val_rv R rx e1
      cases val_rv R ry e2 with
      | dic h r =>
        rename_i a ks
        refine .inr (.inl ⟨a, valV ks k, rfl, .inl ⟨ks, k, h, keyOf_rp v1 hk, rfl⟩, ?_⟩)
        rw [r.isSome k]
        exact retB_ok R p
    · exact p.elim
  · rename_i i j e1 e2
    cases val_rv R rx e1; cases val_rv R ry e2
    exact .inr (.inr ⟨i, j, rfl, rfl, retB_ok R p⟩)
  · exact p.elim
end
end Pd
end

section
set_option Elab.async false
set_option linter.all false
set_option autoImplicit false
set_option maxRecDepth 100000
/-! Pd: statements: blocks, stores, tests, loops. -/
namespace Pd
open PySem L2
variable [Wd]

section
variable {B : Bx} {b : Hp → Bx} {F : Hp} {E : XK} {G : Hp} {al : Al} {en : En} {st : Sto} {σ : St} {H : Hp}
theorem EnvOk.of (R : Rel B G al en st σ H) : EnvOk B G al en σ := ⟨R.len, R.loc⟩
theorem EnvOk.set {i : Nat} {v : V} {w : W} (e : EnvOk B G al en σ) (r : Rw B G al v w) : EnvOk B G al (en.set i (some w)) (σ.set i (some v)) := by
  refine ⟨by simp [e.1], fun j u h => ?_⟩
  by_cases hj : j = i
  · subst hj
    by_cases hl : j < en.length
    · rw [List.getElem?_set_self hl] at h
      cases h
      exact ⟨v, by rw [List.getElem?_set_self (by rw [← e.1]; exact hl)], r⟩
    · have hn : (en.set j (some w))[j]? = none := List.getElem?_eq_none (by simp; omega)
      rw [hn] at h; cases h
  · rw [List.getElem?_set_ne (Ne.symm hj)] at h ⊢
    exact e.2 j u h
theorem Rel.env {σ' : St} {en' : En} (R : RelS B G al st H) (e : EnvOk B G al en' σ') : Rel B G al en' st σ' H := ⟨R, e.1, e.2⟩
theorem tDS_bind {s : SemS} {β : Type} {k : Fl → Sto → Res β} {Q : β → Hp → Al → Sto → Hp → Prop} (R : Rel (b F) G al en st σ H) (p : Post (b F) E G al Q ((s en st).bind k)) {D : Ends}
    (h : ∀ f G1 al1 st1 H1, Gr G al G1 al1 → RelS (b F) G1 al1 st1 H1 → Post (b F) E G1 al1 Q (k f st1) → PF (b F) D f G1 al1 st1 H1) : tDS b E s D σ H :=
  ⟨F, G, al, en, st, R, p.bind.imp fun f G1 al1 st1 H1 g rs q => h f G1 al1 st1 H1 g rs q⟩
end

/-! ### blocks -/
def sNext : SemS := fun en st => .ok (.nx en) st
def sSeq (a b : SemS) : SemS := fun en st => (a en st).bind fun f st => match f with
  | .nx en' => b en' st
  | f => .ok f st
section
variable {X : Cx} {E : XK} {s t : SemS} {st : Stmt} {rest : List Stmt} {pos : Pos} {e : Expr} {se : SemE}
theorem sss_nil : SSs X E [] sNext := pss_nil.weak fun D σ H ⟨F, G, al, en, st, R, p⟩ => p G al H (.refl _ _) R.s σ (EnvOk.of R)
theorem ss_pass : SS X E (.Pass pos) sNext := ps_pass.weak fun D σ H ⟨F, G, al, en, st, R, p⟩ => p G al H (.refl _ _) R.s σ (EnvOk.of R)
theorem ss_doc {x j pos pos'} : SS X E (.Expr (.Constant (.str x) j pos) pos') sNext := ps_doc.weak fun D σ H ⟨F, G, al, en, st, R, p⟩ => p G al H (.refl _ _) R.s σ (EnvOk.of R)
def sBrk : SemS := fun en st => .ok (.bk en) st
def sCnt : SemS := fun en st => .ok (.ct en) st
theorem ss_break : SS X E (.Break pos) sBrk := ps_break.weak fun D σ H ⟨F, G, al, en, st, R, p⟩ => p G al H (.refl _ _) R.s σ (EnvOk.of R)
theorem ss_continue : SS X E (.Continue pos) sCnt := ps_continue.weak fun D σ H ⟨F, G, al, en, st, R, p⟩ => p G al H (.refl _ _) R.s σ (EnvOk.of R)
/-- a statement that is never reached -/
def sBad : SemS := fun _ _ => .bad
theorem ss_never : SS X E st sBad := ps_never.weak fun D σ H ⟨F, G, al, en, st, R, p⟩ => p.elim
def sBadE : SemE := fun _ _ => .bad
theorem pe_never {X : Cx} {e : Expr} : PE X e (fun _ _ _ => False) := ⟨fun _ _ _ _ _ _ h => h.elim⟩
theorem se_never : SE X E e sBadE := pe_never.weak fun D σ H ⟨F, G, al, en, st, R, p⟩ => p.elim
theorem sss_one (h : SS X E st s) : SSs X E [st] s := pss_one h
theorem sss_cons (h1 : SS X E st s) (h2 : SSs X E rest t) : SSs X E (st :: rest) (sSeq s t) := (pss_cons h1 h2).weak fun D σ H ⟨F, G, al, en, st, R, p⟩ => by
  refine tDS_bind (s := s) (k := fun f st => match f with | .nx en' => t en' st | f => .ok f st) R p fun f G1 al1 st1 H1 g rs q => ?_
  cases f with
  | nx en1 => exact fun σ' e1 => ⟨F, G1, al1, en1, st1, Rel.env rs e1, q⟩
  | rt w => exact fun v r => (q G1 al1 H1 (.refl _ _) rs) v r
  | bk en1 => exact fun v r => (q G1 al1 H1 (.refl _ _) rs) v r
  | ct en1 => exact fun v r => (q G1 al1 H1 (.refl _ _) rs) v r

/-! ### small statements -/
def sSet (i : Nat) (s : SemE) : SemS := fun en st => (s en st).bind fun w st => .ok (.nx (en.set i (some w))) st
theorem ss_set {i : Nat} {x : Str} {pos' : Pos} (hN : X.N.Nodup) (hi : X.N[i]? = some x) (hx : Loc X.env.scope x) (he : SE X E e se) (hs : swapsWith e (some (.Name x pos')) pos.line X.env = pure false := by rfl)
    (hf : X.fn x = true ∨ X.env.scope.names.lookup x = some .local := by first | exact .inl rfl | exact .inr rfl | assumption) : SS X E (.Assign [.Name x pos'] e pos) (sSet i se) :=
  (ps_set hN hi hx he hs hf).weak fun D σ H ⟨F, G, al, en, st, R, p⟩ =>
    tD_bind (sa := se) (k := fun w en st => Res.ok (Fl.nx (en.set i (some w))) st) (Q := PF (bx X F) D) R p fun x H1 G1 al1 st1 w R1 r1 p1 _ => p1 G1 al1 H1 (.refl _ _) R1.s _ ((EnvOk.of R1).set r1)
def sRet (s : SemE) : SemS := fun en st => (s en st).bind fun w st => .ok (.rt w) st
theorem ss_ret (he : SE X E e se) : SS X E (.Return (some e) pos) (sRet se) := (ps_ret he).weak fun D σ H ⟨F, G, al, en, st, R, p⟩ =>
  tD_bind (sa := se) (k := fun w _ st => Res.ok (Fl.rt w) st) (Q := PF (bx X F) D) R p fun x H1 G1 al1 st1 w R1 r1 p1 _ => p1 G1 al1 H1 (.refl _ _) R1.s _ r1
def sRetN : SemS := fun _ st => .ok (.rt (.p .none)) st
theorem ss_retN : SS X E (.Return none pos) sRetN := ps_retN.weak fun D σ H ⟨F, G, al, en, st, R, p⟩ => p G al H (.refl _ _) R.s _ .non
def sDo (s : SemE) : SemS := fun en st => (s en st).bind fun _ st => .ok (.nx en) st
theorem ss_expr (he : SE X E e se) (hs : swapsWith e none pos.line X.env = pure false := by rfl) : SS X E (.Expr e pos) (sDo se) := (ps_expr he hs).weak fun D σ H ⟨F, G, al, en, st, R, p⟩ =>
  tD_bind (sa := se) (k := fun _ en st => Res.ok (Fl.nx en) st) (Q := PF (bx X F) D) R p fun x H1 G1 al1 st1 w R1 r1 p1 _ => p1 G1 al1 H1 (.refl _ _) R1.s _ (EnvOk.of R1)
def sIfS (c : SemT) (s t : SemS) : SemS := fun en st => (c en st).bind fun b st => if b = true then s en st else t en st
theorem ss_if {c : Expr} {a b : List Stmt} {tc : SemT} (hc : ST X E c tc) (ha : SSs X E a s) (hb : SSs X E b t) : SS X E (.If c a b pos) (sIfS tc s t) := (ps_if hc ha hb).weak fun D σ H ⟨F, G, al, en, st, R, p⟩ =>
  tDT_bind (sa := tc) (k := fun b en st => if b = true then s en st else t en st) R p fun c H1 G1 al1 st1 R1 p1 _ => by
    cases c with
    | true => rw [if_pos rfl] at p1 ⊢; exact ⟨F, G1, al1, en, st1, R1, p1⟩
    | false => rw [if_neg Bool.false_ne_true] at p1 ⊢; exact ⟨F, G1, al1, en, st1, R1, p1⟩
/-- two, three names at once -/
def sPar (i j : Nat) (t : SemA) : SemS := fun en st => (t en st).bind fun ws st => match ws with
  | [w, u] => .ok (.nx ((en.set i (some w)).set j (some u))) st
  | _ => .bad
theorem ss_par {i j : Nat} {x y : Str} {a b : Expr} {t : SemA} {px py pt : Pos} {kt k2 pt2} (hc : X.calm = true) (hN : X.N.Nodup) (hi : X.N[i]? = some x) (hj : X.N[j]? = some y) (hij : i ≠ j)
    (hx : X.env.scope.names.lookup x = some .local) (hy : X.env.scope.names.lookup y = some .local) (ha : SA X E [a, b] t)
    (hw : swappedStores [.Tuple [.Name x px, .Name y py] kt pt] (.Tuple [a, b] k2 pt2) X.env = pure (some [x, y]))
    (hs : swapsWithSole [.Tuple [.Name x px, .Name y py] kt pt] (.Tuple [a, b] k2 pt2) pos.line X.env = pure false := by rfl) :
    SS X E (.Assign [.Tuple [.Name x px, .Name y py] kt pt] (.Tuple [a, b] k2 pt2) pos) (sPar i j t) :=
  (ps_par hc hN hi hj hij hx hy ha hw hs).weak fun D σ H ⟨F, G, al, en, st, R, p⟩ => by
    refine tDA_bind (sa := t) (k := fun ws en st => match ws with | [w, u] => Res.ok (Fl.nx ((en.set i (some w)).set j (some u))) st | _ => .bad) (Q := PF (bx X F) D) R p fun xs H1 G1 al1 st1 ws R1 r1 p1 _ => ?_
    match xs, ws, r1, p1 with
    | [v1, v2], [w1, w2], .cons h1 (.cons h2 .nil), p1 => exact ⟨v1, v2, rfl, p1 G1 al1 H1 (.refl _ _) R1.s _ (((EnvOk.of R1).set h1).set h2)⟩
    | [], [], .nil, p1 => exact p1.elim
    | [v1], [w1], .cons h1 .nil, p1 => exact p1.elim
    | _ :: _ :: _ :: _, _ :: _ :: _ :: _, .cons _ (.cons _ (.cons _ _)), p1 => exact p1.elim
end

/-! ### targets -/
abbrev SemG := W → En → Sto → Res En
def PEn (B : Bx) (Q : St → Hp → Prop) (en' : En) (G' : Hp) (al' : Al) (_ : Sto) (H' : Hp) : Prop := ∀ σ', EnvOk B G' al' en' σ' → Q σ' H'
def gD (b : Hp → Bx) (E : XK) (g : SemG) : TG := fun v σ H Q => ∃ F G al en st w, Rel (b F) G al en st σ H ∧ Rw (b F) G al v w ∧ Post (b F) E G al (PEn (b F) Q) (g w en st)
abbrev SG (X : Cx) (E : XK) (e : Expr) (g : SemG) : Prop := PG X e (gD (bx X) E g)
abbrev SemGs := List PyData → En → Sto → Res En
def gDs (b : Hp → Bx) (E : XK) (g : SemGs) : TGs := fun vs σ H Q => ∃ F G al en st ds, Rel (b F) G al en st σ H ∧ Rps G vs ds ∧ Post (b F) E G al (PEn (b F) Q) (g ds en st)
abbrev SGs (X : Cx) (E : XK) (es : List Expr) (g : SemGs) : Prop := PGs X es (gDs (bx X) E g)
theorem _root_.L2.PG.weak {X : Cx} {e : Expr} {t t' : TG} (h : PG X e t) (i : ∀ v σ H Q, t' v σ H Q → t v σ H Q) : PG X e t' := ⟨fun pins s σ H v u Q I r q => h.run pins s σ H v u Q I r (i v σ H Q q)⟩
theorem _root_.L2.PGs.weak {X : Cx} {e : List Expr} {t t' : TGs} (h : PGs X e t) (i : ∀ v σ H Q, t' v σ H Q → t v σ H Q) : PGs X e t' := ⟨fun pins s σ H v u Q I r q => h.run pins s σ H v u Q I r (i v σ H Q q)⟩
def gN (i : Nat) : SemG := fun w en st => .ok (en.set i (some w)) st
def gNilS : SemGs := fun ds en st => match ds with
  | [] => .ok en st
  | _ => .bad
def gConsS (g : SemG) (r : SemGs) : SemGs := fun ds en st => match ds with
  | d :: ds => (g (.p d) en st).bind fun en st => r ds en st
  | [] => .bad
def gTupS (n : Nat) (r : SemGs) : SemG := fun w en st => match val st w with
  | some (.tuple ds) => if ds.length = n then r ds en st else .bad
  | _ => .bad
section
variable {X : Cx} {E : XK} {pos : Pos}
theorem sg_name {i : Nat} {x : Str} (hN : X.N.Nodup) (hi : X.N[i]? = some x) (hx : Loc X.env.scope x) (hf : X.fn x = true ∨ X.env.scope.names.lookup x = some .local := by first | exact .inl rfl | exact .inr rfl | assumption) : SG X E (.Name x pos) (gN i) :=
  (pg_name hN hi hx hf).weak fun v σ H Q ⟨F, G, al, en, st, w, R, r, p⟩ => p G al H (.refl _ _) R.s _ ((EnvOk.of R).set r)
theorem sgs_nil : SGs X E [] gNilS := pgs_nil.weak fun v σ H Q ⟨F, G, al, en, st, ds, R, r, p⟩ => by
  cases r with
  | nil => exact ⟨rfl, p G al H (.refl _ _) R.s _ (EnvOk.of R)⟩
  | cons _ _ => exact p.elim
theorem sgs_cons {e : Expr} {es : List Expr} {g : SemG} {r : SemGs} (h1 : SG X E e g) (h2 : SGs X E es r)
    (hs : (assignEach (e :: es) X.env).map (·.2) = assign e X.env :: (assignEach es X.env).map (·.2) := by rfl) : SGs X E (e :: es) (gConsS g r) := (pgs_cons h1 h2 hs).weak fun v σ H Q ⟨F, G, al, en, st, ds, R, rr, p⟩ => by
  cases rr with
  | nil => exact p.elim
  | cons h t =>
    refine ⟨_, _, rfl, F, G, al, en, st, .p _, R, h, ?_⟩
    refine (Post.bind p).imp fun en1 G1 al1 st1 H1 g1 rs q σ' e1 => ?_
    exact ⟨F, G1, al1, en1, st1, _, Rel.env rs e1, t.sub g1.sub, q⟩
theorem sg_tup {es : List Expr} {k : Nat} {n : Nat} {r : SemGs} (hc : X.calm = true) (h : SGs X E es r) (hn : (assignEach es X.env).length = n := by rfl) (hst : (assignEach es X.env).findIdx? (·.1) = none := by rfl) :
    SG X E (.Tuple es k pos) (gTupS n r) := (pg_tup hc h hn hst).weak fun v σ H Q ⟨F, G, al, en, st, w, R, rw', p⟩ => by
  unfold gTupS at p
  split at p
  · rename_i ds e1
    split at p
    · rename_i hl
      cases val_rv R.s rw' e1 with
      | tup h1 z1 r1 => exact ⟨_, _, rfl, SqT.of h1, by rw [r1.length]; exact hl, F, G, al, en, st, ds, R, r1, p⟩
    · exact p.elim
  · exact p.elim
/-- target = value -/
def sAsg (s : SemE) (g : SemG) : SemS := fun en st => (s en st).bind fun w st => (g w en st).bind fun en st => .ok (.nx en) st
theorem ss_asg {tg e : Expr} {s : SemE} {g : SemG} (he : SE X E e s) (hg : SG X E tg g) (hs : swapsWithSole [tg] e pos.line X.env = pure false := by rfl) (hw : swappedStores [tg] e X.env = pure none := by rfl)
    (h1 : (assignEach [tg] X.env).map (·.2) = [assign tg X.env] := by rfl) : SS X E (.Assign [tg] e pos) (sAsg s g) := (ps_asg he hg hs hw h1).weak fun D σ H ⟨F, G, al, en, st, R, p⟩ =>
  tD_bind (sa := s) (k := fun w en st => (g w en st).bind fun en st => Res.ok (Fl.nx en) st) (Q := PF (bx X F) D) R p fun x H1 G1 al1 st1 w R1 r1 p1 _ =>
    ⟨F, G1, al1, en, st1, w, R1, r1, (Post.bind p1).imp fun en2 G2 al2 st2 H2 g2 rs q σ' e' => q G2 al2 H2 (.refl _ _) rs σ' e'⟩
end

/-! ### while -/
def whileN (c : SemT) (b : SemS) : Nat → SemS
  | 0 => fun _ _ => .bad
  | n + 1 => fun en st => (c en st).bind fun k st => if k = true then (b en st).bind fun f st => match f with
      | .nx en => whileN c b n en st
      | .ct en => whileN c b n en st
      | .bk en => .ok (.nx en) st
      | .rt w => .ok (.rt w) st
    else .ok (.nx en) st
section
variable {X : Cx} {E : XK} {pos : Pos}
theorem ss_while (n : Nat) {c : Expr} {body : List Stmt} {tc : SemT} {tb : SemS} (hp : PassesOwn (model X.prog X.w) X.A X.env X.xe) (hc : ST X E c tc) (hb : SSs X E body tb) : SS X E (.While c body [] pos) (whileN tc tb n) :=
  (ps_while hp hc hb).weak fun D σ H ⟨F, G, al, en, st, R, p⟩ => by
    refine ⟨fun m σ H => tDS (bx X) E (whileN tc tb m) D σ H, ⟨n, F, G, al, en, st, R, p⟩, fun m σ H ⟨F, G, al, en, st, R, p⟩ => ?_⟩
    cases m with
    | zero => exact p.elim
    | succ m =>
      refine tDT_bind (sa := tc) (k := fun k en st => if k = true then (tb en st).bind fun f st => match f with
        | .nx en => whileN tc tb m en st
        | .ct en => whileN tc tb m en st
        | .bk en => .ok (.nx en) st
        | .rt w => .ok (.rt w) st
        else .ok (.nx en) st) R p fun k H1 G1 al1 st1 R1 p1 _ => ?_
      cases k with
      | false =>
        rw [if_neg Bool.false_ne_true] at p1 ⊢
        exact p1 G1 al1 H1 (.refl _ _) R1.s σ (EnvOk.of R1)
      | true =>
        rw [if_pos rfl] at p1 ⊢
        refine ⟨fun σ' H' => tDS (bx X) E (whileN tc tb m) D σ' H', fun σ' H' h => ⟨m, Nat.lt_succ_self m, h⟩, ?_⟩
        refine tDS_bind R1 p1 fun f G2 al2 st2 H2 g rs q => ?_
        cases f with
        | nx en2 => exact fun σ' e2 => ⟨F, G2, al2, en2, st2, Rel.env rs e2, q⟩
        | ct en2 => exact fun σ' e2 => ⟨F, G2, al2, en2, st2, Rel.env rs e2, q⟩
        | bk en2 => exact fun σ' e2 => q G2 al2 H2 (.refl _ _) rs σ' e2
        | rt w => exact fun v r => q G2 al2 H2 (.refl _ _) rs v r
end

/-! ### what is walked -/
abbrev SemI := En → Sto → Res (List PyData)
/-- turn by turn the data come -/
def WalkOk (b : Hp → Bx) (J : It) (G : Hp) (al : Al) (ds : List PyData) : Prop := ∀ (F : Hp) (i : Nat) (G' : Hp) (al' : Al) (st : Sto) (H : Hp), Gr G al G' al' → RelS (b F) G' al' st H →
  (∀ d, ds[i]? = some d → J.go i H ∧ ∀ x H2, J.yld i H x H2 → ∃ G2, Gr G' al' G2 al' ∧ RelS (b F) G2 al' st H2 ∧ Rp G2 x d) ∧ (ds[i]? = none → J.stop i H)
def iD (b : Hp → Bx) (E : XK) (s : SemI) : TI := fun σ H R => ∃ F G al en st, Rel (b F) G al en st σ H ∧ Post (b F) E G al (fun ds G' al' _ H' => ∀ J, ds.length ≤ sizeLine → WalkOk b J G' al' ds → R J H') (s en st)
abbrev SI (X : Cx) (E : XK) (tg e : Expr) (s : SemI) : Prop := PI X tg e (iD (bx X) E s)
theorem _root_.L2.PI.weak {X : Cx} {tg e : Expr} {t t' : TI} (h : PI X tg e t) (i : ∀ σ H Q, t' σ H Q → t σ H Q) : PI X tg e t' := ⟨fun pins s σ H Q I q => h.run pins s σ H Q I (i σ H Q q)⟩
section
variable {X : Cx} {E : XK} {tg : Expr}
/-- a list or a tuple -/
def iSeq (K : PySem.W.Frag) (tl : TE) : TI := fun σ H R => tl σ H fun x H1 => (∃ a, x = .ref a ∧ (((∃ xs, SqL K H1 a xs) ∧ R (Itl K a) H1) ∨ ((∃ xs, SqT K H1 a xs) ∧ R (Itt K a) H1))) ∨ (∃ z, x = .str z ∧ R (Its z) H1) ∨ ∃ d o kvs, x = .ref d ∧ H1 d = some (.frz o (.dK kvs)) ∧ R (Itk d o kvs) H1
theorem pi_seq {l : Expr} {tl : TE} (hl : PE X l tl) : PI X tg l (iSeq X.K tl) := by
  refine ⟨fun pins s σ H R I h => ?_⟩
  refine thn (hl.run pins s σ H _ I h) fun v s1 ⟨x, H1, I1, r1, q1⟩ => ?_
  rcases q1 with ⟨a, e, q1⟩ | ⟨z, e, q⟩ | ⟨d, o, kvs, e, hd, q⟩
  · subst e
    cases r1
    rcases q1 with ⟨⟨xs, hq⟩, q⟩ | ⟨⟨xs, hq⟩, q⟩
    · obtain ⟨its, rv, p, hz⟩ := I1.list hq
      refine wpAny_pyIter_list p.isList ?_
      refine ⟨s1.heap.objs.size, [s1.heap.objs.size], _, _, H1, rfl, I1.kept (t' := s1.toks) fun b o e => Heap.get?_push_of_some _ e, turn_list a _, ⟨_, Heap.get?_push_size _ rfl, rfl, rfl⟩, fun b hb => ?_, q⟩
      have e : b = s1.heap.objs.size := by simpa using hb
      subst e
      exact I1.fpOk (Nat.le_refl _) (I1.hok.fresh (Nat.le_refl _))
    · obtain ⟨its, rv, p, hz⟩ := I1.tuple hq
      refine wpAny_pyIter_tuple (show s1.heap.IsTuple a its.toArray from p) ?_
      refine ⟨s1.heap.objs.size, [s1.heap.objs.size], _, _, H1, rfl, I1.kept (t' := s1.toks) fun b o e => Heap.get?_push_of_some _ e, turn_tuple a _, ⟨_, Heap.get?_push_size _ rfl, rfl, rfl⟩, fun b hb => ?_, q⟩
      have e : b = s1.heap.objs.size := by simpa using hb
      subst e
      exact I1.fpOk (Nat.le_refl _) (I1.hok.fresh (Nat.le_refl _))
  · subst e
    obtain ⟨t, rfl⟩ := r1
    cases ha : z.cps.all (· < 128)
    · exact wpAny_pyIter_wide ha (pi_one (tk := s1.toks) I1 _ (turn_str _ z t "str_iterator" (.inr rfl)) ⟨_, Heap.get?_push_size _ rfl, rfl, rfl⟩ q)
    · exact wpAny_pyIter_ascii ha (pi_one (tk := s1.toks) I1 _ (turn_str _ z t "str_ascii_iterator" (.inl rfl)) ⟨_, Heap.get?_push_size _ rfl, rfl, rfl⟩ q)
  · subst e
    cases r1
    obtain ⟨h1, h2, h3, es, ep, vs, h4, h5, kv, hm⟩ := I1.frzK hd
    exact iter_keys h1 h2 h3 h4 (pi_one (tk := s1.toks) I1 _ (turn_keys _ h4) ⟨_, Heap.get?_push_size _ rfl, rfl, by rw [h5]; rfl⟩ q)
/-- the signs of a text -/
def signs (x : Str) : List PyData := x.cps.toList.map fun c => .str ⟨#[c]⟩
/-- keys that are texts or numbers, few enough -/
def allKeys (kvs : List (PyData × PyData)) : Bool := !kvs.isEmpty && (kvs.all fun kv => (keyOf kv.1).isSome) && decide (kvs.length ≤ sizeLine)
/-- the items of plain data, closed -/
def sItems (s : SemE) : SemI := fun en st => (s en st).bind fun w st => match w with
  | .p (.list ds) => .ok ds st
  | .p (.tuple ds) => .ok ds st
  | .p (.str x) => if x.cps.size ≤ sizeLine then .ok (signs x) st else .bad
  | .s ns => if ns.length ≤ sizeLine then .ok (ns.map .int) st else .bad
  | .p (.dict kvs) => if allKeys kvs = true then .ok (kvs.map (·.1)) st else .bad
  | .o n => match st[n]? with
    | some (.frz (.list ds)) => .ok ds st
    | some (.frz (.dict kvs)) => if allKeys kvs = true then .ok (kvs.map (·.1)) st else .bad
    | _ => .bad
  | _ => .bad
theorem walk_lst {G : Hp} {al : Al} {a : Addr} {xs : List V} {ds : List PyData} (h : G a = some (.lst xs)) (r : Rps G xs ds) : WalkOk (bx X) (Itl X.K a) G al ds := by
  intro F i G' al' st H g rs
  have hH : SqL X.K H a xs := by
    rcases rs.sam a _ (g.sub a _ h) with e | ⟨⟨_, e⟩, _⟩
    · exact SqL.of e
    · cases e
  refine ⟨fun d hd => ?_, fun hn => ?_⟩
  · obtain ⟨x, hx, rx⟩ := r.get hd
    refine ⟨⟨xs, x, hH, hx⟩, fun y H2 ⟨e, q⟩ => ?_⟩
    subst e
    have e2 := q xs hH
    rw [hx] at e2; cases e2
    exact ⟨G', .refl _ _, rs, rx.sub g.sub⟩
  · refine ⟨xs, hH, ?_⟩
    rw [r.length]
    exact List.getElem?_eq_none_iff.mp hn
theorem walk_tup {G : Hp} {al : Al} {a : Addr} {xs : List V} {ds : List PyData} (h : G a = some (.tup xs)) (r : Rps G xs ds) : WalkOk (bx X) (Itt X.K a) G al ds := by
  intro F i G' al' st H g rs
  have hH : SqT X.K H a xs := by
    rcases rs.sam a _ (g.sub a _ h) with e | ⟨⟨_, e⟩, _⟩
    · exact SqT.of e
    · cases e
  refine ⟨fun d hd => ?_, fun hn => ?_⟩
  · obtain ⟨x, hx, rx⟩ := r.get hd
    refine ⟨⟨xs, x, hH, hx⟩, fun y H2 ⟨e, q⟩ => ?_⟩
    subst e
    have e2 := q xs hH
    rw [hx] at e2; cases e2
    exact ⟨G', .refl _ _, rs, rx.sub g.sub⟩
  · refine ⟨xs, hH, ?_⟩
    rw [r.length]
    exact List.getElem?_eq_none_iff.mp hn
theorem walk_str {G : Hp} {al : Al} (x : Str) : WalkOk (bx X) (Its x) G al (signs x) := by
  intro F i G' al' st H g rs
  refine ⟨fun d hd => ?_, fun hn => ?_⟩
  · unfold signs at hd
    rw [List.getElem?_map, Option.map_eq_some_iff] at hd
    obtain ⟨c, hc, rfl⟩ := hd
    have hlt : i < x.cps.size := by simpa using (List.getElem?_eq_some_iff.mp hc).1
    refine ⟨hlt, fun y H2 ⟨e, c', hc', e2⟩ => ?_⟩
    subst e; subst e2
    rw [Array.getElem?_toList] at hc
    rw [hc] at hc'; cases hc'
    exact ⟨G', .refl _ _, rs, .str _⟩
  · have := List.getElem?_eq_none_iff.mp hn
    show x.cps.size ≤ i
    simpa [signs] using this
theorem rkv_at {G : Hp} : ∀ {kvs : List (Key × V)} {ds : List (PyData × PyData)} {i : Nat}, Rkv G kvs ds → ∀ {d : PyData}, (ds.map (·.1))[i]? = some d → ∃ k v, kvs[i]? = some (k, v) ∧ d = keyD k
  | _, _, i, .nil, d, h => by simp at h
  | _, _, 0, .cons (k := k) (v := v) hv r, d, h => by simp at h; exact ⟨k, v, rfl, h.symm⟩
  | _, _, i + 1, .cons hv r, d, h => by
    obtain ⟨k, v, h1, h2⟩ := rkv_at (i := i) r (by simpa using h)
    exact ⟨k, v, by simpa using h1, h2⟩
theorem rp_keyD {G : Hp} (k : Key) : Rp G (kV k) (keyD k) := by
  cases k with
  | inl i => exact .int i
  | inr x => exact .str x
theorem walk_keys {G : Hp} {al : Al} {a : Addr} {o : Obj} {kvs : List (Key × V)} {ds : List (PyData × PyData)} (h : G a = some (.frz o (.dK kvs))) (r : Rkv G kvs ds) : WalkOk (bx X) (Itk a o kvs) G al (ds.map (·.1)) := by
  intro F i G' al' st H g rs
  have hH : H a = some (.frz o (.dK kvs)) := by
    rcases rs.sam a _ (g.sub a _ h) with e | ⟨⟨_, e⟩, _⟩
    · exact e
    · cases e
  refine ⟨fun d hd => ?_, fun hn => ⟨hH, ?_⟩⟩
  · obtain ⟨k, v, h1, rfl⟩ := rkv_at r hd
    refine ⟨⟨hH, (List.getElem?_eq_some_iff.mp h1).1⟩, fun y H2 ⟨e, k', v', h2, e2⟩ => ?_⟩
    subst e; subst e2
    rw [h1] at h2; cases h2
    exact ⟨G', .refl _ _, rs, rp_keyD k⟩
  · rw [r.length]
    simpa using List.getElem?_eq_none_iff.mp hn
/-- the script -/
theorem walk_scr {G : Hp} {al : Al} {a : Addr} {ns : List Int} (hok : ∀ {F : Hp} {H : Hp} {G' : Hp} {al' : Al} {st : Sto}, Gr G al G' al' → RelS (bx X F) G' al' st H → SqL X.K H a (ns.map V.int)) : WalkOk (bx X) (Itl X.K a) G al (ns.map .int) := by
  intro F i G' al' st H g rs
  have hH := hok g rs
  refine ⟨fun d hd => ?_, fun hn => ?_⟩
  · rw [List.getElem?_map, Option.map_eq_some_iff] at hd
    obtain ⟨n, hn, rfl⟩ := hd
    refine ⟨⟨_, .int n, hH, by rw [List.getElem?_map, hn]; rfl⟩, fun y H2 ⟨e, q⟩ => ?_⟩
    subst e
    have e2 := q _ hH
    rw [List.getElem?_map, hn] at e2; cases e2
    exact ⟨G', .refl _ _, rs, .int n⟩
  · refine ⟨_, hH, ?_⟩
    have := List.getElem?_eq_none_iff.mp hn
    simpa using this
end
end Pd
end

section
set_option Elab.async false
set_option linter.all false
set_option autoImplicit false
set_option maxRecDepth 100000
/-! Pd: what is walked, for loops, list comprehensions. -/
namespace Pd
open PySem L2
variable [Wd]
section
variable {X : Cx} {E : XK} {tg e : Expr} {pos : Pos}
/-- a list, a tuple, a text, the script -/
theorem si_seq {s : SemE} (h : SE X E e s) : SI X E tg e (sItems s) := (pi_seq h).weak fun σ H Q ⟨F, G, al, en, st, R, p⟩ => by
  refine tD_bind (sa := s) (k := fun w _ st => match w with
    | .p (.list ds) => .ok ds st
    | .p (.tuple ds) => .ok ds st
    | .p (.str x) => if x.cps.size ≤ sizeLine then .ok (signs x) st else .bad
    | .s ns => if ns.length ≤ sizeLine then .ok (ns.map .int) st else .bad
    | .p (.dict kvs) => if allKeys kvs = true then .ok (kvs.map (·.1)) st else .bad
    | .o n => match st[n]? with
      | some (.frz (.list ds)) => .ok ds st
      | some (.frz (.dict kvs)) => if allKeys kvs = true then .ok (kvs.map (·.1)) st else .bad
      | _ => .bad
    | _ => .bad) R p fun x H1 G1 al1 st1 w R1 r1 p1 _ => ?_
  have dct : ∀ {v : V} {ds : List (PyData × PyData)}, Rp G1 v (.dict ds) → allKeys ds = true → Post (bx X F) E G1 al1 (fun ds G' al' _ H' => ∀ J, ds.length ≤ sizeLine → WalkOk (bx X) J G' al' ds → Q J H') (.ok (ds.map (·.1)) st1) →
      ∃ d o kvs, v = .ref d ∧ H1 d = some (.frz o (.dK kvs)) ∧ Q (Itk d o kvs) H1 := fun {v ds} r k p => by
    unfold allKeys at k
    simp only [Bool.and_eq_true, decide_eq_true_eq] at k
    cases r with
    | dic h1 r1 =>
      refine ⟨_, _, _, rfl, ?_, p G1 al1 H1 (.refl _ _) R1.s _ (by rw [List.length_map]; exact k.2) (walk_keys h1 r1)⟩
      rcases R1.s.sam _ _ h1 with e | ⟨⟨_, e⟩, _⟩
      · exact e
      · cases e
    | dit h1 z r1 =>
      cases r1 with
      | nil => exact absurd rfl z
      | cons _ _ _ => simp [keyOf] at k
  have lst : ∀ {a : Addr} {xs : List V} {ds : List PyData}, G1 a = some (.lst xs) → xs.length ≤ sizeLine → Rps G1 xs ds → Post (bx X F) E G1 al1 (fun ds G' al' _ H' => ∀ J, ds.length ≤ sizeLine → WalkOk (bx X) J G' al' ds → Q J H') (.ok ds st1) →
      (∃ xs, SqL X.K H1 a xs) ∧ Q (Itl X.K a) H1 := fun {a xs ds} h z r p => by
    refine ⟨⟨xs, ?_⟩, p G1 al1 H1 (.refl _ _) R1.s _ (by rw [← r.length]; exact z) (walk_lst h r)⟩
    rcases R1.s.sam a _ h with e | ⟨⟨_, e⟩, _⟩
    · exact SqL.of e
    · cases e
  split at p1
  · rename_i ds
    cases r1 with
    | lst h z r => exact .inl ⟨_, rfl, .inl (lst h z r p1)⟩
  · rename_i ds
    cases r1 with
    | tup h z r =>
      rename_i a xs
      refine .inl ⟨a, rfl, .inr ⟨⟨xs, ?_⟩, p1 G1 al1 H1 (.refl _ _) R1.s _ (by rw [← r.length]; exact z) (walk_tup h r)⟩⟩
      rcases R1.s.sam _ _ h with e | ⟨⟨_, e⟩, _⟩
      · exact SqT.of e
      · cases e
  · rename_i x
    cases r1
    split at p1
    · rename_i hz
      exact .inr (.inl ⟨x, rfl, p1 G1 al1 H1 (.refl _ _) R1.s _ (by simpa [signs] using hz) (walk_str x)⟩)
    · exact p1.elim
  · rename_i ns
    obtain ⟨a, rfl, hq⟩ := r1
    have hok : ∀ {F : Hp} {H : Hp} {G' : Hp} {al' : Al} {st : Sto}, Gr G1 al1 G' al' → RelS (bx X F) G' al' st H → SqL X.K H a (ns.map V.int) := fun {F H G' al' st} g rs => by
      rcases SqL.sub g.sub hq with (h | ⟨o, h⟩) | h
      · rcases rs.sam _ _ h with e | ⟨⟨_, e⟩, _⟩
        · exact SqL.of e
        · cases e
      · rcases rs.sam _ _ h with e | ⟨⟨_, e⟩, _⟩
        · exact .inl (.inr ⟨o, e⟩)
        · cases e
      · exact .inr h
    split at p1
    · rename_i hz
      exact .inl ⟨a, rfl, .inl ⟨⟨_, hok (.refl _ _) R1.s⟩, p1 G1 al1 H1 (.refl _ _) R1.s _ (by simpa using hz) (walk_scr hok)⟩⟩
    · exact p1.elim
  · split at p1
    · rename_i hk
      exact .inr (.inr (dct r1 hk p1))
    · exact p1.elim
  · rename_i n
    split at p1
    · rename_i ds hc
      obtain ⟨a, ha, rfl⟩ := r1
      have ok := R1.s.cel n a _ ha hc
      cases ok with
      | lst h z r => exact .inl ⟨a, rfl, .inl (lst h z r p1)⟩
    · rename_i ds hc
      obtain ⟨a, ha, rfl⟩ := r1
      split at p1
      · rename_i hk
        exact .inr (.inr (dct (R1.s.cel n a _ ha hc) hk p1))
      · exact p1.elim
    · exact p1.elim
  · exact p1.elim

theorem sa_one {s : SemE} {b : Hp → Bx} {F G : Hp} {al : Al} {en : En} {st : Sto} {σ : St} {H : Hp} {β : Type} {k : W → Sto → Res β} {Q : β → Hp → Al → Sto → Hp → Prop} (R : Rel (b F) G al en st σ H) (p : Post (b F) E G al Q ((s en st).bind k)) {Q' : List V → Hp → Prop}
    (h : ∀ x H1 G1 al1 st1 w, Rel (b F) G1 al1 en st1 σ H1 → Rw (b F) G1 al1 x w → Post (b F) E G1 al1 Q (k w st1) → Q' [x] H1) : tDA b E (sCons s sNil) σ H Q' := by
  refine ⟨F, G, al, en, st, R, ?_⟩
  unfold sCons sNil
  cases hr : s en st with
  | bad => rw [hr] at p; exact p.elim
  | exc x st1 => rw [hr] at p; exact p
  | ok w st1 =>
    rw [hr] at p
    change Post _ _ _ _ _ (Res.ok [w] st1)
    intro G1 al1 H1 g rs vs rv
    match vs, rv with
    | [v], .cons hv .nil => exact h v H1 G1 al1 st1 w (R.to g rs) hv (Post.gr (r := k w st1) p g)
/-! ### ranges -/
/-- lo, .. (n of them) -/
def intsD (lo : Int) (n : Nat) : List PyData := (List.range n).map fun i => .int (lo + (i : Nat))
theorem ints_get (lo : Int) (n i : Nat) : (intsD lo n)[i]? = if i < n then some (.int (lo + (i : Nat))) else none := by
  unfold intsD
  by_cases h : i < n
  · rw [if_pos h, List.getElem?_map, List.getElem?_range h]; rfl
  · rw [if_neg h]; exact List.getElem?_eq_none (by simpa using Nat.le_of_not_lt h)
theorem walk_range {G : Hp} {al : Al} (lo : Int) (n : Nat) : WalkOk (bx X) (Itr lo n) G al (intsD lo n) := by
  intro F i G' al' st H g rs
  refine ⟨fun d hd => ?_, fun hn => ?_⟩
  · rw [ints_get] at hd
    split at hd
    · rename_i hlt
      cases hd
      exact ⟨hlt, fun x H2 ⟨e1, e2⟩ => by subst e1; subst e2; exact ⟨G', .refl _ _, rs, .int _⟩⟩
    · cases hd
  · rw [ints_get] at hn
    split at hn
    · cases hn
    · rename_i h; exact Nat.le_of_not_lt h
def smallR (i : Int) : Bool := decide (-(2 ^ 20) ≤ i) && decide (i ≤ 2 ^ 20)
theorem smallR_of' {i : Int} (h : smallR i = true) : -(2 ^ 20) ≤ i ∧ i ≤ 2 ^ 20 := by
  have := Bool.and_eq_true_iff.mp h
  exact ⟨of_decide_eq_true this.1, of_decide_eq_true this.2⟩
theorem smallR_of {i : Int} (h : smallR i = true) : -(2 ^ 62) ≤ i ∧ i < 2 ^ 62 := by
  have := smallR_of' h
  omega
theorem intsD_length (lo : Int) (n : Nat) : (intsD lo n).length = n := by unfold intsD; simp
def sRange1 (s : SemE) : SemI := fun en st => (s en st).bind fun w st => match w with
  | .p (.int j) => if smallR j = true then .ok (intsD 0 j.toNat) st else .bad
  | _ => .bad
def sRange2 (s t : SemE) : SemI := fun en st => (s en st).bind fun w st => (t en st).bind fun u st => match w, u with
  | .p (.int i), .p (.int j) => if (smallR i && smallR j) = true then .ok (intsD i (j - i).toNat) st else .bad
  | _, _ => .bad
theorem si_range1 {a : Expr} {p : Pos} {s : SemE} (hg : Gl X "range") (hm : X.mg "range" = none) (ha : SE X E a s) (hs : starEach [a] X.env = [(false, eval a X.env)] := by rfl) : SI X E tg (.Call (.Name "range" p) [a] [] pos) (sRange1 s) :=
  (pi_range1 hg hm (sa_cons ha sa_nil (by rw [hs]; rfl)) hs).weak fun σ H Q ⟨F, G, al, en, st, R, p⟩ => by
    refine sa_one R p fun x H1 G1 al1 st1 w R1 r1 p1 => ?_
    split at p1
    · rename_i j
      split at p1
      · rename_i hj
        cases r1
        obtain ⟨h1, h2⟩ := smallR_of hj
        exact ⟨j, rfl, h1, h2, p1 G1 al1 H1 (.refl _ _) R1.s _ (by rw [intsD_length, sizeLine_eq]; have := smallR_of' hj; omega) (walk_range 0 j.toNat)⟩
      · exact p1.elim
    · exact p1.elim
theorem si_range2 {a b : Expr} {p : Pos} {s t : SemE} (hg : Gl X "range") (hm : X.mg "range" = none) (ha : SE X E a s) (hb : SE X E b t) (hs : starEach [a, b] X.env = [(false, eval a X.env), (false, eval b X.env)] := by rfl) (hs2 : starEach [b] X.env = [(false, eval b X.env)] := by rfl) :
    SI X E tg (.Call (.Name "range" p) [a, b] [] pos) (sRange2 s t) :=
  (pi_range2 hg hm (sa_cons ha (sa_cons hb sa_nil (by rw [hs2]; rfl)) (by rw [hs, hs2])) hs hs2).weak fun σ H Q ⟨F, G, al, en, st, R, p⟩ => by
    refine tDA_bind (sa := sCons s (sCons t sNil)) (k := fun ws _ st => match ws with
      | [.p (.int i), .p (.int j)] => if (smallR i && smallR j) = true then .ok (intsD i (j - i).toNat) st else .bad
      | _ => .bad) (Q := fun ds G' al' _ H' => ∀ J, ds.length ≤ sizeLine → WalkOk (bx X) J G' al' ds → Q J H') R ?_ fun xs H1 G1 al1 st1 ws R1 r1 p1 _ => ?_
    · unfold sRange2 at p
      unfold sCons sNil
      cases hr : s en st with
      | bad => rw [hr] at p; exact p.elim
      | exc x st1 => rw [hr] at p; exact p
      | ok w st1 =>
        rw [hr] at p
        change Post _ _ _ _ _ ((t en st1).bind _) at p
        change Post _ _ _ _ _ (((((t en st1).bind fun u st => (Res.ok ([] : List W) st).bind fun ws st => .ok (u :: ws) st)).bind fun ws st => .ok (w :: ws) st).bind _)
        cases ht : t en st1 with
        | bad => rw [ht] at p; exact p.elim
        | exc x st1 => rw [ht] at p; exact p
        | ok u st2 =>
          rw [ht] at p
          change Post _ _ _ _ _ (match w, u with
            | .p (.int i), .p (.int j) => if (smallR i && smallR j) = true then .ok (intsD i (j - i).toNat) st2 else .bad
            | _, _ => .bad) at p
          change Post _ _ _ _ _ (match [w, u] with
            | [.p (.int i), .p (.int j)] => if (smallR i && smallR j) = true then .ok (intsD i (j - i).toNat) st2 else .bad
            | _ => .bad)
          split at p
          · exact p
          · exact p.elim
    · split at p1
      · rename_i i j
        split at p1
        · rename_i hij
          have h := Bool.and_eq_true_iff.mp hij
          obtain ⟨h1, h2⟩ := smallR_of h.1
          obtain ⟨h3, h4⟩ := smallR_of h.2
          match xs, r1 with
          | [v, v2], .cons hv (.cons hv2 .nil) =>
            cases hv; cases hv2
            exact ⟨i, j, rfl, ⟨h1, h2, h3, h4⟩, p1 G1 al1 H1 (.refl _ _) R1.s _ (by rw [intsD_length, sizeLine_eq]; have := smallR_of' h.1; have := smallR_of' h.2; omega) (walk_range i _)⟩
        · exact p1.elim
      · exact p1.elim

/-! ### enumerate -/
/-- the pairs of a place and an item -/
def enums (ds : List PyData) : List PyData := (List.range ds.length).map fun i => .tuple [.int (i : Nat), ds.getD i .none]
theorem enums_get (ds : List PyData) (i : Nat) : (enums ds)[i]? = (ds[i]?).map fun d => .tuple [.int (i : Nat), d] := by
  unfold enums
  by_cases h : i < ds.length
  · rw [List.getElem?_map, List.getElem?_range h, List.getElem?_eq_getElem h]
    simp [List.getD_eq_getElem?_getD, List.getElem?_eq_getElem h]
  · rw [List.getElem?_eq_none (by simpa using Nat.le_of_not_lt h), List.getElem?_eq_none (Nat.le_of_not_lt h)]; rfl
theorem walk_enum {G : Hp} {al : Al} {a : Addr} {xs : List V} {ds : List PyData} (h : G a = some (.lst xs)) (r : Rps G xs ds) : WalkOk (bx X) (Ite X.K a) G al (enums ds) := by
  intro F i G' al' st H g rs
  have hH : SqL X.K H a xs := by
    rcases rs.sam a _ (g.sub a _ h) with e | ⟨⟨_, e⟩, _⟩
    · exact SqL.of e
    · cases e
  refine ⟨fun d hd => ?_, fun hn => ?_⟩
  · rw [enums_get, Option.map_eq_some_iff] at hd
    obtain ⟨d', hd', rfl⟩ := hd
    obtain ⟨x, hx, rx⟩ := r.get hd'
    refine ⟨⟨xs, x, hH, hx⟩, fun y H2 ⟨T, x', e1, hT, e2, q⟩ => ?_⟩
    subst e1; subst e2
    have e3 := q xs hH
    rw [hx] at e3; cases e3
    obtain ⟨g2, rs2⟩ := rs.close (u := .tup [.int (i : Nat), x]) hT
    exact ⟨_, g2, rs2, .tup upd_same (by show 2 ≤ sizeLine; decide) (.cons (.int _) (.cons (rx.sub (g.trans g2).sub) .nil))⟩
  · refine ⟨xs, hH, ?_⟩
    rw [enums_get, Option.map_eq_none_iff] at hn
    rw [r.length]
    exact List.getElem?_eq_none_iff.mp hn
/-- enumerate of a closed list -/
def sEnum (s : SemE) : SemI := fun en st => (s en st).bind fun w st => match w with
  | .p (.list ds) => .ok (enums ds) st
  | .o n => match st[n]? with
    | some (.frz (.list ds)) => .ok (enums ds) st
    | _ => .bad
  | _ => .bad
theorem si_enum {a : Expr} {p tpos : Pos} {elts : List Expr} {kk : Nat} {s : SemE} (hg : Gl X "enumerate") (hm : X.mg "enumerate" = none) (ha : SE X E a s) (hs : starEach [a] X.env = [(false, eval a X.env)] := by rfl) :
    SI X E (.Tuple elts kk tpos) (.Call (.Name "enumerate" p) [a] [] pos) (sEnum s) :=
  (pi_enum hg hm (sa_cons ha sa_nil (by rw [hs]; rfl)) hs).weak fun σ H Q ⟨F, G, al, en, st, R, p⟩ => by
    refine sa_one R p fun x H1 G1 al1 st1 w R1 r1 p1 => ?_
    have lst : ∀ {a : Addr} {xs : List V} {ds : List PyData}, G1 a = some (.lst xs) → xs.length ≤ sizeLine → Rps G1 xs ds → Post (bx X F) E G1 al1 (fun ds G' al' _ H' => ∀ J, ds.length ≤ sizeLine → WalkOk (bx X) J G' al' ds → Q J H') (.ok (enums ds) st1) →
        SqL X.K H1 a xs ∧ Q (Ite X.K a) H1 := fun {a xs ds} h z r p => by
      refine ⟨?_, p G1 al1 H1 (.refl _ _) R1.s _ (by unfold enums; rw [List.length_map, List.length_range, ← r.length]; exact z) (walk_enum h r)⟩
      rcases R1.s.sam a _ h with e | ⟨⟨_, e⟩, _⟩
      · exact SqL.of e
      · cases e
    split at p1
    · rename_i ds
      cases r1 with
      | lst h z r => exact ⟨_, _, rfl, lst h z r p1⟩
    · rename_i n
      split at p1
      · rename_i ds hc
        obtain ⟨a, ha, rfl⟩ := r1
        have ok := R1.s.cel n a _ ha hc
        cases ok with
        | lst h z r => exact ⟨_, _, rfl, lst h z r p1⟩
      · exact p1.elim
    · exact p1.elim

/-! ### for -/
def forL (tg : SemG) (b : SemS) : List PyData → SemS
  | [] => fun en st => .ok (.nx en) st
  | d :: ds => fun en st => (tg (.p d) en st).bind fun en st => (b en st).bind fun f st => match f with
    | .nx en => forL tg b ds en st
    | .ct en => forL tg b ds en st
    | .bk en => .ok (.nx en) st
    | .rt w => .ok (.rt w) st
def sFor (s : SemI) (tg : SemG) (b : SemS) : SemS := fun en st => (s en st).bind fun ds st => forL tg b ds en st
theorem drop_get {ds : List PyData} {i : Nat} {d : PyData} (h : ds[i]? = some d) : ds.drop i = d :: ds.drop (i + 1) := by
  obtain ⟨hl, e⟩ := List.getElem?_eq_some_iff.mp h
  rw [List.drop_eq_getElem_cons hl, e]
theorem ss_for {iter : Expr} {body : List Stmt} {s : SemI} {g : SemG} {b : SemS} (hp : PassesOwn (model X.prog X.w) X.A X.env X.xe) (hc : X.calm = true) (hi : SI X E tg iter s) (hg : SG X E tg g) (hb : SSs X E body b)
    (hs : ∀ x, foldedSetIterable iter X.env x = pure x := by intro _; rfl) : SS X E (.For tg iter body [] pos) (sFor s g b) :=
  (ps_for hp hc hi hg hb hs).weak fun D σ H ⟨F, G, al, en, st, R, p⟩ => by
    refine ⟨F, G, al, en, st, R, (Post.bind p).imp fun ds G1 al1 st1 H1 g1 rs1 q J hz wk => ?_⟩
    refine ⟨fun i m σ H => m = ds.length - i ∧ i ≤ ds.length ∧ ∃ G al en st, Gr G1 al1 G al ∧ Rel (bx X F) G al en st σ H ∧ Post (bx X F) E G al (PF (bx X F) D) (forL g b (ds.drop i) en st), ⟨ds.length, by simp, Nat.zero_le _, G1, al1, en, st1, .refl _ _, R.to g1 rs1, q⟩, ?_⟩
    rintro i m σ H ⟨rfl, hle, G2, al2, en2, st2, g2, R2, q2⟩
    obtain ⟨go, stop⟩ := wk F i G2 al2 st2 H g2 R2.s
    cases hd : ds[i]? with
    | none =>
      refine .inl ⟨stop hd, ?_⟩
      have e : ds.drop i = [] := List.drop_eq_nil_of_le (List.getElem?_eq_none_iff.mp hd)
      rw [e] at q2
      exact q2 G2 al2 H (.refl _ _) R2.s σ (EnvOk.of R2)
    | some d =>
      have hlt : i < ds.length := (List.getElem?_eq_some_iff.mp hd).1
      rw [drop_get hd] at q2
      obtain ⟨hgo, hy⟩ := go d hd
      refine .inr ⟨hgo, fun σ' H' => ∃ G al en st, Gr G1 al1 G al ∧ Rel (bx X F) G al en st σ' H' ∧ Post (bx X F) E G al (PF (bx X F) D) (forL g b (ds.drop (i + 1)) en st),
        fun σ' H' h => ⟨ds.length - (i + 1), by omega, rfl, hlt, h⟩, fun x H3 y => ?_⟩
      obtain ⟨G3, g3, rs3, rx⟩ := hy x H3 y
      have q3 : Post (bx X F) E G3 al2 (PF (bx X F) D) ((g (.p d) en2 st2).bind fun en st => (b en st).bind fun f st => match f with
        | .nx en => forL g b (ds.drop (i + 1)) en st
        | .ct en => forL g b (ds.drop (i + 1)) en st
        | .bk en => .ok (.nx en) st
        | .rt w => .ok (.rt w) st) := q2.gr g3
      refine ⟨F, G3, al2, en2, st2, .p d, R2.to g3 rs3, rx, (Post.bind q3).imp fun en4 G4 al4 st4 H4 g4 rs4 q4 σ4 e4 => ?_⟩
      refine tDS_bind (Rel.env rs4 e4) q4 fun f G5 al5 st5 H5 g5 rs5 q5 => ?_
      have gg := g2.trans (g3.trans (g4.trans g5))
      cases f with
      | nx en5 => exact fun σ' e5 => ⟨G5, al5, en5, st5, gg, Rel.env rs5 e5, q5⟩
      | ct en5 => exact fun σ' e5 => ⟨G5, al5, en5, st5, gg, Rel.env rs5 e5, q5⟩
      | bk en5 => exact fun σ' e5 => q5 G5 al5 H5 (.refl _ _) rs5 σ' e5
      | rt w => exact fun v r => q5 G5 al5 H5 (.refl _ _) rs5 v r
end
end Pd
end

section
set_option Elab.async false
set_option linter.all false
set_option autoImplicit false
set_option maxRecDepth 100000
/-! Pd: list comprehensions. -/
namespace Pd
open PySem L2
variable [Wd]
section
variable {X : Cx} {E : XK} {F G : Hp} {al : Al} {st : Sto} {H : Hp} {p : Addr} {u v : HO}
/-! ### frames -/
theorem RelS.frame (R : RelS (bx X F) G al st H) (h : H p = some u) (ha : p ∉ al) (hg : G p = none) : RelS (bx X (upd F p u)) G al st H := by
  refine ⟨R.pw, R.len, R.nd, R.sam, fun a x e => ?_, R.has, fun n a c e1 e2 => R.cel n a c e1 e2⟩
  by_cases hp : a = p
  · subst hp
    have e' : upd F a u a = some x := e
    rw [upd_same] at e'; cases e'
    exact ⟨h, ha, hg⟩
  · have e' : upd F p u a = some x := e
    rw [upd_ne hp] at e'
    exact R.frm a x e'
theorem RelS.unframe (R : RelS (bx X (upd F p u)) G al st H) (hf : F p = none) : RelS (bx X F) G al st H := by
  refine ⟨R.pw, R.len, R.nd, R.sam, fun a x e => ?_, R.has, fun n a c e1 e2 => R.cel n a c e1 e2⟩
  have e : F a = some x := e
  have hp : a ≠ p := fun z => by rw [z, hf] at e; cases e
  exact R.frm a x (show upd F p u a = some x by rw [upd_ne hp]; exact e)
theorem RelS.frameAt (R : RelS (bx X (upd F p u)) G al st H) : H p = some u ∧ p ∉ al ∧ G p = none := R.frm p u (show upd F p u p = some u from upd_same)
theorem RelS.frameSet (R : RelS (bx X (upd F p u)) G al st H) (hf : F p = none) : RelS (bx X (upd F p v)) G al st (upd H p v) := by
  obtain ⟨h1, h2, h3⟩ := R.frameAt
  have R0 := R.unframe hf
  have R1 : RelS (bx X F) G al st (upd H p v) := by
    refine ⟨R0.pw, R0.len, R0.nd, fun b x e => ?_, fun b x e => ?_, fun b hb => ?_, fun m b c e1 e2 => ?_⟩
    · have hb : b ≠ p := fun z => by rw [z, h3] at e; cases e
      rw [upd_ne hb]; exact R0.sam b x e
    · have e' : F b = some x := e
      have hb : b ≠ p := fun z => by rw [z, hf] at e'; cases e'
      obtain ⟨f1, f2, f3⟩ := R0.frm b x e
      exact ⟨by rw [upd_ne hb]; exact f1, f2, f3⟩
    · obtain ⟨x, e⟩ := R0.has b hb
      have hne : b ≠ p := fun z => h2 (z ▸ hb)
      exact ⟨x, by rw [upd_ne hne]; exact e⟩
    · have hne : b ≠ p := fun z => h2 (z ▸ List.mem_of_getElem? e1)
      exact (R0.cel m b c e1 e2).move (Gr.refl _ _) (upd_ne hne) fun q => q
  exact R1.frame upd_same h2 h3
/-- a tracked object beside becomes closed -/
theorem RelS.adopt (R : RelS (bx X F) G al st H) (h : H p = some u) (ha : p ∉ al) (hg : G p = none) (hf : F p = none) : Gr G al (upd G p u) al ∧ RelS (bx X F) (upd G p u) al st H := by
  have g : Gr G al (upd G p u) al := ⟨Sub.upd hg, fun _ _ h => h⟩
  refine ⟨g, R.pw, R.len, R.nd, fun b x e => ?_, fun b x e => ?_, R.has, fun m b c e1 e2 => ?_⟩
  · by_cases hb : b = p
    · subst hb; rw [upd_same] at e; cases e; exact .inl h
    · rw [upd_ne hb] at e; exact R.sam b x e
  · have e' : F b = some x := e
    have hb : b ≠ p := fun z => by rw [z, hf] at e'; cases e'
    obtain ⟨f1, f2, f3⟩ := R.frm b x e
    exact ⟨f1, f2, by rw [upd_ne hb]; exact f3⟩
  · have hne : b ≠ p := fun z => ha (z ▸ List.mem_of_getElem? e1)
    exact (R.cel m b c e1 e2).move g rfl fun q => by rw [upd_ne hne]; exact q
theorem RelS.noF (R : RelS (bx X F) G al st H) (h : H p = none) : F p = none := by
  cases e : F p with
  | none => rfl
  | some x => have := (R.frm p x e).1; rw [h] at this; cases this

theorem Res.bind_assoc {α β γ : Type} (r : Res α) (f : α → Sto → Res β) (g : β → Sto → Res γ) : (r.bind f).bind g = r.bind fun a st => (f a st).bind g := by cases r <;> rfl
/-- no exception -/
def noX {α : Type} (r : Res α) : Res α := match r with
  | .exc _ _ => .bad
  | r => r
theorem Post.bindF {α β : Type} {F' : Hp} {E' : XK} {Q : β → Hp → Al → Sto → Hp → Prop} {r : Res α} {k : α → Sto → Res β} (p : Post (bx X F) E G al Q ((noX r).bind k)) :
    Post (bx X F') E' G al (fun x G' al' st' _ => Post (bx X F) E G' al' Q (k x st')) r := by
  cases r with
  | ok x st1 => exact fun G1 al1 H1 g1 rs => Post.gr (r := k x st1) p g1
  | exc x st1 => exact p.elim
  | bad => exact p.elim

/-! ### targets that are names -/
def setAll (σ : St) : List Nat → List V → St
  | i :: is, v :: vs => setAll (σ.set i (some v)) is vs
  | _, _ => σ
theorem wipe_at {σ : St} {i : Nat} : ∀ {vs : List Nat}, i ∈ vs → i < σ.length → (wipe σ vs)[i]? = some none
  | v :: vs, h, hl => by
    unfold wipe
    by_cases hv : v = i
    · subst hv; rw [List.getElem?_set_self (by rw [wipe_length]; exact hl)]
    · rw [List.getElem?_set_ne hv]
      rcases List.mem_cons.mp h with e | h
      · exact absurd e.symm hv
      · exact wipe_at h hl
theorem wipe_not {σ : St} {i : Nat} : ∀ {vs : List Nat}, i ∉ vs → (wipe σ vs)[i]? = σ[i]?
  | [], _ => rfl
  | v :: vs, h => by
    unfold wipe
    simp only [List.mem_cons, not_or] at h
    rw [List.getElem?_set_ne (Ne.symm h.1)]
    exact wipe_not h.2
theorem wipe_set {σ : St} {i : Nat} {x : Option V} {vs : List Nat} (h : i ∈ vs) : wipe (σ.set i x) vs = wipe σ vs := by
  apply List.ext_getElem?
  intro j
  by_cases hj : j ∈ vs
  · by_cases hl : j < σ.length
    · rw [wipe_at hj (by simpa using hl), wipe_at hj hl]
    · rw [List.getElem?_eq_none (by rw [wipe_length]; simpa using hl), List.getElem?_eq_none (by rw [wipe_length]; simpa using hl)]
  · rw [wipe_not hj, wipe_not hj, List.getElem?_set_ne (fun e => hj (by rw [← e]; exact h))]
theorem wipe_wipe {σ : St} (vs : List Nat) : wipe (wipe σ vs) vs = wipe σ vs := by
  apply List.ext_getElem?
  intro j
  by_cases hj : j ∈ vs
  · by_cases hl : j < σ.length
    · rw [wipe_at hj (by rw [wipe_length]; exact hl), wipe_at hj hl]
    · rw [List.getElem?_eq_none (by rw [wipe_length, wipe_length]; simpa using hl), List.getElem?_eq_none (by rw [wipe_length]; simpa using hl)]
  · rw [wipe_not hj]
/-- slots forgotten, on our side -/
def wipeE (en : En) : List Nat → En
  | [] => en
  | v :: vs => (wipeE en vs).set v none
theorem EnvOk.wipe {B : Bx} {en : En} {σ : St} (e : EnvOk B G al en σ) : ∀ vs : List Nat, EnvOk B G al (wipeE en vs) (L2.wipe σ vs)
  | [] => e
  | v :: vs => by
    have ih := EnvOk.wipe e vs
    unfold wipeE L2.wipe
    refine ⟨by simp [ih.1], fun j w h => ?_⟩
    by_cases hj : j = v
    · subst hj
      by_cases hl : j < (wipeE en vs).length
      · rw [List.getElem?_set_self hl] at h; cases h
      · rw [List.getElem?_eq_none (by simpa using hl)] at h; cases h
    · rw [List.getElem?_set_ne (Ne.symm hj)] at h ⊢
      exact ih.2 j w h
theorem EnvOk.gr {B : Bx} {en : En} {σ : St} {G' : Hp} {al' : Al} (e : EnvOk B G al en σ) (g : Gr G al G' al') : EnvOk B G' al' en σ := ⟨e.1, fun i w h => let ⟨v, h1, h2⟩ := e.2 i w h; ⟨v, h1, h2.gr g⟩⟩
/-- a target of the library's own reading, by our semantic one; it stores the slots vs alone -/
def GW (X : Cx) (g : TG) (sg : SemG) (vs : List Nat) : Prop := ∀ (F G : Hp) (al : Al) (en : En) (st : Sto) (σ : St) (H : Hp) (v : V) (w : W) (E : XK) (Q : St → Hp → Prop), Rel (bx X F) G al en st σ H → Rw (bx X F) G al v w →
  Post (bx X F) E G al (fun en' G' al' _ H' => ∀ σ', L2.wipe σ' vs = L2.wipe σ vs → EnvOk (bx X F) G' al' en' σ' → Q σ' H') (sg w en st) → g v σ H Q
theorem gw_name {i : Nat} {vs : List Nat} (h : i ∈ vs) : GW X (gName i) (gN i) vs := fun F G al en st σ H v w E Q R r p => p G al H (.refl _ _) R.s _ (wipe_set h) ((EnvOk.of R).set r)
def GWs (X : Cx) (g : TGs) (sg : SemGs) (vs : List Nat) : Prop := ∀ (F G : Hp) (al : Al) (en : En) (st : Sto) (σ : St) (H : Hp) (xs : List V) (ds : List PyData) (E : XK) (Q : St → Hp → Prop), Rel (bx X F) G al en st σ H → Rps G xs ds →
  Post (bx X F) E G al (fun en' G' al' _ H' => ∀ σ', L2.wipe σ' vs = L2.wipe σ vs → EnvOk (bx X F) G' al' en' σ' → Q σ' H') (sg ds en st) → g xs σ H Q
theorem gws_nil {vs : List Nat} : GWs X gNil gNilS vs := fun F G al en st σ H xs ds E Q R r p => by
  cases r with
  | nil => exact ⟨rfl, p G al H (.refl _ _) R.s _ rfl (EnvOk.of R)⟩
  | cons _ _ => exact p.elim
theorem gws_cons {vs : List Nat} {g : TG} {sg : SemG} {gr : TGs} {sgr : SemGs} (h1 : GW X g sg vs) (h2 : GWs X gr sgr vs) : GWs X (gCons g gr) (gConsS sg sgr) vs := fun F G al en st σ H xs ds E Q R r p => by
  cases r with
  | nil => exact p.elim
  | cons h t =>
    refine ⟨_, _, rfl, h1 F G al en st σ H _ (.p _) E _ R h ((Post.bind p).imp fun en1 G1 al1 st1 H1 g1 rs q σ' hw e1 => ?_)⟩
    exact h2 F G1 al1 en1 st1 σ' H1 _ _ E Q (Rel.env rs e1) (t.sub g1.sub) (q.imp fun en2 G2 al2 st2 H2 g2 rs2 q2 σ2 hw2 e2 => q2 σ2 (hw2.trans hw) e2)
theorem gw_tup {vs : List Nat} {g : TGs} {sg : SemGs} {n : Nat} (h : GWs X g sg vs) : GW X (gTup X.K n g) (gTupS n sg) vs := fun F G al en st σ H v w E Q R r p => by
  unfold gTupS at p
  split at p
  · rename_i ds e1
    split at p
    · rename_i hl
      cases val_rv R.s r e1 with
      | tup h1 z1 r1 => exact ⟨_, _, rfl, SqT.of h1, by rw [r1.length]; exact hl, h F G al en st σ H _ ds E Q R r1 p⟩
    · exact p.elim
  · exact p.elim

/-! ### tests of a comprehension -/
def tYesS : SemT := fun _ st => .ok true st
theorem spts_nil : PTs X [] (tDT (bx X) E tYesS) := ⟨fun pins s σ H Q I ⟨F, G, al, en, st, R, p⟩ => pts_nil.run pins s σ H Q I (p G al H (.refl _ _) R.s)⟩
theorem spts_one {c : Expr} {s : SemT} (h : ST X E c s) : PTs X [c] (tDT (bx X) E s) := pts_one h

/-! ### the comprehension -/
def lcL (tg : SemG) (c : SemT) (el : SemE) (en : En) : List PyData → List PyData → Sto → Res (List PyData)
  | [], acc, st => .ok acc st
  | d :: ds, acc, st => (noX (tg (.p d) en st)).bind fun en1 st => (noX (c en1 st)).bind fun b st => if b = true then (noX (el en1 st)).bind fun w st => match w with
      | .p e => lcL tg c el en ds (acc ++ [e]) st
      | _ => .bad
    else lcL tg c el en ds acc st
/-- the new list stays closed, or is opened -/
def keepL (ds : List PyData) (st : Sto) : Res W := .ok (.p (.list ds)) st
def keepO (ds : List PyData) (st : Sto) : Res W := .ok (.o st.length) (st ++ [.lst ds])
def sLc (s : SemI) (tg : SemG) (c : SemT) (el : SemE) (vs : List Nat) (kp : List PyData → Sto → Res W) : SemE := fun en st => (s en st).bind fun ds st => (lcL tg c el (wipeE en vs) ds [] st).bind kp
def KeepOk (X : Cx) (kp : List PyData → Sto → Res W) : Prop := ∀ (E : XK) (F G : Hp) (al : Al) (st : Sto) (H : Hp) (D : Addr) (xs : List V) (ds : List PyData) (Q : VK), RelS (bx X F) G al st H → H D = some (.lst xs) → D ∉ al → G D = none → F D = none →
  xs.length ≤ sizeLine → Rps G xs ds → Post (bx X F) E G al (PQ (bx X F) Q) (kp ds st) → Q (.ref D) H
theorem keepL_ok : KeepOk X keepL := fun E F G al st H D xs ds Q R hD ha hg hf hz r p => by
  obtain ⟨g, R'⟩ := R.adopt hD ha hg hf
  exact p _ al H g R' _ (.lst upd_same hz (r.sub g.sub))
theorem keepO_ok : KeepOk X keepO := fun E F G al st H D xs ds Q R hD ha hg hf hz r p => by
  obtain ⟨g, R'⟩ := R.add (c := .lst ds) ha hf hD ⟨hg, xs, hD, hz, r⟩
  exact p G _ H g R' _ ⟨D, by rw [← R.len]; exact List.getElem?_concat_length, rfl⟩
theorem lc_ok {s : SemI} {g : TG} {sg : SemG} {c : SemT} {el : SemE} {vs : List Nat} {kp : List PyData → Sto → Res W} (hk : KeepOk X kp) (hg : GW X g sg vs) {σ : St} {H : Hp} {Q : VK}
    (h : tD (bx X) E (sLc s sg c el vs kp) σ H Q) : tLc (iD (bx X) E s) g (tDT (bx X) E0 c) (tD (bx X) E0 el) vs σ H Q := by
  obtain ⟨F, G, al, en, st, R, p⟩ := h
  refine ⟨F, G, al, en, st, R, (Post.bind p).imp fun ds G1 al1 st1 H1 g1 rs1 q J hz wk D hD => ?_⟩
  have hF : F D = none := rs1.noF hD
  obtain ⟨hG, hA⟩ := rs1.free hD
  have en1 : EnvOk (bx X F) G1 al1 (wipeE en vs) (L2.wipe σ vs) := ((EnvOk.of R).gr g1).wipe vs
  refine ⟨fun i m H => m = ds.length - i ∧ i ≤ ds.length ∧ ∃ G al st acc out, Gr G1 al1 G al ∧ RelS (bx X (upd F D (.lst acc))) G al st H ∧ Rps G acc out ∧ acc.length ≤ i ∧ Post (bx X F) E G al (PQ (bx X F) Q) ((lcL sg c el (wipeE en vs) (ds.drop i) out st).bind kp),
    ⟨ds.length, by simp, Nat.zero_le _, G1, al1, st1, [], [], .refl _ _, (rs1.beside hD).frame upd_same hA hG, .nil, Nat.le_refl _, q⟩, ?_⟩
  rintro i m H2 ⟨rfl, hle, G2, al2, st2, acc, out, g2, rs2, ra, hl, q2⟩
  obtain ⟨go, stop⟩ := wk (upd F D (.lst acc)) i G2 al2 st2 H2 g2 rs2
  cases hd : ds[i]? with
  | none =>
    refine .inl ⟨stop hd, ?_⟩
    have e : ds.drop i = [] := List.drop_eq_nil_of_le (List.getElem?_eq_none_iff.mp hd)
    rw [e] at q2
    obtain ⟨f1, f2, f3⟩ := rs2.frameAt
    exact hk E F G2 al2 st2 H2 D acc out Q (rs2.unframe hF) f1 f2 f3 hF (by omega) ra q2
  | some d =>
    have hlt : i < ds.length := (List.getElem?_eq_some_iff.mp hd).1
    rw [drop_get hd] at q2
    obtain ⟨hgo, hy⟩ := go d hd
    refine .inr ⟨hgo, fun H' => ∃ G al st acc out, Gr G1 al1 G al ∧ RelS (bx X (upd F D (.lst acc))) G al st H' ∧ Rps G acc out ∧ acc.length ≤ i + 1 ∧ Post (bx X F) E G al (PQ (bx X F) Q) ((lcL sg c el (wipeE en vs) (ds.drop (i + 1)) out st).bind kp),
      fun H' h => ⟨ds.length - (i + 1), by omega, rfl, hlt, h⟩, fun x H3 y => ?_⟩
    obtain ⟨G3, g3, rs3, rx⟩ := hy x H3 y
    have q3 := Post.gr q2 g3
    have g13 := g2.trans g3
    have q4 : Post (bx X F) E G3 al2 (PQ (bx X F) Q) ((noX (sg (.p d) (wipeE en vs) st2)).bind fun en1 st => (((noX (c en1 st)).bind fun b st => if b = true then (noX (el en1 st)).bind fun w st => match w with
        | .p e => lcL sg c el (wipeE en vs) (ds.drop (i + 1)) (out ++ [e]) st
        | _ => .bad
      else lcL sg c el (wipeE en vs) (ds.drop (i + 1)) out st)).bind kp) := by
      rw [← Res.bind_assoc]; exact q3
    refine hg (upd F D (.lst acc)) G3 al2 (wipeE en vs) st2 (L2.wipe σ vs) H3 x (.p d) E0 _ ⟨rs3, (en1.gr g13).1, (en1.gr g13).2⟩ rx ((Post.bindF q4).imp fun en4 G4 al4 st4 H4 g4 rs4 q5 σ4 hw e4 => ⟨hw.trans (wipe_wipe vs), ?_⟩)
    rw [Res.bind_assoc] at q5
    refine ⟨upd F D (.lst acc), G4, al4, en4, st4, Rel.env rs4 e4, (Post.bindF q5).imp fun b G5 al5 st5 H5 g5 rs5 q6 => ?_⟩
    have g15 := g13.trans (g4.trans g5)
    cases b with
    | false =>
      rw [if_neg Bool.false_ne_true] at q6
      refine iteF ?_
      exact ⟨G5, al5, st5, acc, out, g2.trans (g3.trans (g4.trans g5)), rs5, ra.sub (g3.trans (g4.trans g5)).sub, by omega, q6⟩
    | true =>
      rw [if_pos rfl, Res.bind_assoc] at q6
      refine iteT ?_
      refine ⟨upd F D (.lst acc), G5, al5, en4, st5, ⟨rs5, (e4.gr g5).1, (e4.gr g5).2⟩, (Post.bindF q6).imp fun w G6 al6 st6 H6 g6 rs6 q7 v rv => ?_⟩
      obtain ⟨f1, f2, f3⟩ := rs6.frameAt
      cases w with
      | o n => exact q7.elim
      | s ns => exact q7.elim
      | p e =>
        have gg := g3.trans (g4.trans (g5.trans g6))
        exact ⟨acc, f1, by omega, G6, al6, st6, acc ++ [v], out ++ [e], g2.trans gg, rs6.frameSet hF, (ra.sub gg.sub).append (.cons rv .nil), by rw [List.length_append, List.length_singleton]; omega, q7⟩
variable {elt tg iter : Expr} {ifs : List Expr} {scope : Scope} {own : List (Str × Nat)} {pos : Pos} {s : SemI} {g : TG} {sg : SemG} {c : SemT} {el : SemE}
theorem se_lc {kp : List PyData → Sto → Res W} (hk : KeepOk X kp) (hc : X.calm = true) (hN : X.N.Nodup) (hi : SI X E tg iter s) (ok : BlkOk X.N X.env.scope scope own)
    (hg : ∀ (s : Shared) (H : Hp) (C : Addr) (cl : List (Str × Addr)) (fp : List Addr), PG (X.blk s H scope (compEnvC scope cl C X.env) fp) tg g) (gw : GW X g sg (own.map (·.2)))
    (ht : ∀ (s : Shared) (H : Hp) (C : Addr) (cl : List (Str × Addr)) (fp : List Addr), PTs (X.blk s H scope (compEnvC scope cl C X.env) fp) ifs (tDT (bx X) E0 c))
    (he : ∀ (s : Shared) (H : Hp) (C : Addr) (cl : List (Str × Addr)) (fp : List Addr), SE (X.blk s H scope (compEnvC scope cl C X.env) fp) E0 elt el) (hs : ∀ x, foldedSetIterable iter X.env x = pure x := by intro _; rfl) :
    SE X E (.ListComp elt [⟨tg, iter, ifs, 0⟩] scope pos) (sLc s sg c el (own.map (·.2)) kp) := (pe_lc hc hN hi ok hg ht he hs).weak fun _ _ _ h => lc_ok hk gw h
/-- name = [..] -/
theorem ss_setLc {kp : List PyData → Sto → Res W} {i : Nat} {y : Str} {py spos : Pos} (hk : KeepOk X kp) (hc : X.calm = true) (hN : X.N.Nodup) (hy : X.N[i]? = some y) (hyl : X.env.scope.names.lookup y = some .local)
    (hsw : swapsWith (.ListComp elt [⟨tg, iter, ifs, 0⟩] scope pos) (some (.Name y py)) spos.line X.env = pure true) (hi : SI X E tg iter s) (ok : BlkOk X.N X.env.scope scope own)
    (hg : ∀ (s : Shared) (H : Hp) (C : Addr) (cl : List (Str × Addr)) (fp : List Addr), PG (X.blk s H scope (compEnvC scope cl C X.env) fp) tg g) (gw : GW X g sg (own.map (·.2)))
    (ht : ∀ (s : Shared) (H : Hp) (C : Addr) (cl : List (Str × Addr)) (fp : List Addr), PTs (X.blk s H scope (compEnvC scope cl C X.env) fp) ifs (tDT (bx X) E0 c))
    (he : ∀ (s : Shared) (H : Hp) (C : Addr) (cl : List (Str × Addr)) (fp : List Addr), SE (X.blk s H scope (compEnvC scope cl C X.env) fp) E0 elt el) (hs : ∀ x, foldedSetIterable iter X.env x = pure x := by intro _; rfl) :
    SS X E (.Assign [.Name y py] (.ListComp elt [⟨tg, iter, ifs, 0⟩] scope pos) spos) (sSet i (sLc s sg c el (own.map (·.2)) kp)) := (ps_setLc hc hN hy hyl hsw hi ok hg ht he hs).weak fun D σ H ⟨F, G, al, en, st, R, p⟩ => by
  have h : tD (bx X) E (sLc s sg c el (own.map (·.2)) kp) σ H (fun x H1 => D.nx (σ.set i (some x)) H1) :=
    tD_bind (sa := sLc s sg c el (own.map (·.2)) kp) (k := fun w en st => Res.ok (Fl.nx (en.set i (some w))) st) (Q := PF (bx X F) D) R p fun x H1 G1 al1 st1 w R1 r1 p1 _ => p1 G1 al1 H1 (.refl _ _) R1.s _ ((EnvOk.of R1).set r1)
  exact lc_ok hk gw h
end
end Pd
end

section
set_option Elab.async false
set_option linter.all false
set_option autoImplicit false
set_option maxRecDepth 100000
/-! Pd: the defs of the program: their promise, their calls; methods, instances, fields. -/
namespace Pd
open PySem L2
variable [Wd]

/-- what a def does with its arguments and the store -/
abbrev Fn := List W → Sto → Res W
/-- the promise: n arguments, the answer of f -/
def spF (b : Hp → Bx) (n : Nat) (f : Fn) : Sp := fun vs H Q E => vs.length = n ∧ ∃ F G al st ws, RelS (b F) G al st H ∧ Rws (b F) G al vs ws ∧ Post (b F) E G al (PQ (b F) Q) (f ws st)
/-- a body run on its arguments, with so many names -/
def runF (nl : Nat) (body : SemS) : Fn := fun ws st => (body (ws.map some ++ List.replicate (nl - ws.length) none) st).bind fun f st => match f with
  | .rt w => .ok w st
  | .nx _ => .ok (.p .none) st
  | _ => .bad
theorem env_start {B : Bx} {G : Hp} {al : Al} {vs : List V} {ws : List W} (N : List Str) (r : Rws B G al vs ws) : EnvOk B G al (ws.map some ++ List.replicate (N.length - ws.length) none) (L2.start N vs) := by
  have hl : vs.length = ws.length := Paired.length r
  unfold L2.start
  refine ⟨by simp [hl], fun i w h => ?_⟩
  by_cases hi : i < ws.length
  · rw [List.getElem?_append_left (by simpa using hi), List.getElem?_map, Option.map_eq_some_iff] at h
    obtain ⟨u, h1, h2⟩ := h
    cases h2
    have get : ∀ {vs : List V} {ws : List W} {i : Nat} {w : W}, Rws B G al vs ws → ws[i]? = some w → ∃ v, vs[i]? = some v ∧ Rw B G al v w := by
      intro vs ws i w r
      induction r generalizing i with
      | nil => intro h; simp at h
      | cons h t ih =>
        intro e
        cases i with
        | zero => simp at e; subst e; exact ⟨_, by simp, h⟩
        | succ i => obtain ⟨v, h1, h2⟩ := ih (by simpa using e); exact ⟨v, by simpa using h1, h2⟩
    obtain ⟨v, e1, e2⟩ := get r h1
    refine ⟨v, ?_, e2⟩
    rw [List.getElem?_append_left (by simpa [hl] using hi), List.getElem?_map, e1]; rfl
  · rw [List.getElem?_append_right (by simpa using Nat.le_of_not_lt hi), List.getElem?_replicate] at h
    split at h <;> cases h

section
variable {P : Program} {w : World} {K : PySem.W.Frag} {mg : Str → Option Value} {base : Heap}
abbrev bp (P : Program) (w : World) (K : PySem.W.Frag) (mg : Str → Option Value) : Hp → Bx := fun F => ⟨P, w, K, mg, F⟩
/-- THE RULE for a def of the text, by its body's semantic function -/
theorem fn_ok {x qual : Str} {params : Arguments} {bod : List Stmt} {scope : Scope} {dvs : List V} {f : Addr} {fd : FuncData} {N ps : List Str} {k : Nat} {body : SemS} (F : FunD K x qual params bod scope dvs [] f fd) (S : FnScope N ps scope)
    (hb : ∀ (cdv : Value) (A : Around) (outer : List Env) (s : Shared) (H : Hp) (E : XK), Room k (A.deeper (PyProof.Rows.envOfC qual scope s.heap.objs.size f cdv)) → SSs (cxOf CX0 P w K mg base N qual scope f cdv A outer s H E).nox E bod body) :
    FnOk P w K mg base CX0 (k + 1) f fd ps (spF (bp P w K mg) ps.length (runF N.length body)) := by
  refine F.ok S (fun vs H Q E h => h.1) (fun cdv A outer s H vs Q E hr h => ⟨_, (hb cdv A outer s H E hr).nox, ?_⟩)
  obtain ⟨hl, F', G, al, st, ws, R, rw', p⟩ := h
  refine ⟨F', G, al, ws.map some ++ List.replicate (N.length - ws.length) none, st, Rel.env R (env_start N rw'), ?_⟩
  unfold runF at p
  refine (Post.bind p).imp fun fl G1 al1 st1 H1 g rs q => ?_
  cases fl with
  | nx en => exact fun σ' _ => q G1 al1 H1 (.refl _ _) rs _ .non
  | rt u => exact fun v r => q G1 al1 H1 (.refl _ _) rs v r
  | bk en => exact q.elim
  | ct en => exact q.elim
end

/-! ### calls -/
/-- a def that may be called by name: what it does, its level -/
structure Cal (P : Program) (w : World) (K : PySem.W.Frag) (mg : Str → Option Value) (base : Heap) (x : Str) (k n : Nat) (f : Fn) : Prop where
  ex : ∃ (a : Addr) (fd : FuncData) (ps : List Str), mg x = some (.ref a) ∧ PySem.W.keepIn K (.ref a) = true ∧ FnOk P w K mg base CX0 k a fd ps (spF (bp P w K mg) n f) ∧ Binds K fd ps []
abbrev Callee (X : Cx) := Cal X.prog X.w X.K X.mg X.base
theorem Cal.mono {P : Program} {w : World} {K : PySem.W.Frag} {mg : Str → Option Value} {base : Heap} {x : Str} {k j n : Nat} {f : Fn} (C : Cal P w K mg base x k n f) (h : k ≤ j) : Cal P w K mg base x j n f :=
  let ⟨a, fd, ps, h1, h2, h3, h4⟩ := C.ex; ⟨a, fd, ps, h1, h2, h3.mono h, h4⟩
def sCall (f : Fn) (t : SemA) : SemE := fun en st => (t en st).bind fun ws st => f ws st
section
variable {X : Cx} {E : XK} {x m : Str} {k n : Nat} {f : Fn} {e o : Expr} {es : List Expr} {t : SemA} {p pos apos : Pos} {so : SemE}
theorem call_go {sp : Sp} (hsp : sp = spF (bx X) n f) (hn : ∀ ws st, ws.length ≠ n → f ws st = .bad) {σ : St} {H : Hp} {Q : VK} (h : tD (bx X) E (sCall f t) σ H Q) : tCall sp [] E (tDA (bx X) E t) σ H Q := by
  subst hsp
  obtain ⟨F, G, al, en, st, R, p⟩ := h
  refine tDA_bind (sa := t) (k := fun ws _ st => f ws st) R p fun xs H1 G1 al1 st1 ws R1 r1 p1 _ => ?_
  rw [List.append_nil]
  refine ⟨?_, F, G1, al1, st1, ws, R1.s, r1, p1⟩
  have hl : xs.length = ws.length := Paired.length r1
  rw [hl]
  by_cases hx : ws.length = n
  · exact hx
  · have p1' : Post (bx X F) E G1 al1 (PQ (bx X F) Q) (f ws st1) := p1
    rw [hn ws st1 hx] at p1'; exact p1'.elim
/-- f(e, ..) -/
theorem se_call (C : Callee X x k n f) (hr : Room k X.A) (hg : Gl X x) (hn : ∀ ws st, ws.length ≠ n → f ws st = .bad) (ha : SA X E (e :: es) t) (hdb : (x == ("__debug__" : Str)) = false := by decide)
    (he : starEach (e :: es) X.env = (false, eval e X.env) :: starEach es X.env := by rfl) (hpl : (backTo pos (starEach es X.env)).any (·.1) = false := by rfl) : SE X E (.Call (.Name x p) (e :: es) [] pos) (sCall f t) := by
  obtain ⟨a, fd, ps, h1, h2, h3, h4⟩ := C.ex
  exact (pe_call (E := E) h3 hr hg h1 h2 h4 .nil (fun _ _ _ _ _ _ _ h => h.elim) ha hdb he hpl).weak fun _ _ _ h => call_go rfl hn h
/-- arity guard -/
def arity (n : Nat) (f : Fn) : Fn := fun ws st => if ws.length = n then f ws st else .bad
theorem arity_bad {n : Nat} {f : Fn} (ws : List W) (st : Sto) (h : ws.length ≠ n) : arity n f ws st = .bad := if_neg h
theorem spF_arity {b : Hp → Bx} {n : Nat} {f : Fn} {vs : List V} {H : Hp} {Q : VK} {E : XK} (h : spF b n (arity n f) vs H Q E) : spF b n f vs H Q E := by
  obtain ⟨hl, F, G, al, st, ws, R, r, p⟩ := h
  refine ⟨hl, F, G, al, st, ws, R, r, ?_⟩
  unfold arity at p
  rw [if_pos (by rw [← Paired.length r]; exact hl)] at p
  exact p

/-! ### instances -/
def insOf (st : Sto) : W → Option (Str × List (Str × W))
  | .o n => match st[n]? with
    | some (.ins c fs) => some (c, fs)
    | _ => none
  | _ => none
theorem insOf_ok {F G : Hp} {al : Al} {st : Sto} {H : Hp} {v : V} {w : W} {c : Str} {fs : List (Str × W)} (R : RelS (bx X F) G al st H) (r : Rw (bx X F) G al v w) (h : insOf st w = some (c, fs)) :
    ∃ nn a C dx gs, w = .o nn ∧ al[nn]? = some a ∧ st[nn]? = some (.ins c fs) ∧ v = .ref a ∧ G a = none ∧ X.mg c = some (.ref C) ∧ H a = some (.ins C dx gs) ∧ Rfs (bx X F) G al gs fs := by
  cases w with
  | p d => cases h
  | s ns => cases h
  | o nn =>
    obtain ⟨a, ha, rfl⟩ := r
    obtain ⟨cl, hc, ok⟩ := R.get ha
    simp only [insOf, hc] at h
    cases cl with
    | ins c' fs' =>
      cases h
      obtain ⟨g0, C, dx, gs, hm, e, rf⟩ := ok
      exact ⟨nn, a, C, dx, gs, rfl, ha, hc, rfl, g0, hm, e, rf⟩
    | _ => cases h
theorem Rfs.look {B : Bx} {G : Hp} {al : Al} {gs : List (Str × V)} {fs : List (Str × W)} (r : Rfs B G al gs fs) (f : Str) : match gs.lookup f, fs.lookup f with
    | some v, some w => Rw B G al v w
    | none, none => True
    | _, _ => False := by
  induction r with
  | nil => trivial
  | @cons a b gs fs h t ih =>
    obtain ⟨g, v⟩ := a
    obtain ⟨g', w⟩ := b
    obtain ⟨h1, h2⟩ := h
    simp only at h1
    subst h1
    rw [List.lookup_cons, List.lookup_cons]
    cases e : f == g with
    | true => exact h2
    | false => exact ih
theorem Rfs.look_some {B : Bx} {G : Hp} {al : Al} {gs : List (Str × V)} {fs : List (Str × W)} {f : Str} {w : W} (r : Rfs B G al gs fs) (h : fs.lookup f = some w) : ∃ v, gs.lookup f = some v ∧ Rw B G al v w := by
  have := r.look f
  rw [h] at this
  cases e : gs.lookup f with
  | none => rw [e] at this; exact this.elim
  | some v => rw [e] at this; exact ⟨v, rfl, this⟩
theorem Rfs.look_none {B : Bx} {G : Hp} {al : Al} {gs : List (Str × V)} {fs : List (Str × W)} {f : Str} (r : Rfs B G al gs fs) (h : fs.lookup f = none) : gs.lookup f = none := by
  have := r.look f
  rw [h] at this
  cases e : gs.lookup f with
  | none => rfl
  | some v => rw [e] at this; exact this.elim
/-- o.f -/
def sFldG (c f : Str) (so : SemE) : SemE := fun en st => (so en st).bind fun w st => match insOf st w with
  | some (c', fs) => if c' = c then (match fs.lookup f with
    | some u => .ok u st
    | none => .bad) else .bad
  | none => .bad
theorem se_fld {c fl : Str} {C : Addr} (he : SE X E e so) (hm : X.mg c = some (.ref C)) (cl : Cls X.K C) (na : NoAttr X.K C fl) (hb : attributeBase e fl X.env (eval e X.env) = eval e X.env := by rfl) : SE X E (.Attribute e fl pos) (sFldG c fl so) :=
  (pe_fld he hb).weak fun σ H Q ⟨F, G, al, en, st, R, p⟩ => by
    refine tD_bind (sa := so) (k := fun w _ st => match insOf st w with
      | some (c', fs) => if c' = c then (match fs.lookup fl with
        | some u => .ok u st
        | none => .bad) else .bad
      | none => .bad) R p fun x H1 G1 al1 st1 w R1 r1 p1 _ => ?_
    split at p1
    · rename_i c' fs hi
      split at p1
      · rename_i hc
        subst hc
        split at p1
        · rename_i u hu
          obtain ⟨nn, a, C', dx, gs, rfl, ha, hs, rfl, g0, hm', e1, rf⟩ := insOf_ok R1.s r1 hi
          rw [hm] at hm'; cases hm'
          obtain ⟨v, hv, rv⟩ := rf.look_some hu
          exact ⟨a, C, dx, gs, v, rfl, e1, cl, na, hv, p1 G1 al1 H1 (.refl _ _) R1.s v rv⟩
        · exact p1.elim
      · exact p1.elim
    · exact p1.elim
def putW (f : Str) (v : W) : List (Str × W) → List (Str × W)
  | [] => [(f, v)]
  | (g, x) :: r => if g = f then (g, v) :: r else (g, x) :: putW f v r
theorem Rfs.put {B : Bx} {G : Hp} {al : Al} {f : Str} {v : V} {w : W} (r2 : Rw B G al v w) : ∀ {gs : List (Str × V)} {fs : List (Str × W)}, Rfs B G al gs fs → Rfs B G al (putF f v gs) (putW f w fs)
  | _, _, .nil => .cons ⟨rfl, r2⟩ .nil
  | _, _, .cons (a := (g, x)) (b := (g', y)) h t => by
    obtain ⟨h1, h2⟩ := h
    simp only at h1
    subst h1
    unfold putF putW
    by_cases e : g = f
    · rw [if_pos e, if_pos e]; exact .cons ⟨rfl, r2⟩ t
    · rw [if_neg e, if_neg e]; exact .cons ⟨rfl, h2⟩ (Rfs.put r2 t)
/-- o.f = e -/
def sFldS (c f : Str) (so sv : SemE) : SemS := fun en st => (sv en st).bind fun u st => (so en st).bind fun w st => match w, insOf st w with
  | .o n, some (c', fs) => if c' = c ∧ fs.length < 1000 then .ok (.nx en) (st.set n (.ins c (putW f u fs))) else .bad
  | _, _ => .bad
theorem ss_fld {c fl : Str} {C : Addr} {value : Expr} {sv : SemE} {pos' : Pos} (ho : SE X E o so) (hv : SE X E value sv) (hm : X.mg c = some (.ref C)) (cl : Cls X.K C) (na : NoAttr X.K C fl)
    (hs : swapsWith value (some (.Attribute o fl pos')) pos.line X.env = pure false := by rfl) : SS X E (.Assign [.Attribute o fl pos'] value pos) (sFldS c fl so sv) :=
  (ps_fld ho hv hs).weak fun D σ H ⟨F, G, al, en, st, R, p⟩ => by
    refine tD_bind (sa := sv) (k := fun u en st => (so en st).bind fun w st => match w, insOf st w with
      | .o n, some (c', fs) => if c' = c ∧ fs.length < 1000 then Res.ok (Fl.nx en) (st.set n (.ins c (putW fl u fs))) else .bad
      | _, _ => .bad) (Q := PF (bx X F) D) R p fun y H1 G1 al1 st1 u R1 r1 p1 _ => ?_
    refine tD_bind (sa := so) (k := fun w en st => match w, insOf st w with
      | .o n, some (c', fs) => if c' = c ∧ fs.length < 1000 then Res.ok (Fl.nx en) (st.set n (.ins c (putW fl u fs))) else .bad
      | _, _ => .bad) (Q := PF (bx X F) D) R1 p1 fun x H2 G2 al2 st2 w R2 r2 p2 g2 => ?_
    split at p2
    · rename_i w' n c' fs hi
      split at p2
      · rename_i hc
        obtain ⟨rfl, hl⟩ := hc
        obtain ⟨nn, a, C', dx, gs, ew, ha, hs2, rfl, g0, hm', e1, rf⟩ := insOf_ok R2.s r2 hi
        cases ew
        rw [hm] at hm'; cases hm'
        have hlen : gs.length = fs.length := Paired.length rf
        refine ⟨a, C, dx, gs, rfl, e1, cl, na, by omega, ?_⟩
        have R3 := R2.s.write (u := .ins C dx (putF fl y gs)) (c := .ins c' (putW fl u fs)) ha g0 ⟨g0, C, dx, putF fl y gs, hm, upd_same, rf.put (r1.gr g2)⟩
        exact p2 G2 al2 _ (.refl _ _) R3 σ (EnvOk.of R2)
      · exact p2.elim
    · exact p2.elim

/-- a method that may be called -/
structure Met (P : Program) (w : World) (K : PySem.W.Frag) (mg : Str → Option Value) (base : Heap) (c m : Str) (k n : Nat) (f : Fn) : Prop where
  ex : ∃ (C a : Addr) (fd : FuncData) (ps : List Str), mg c = some (.ref C) ∧ Cls K C ∧ Meth K C m a ∧ FnOk P w K mg base CX0 k a fd ps (spF (bp P w K mg) n f) ∧ Binds K fd ps []
abbrev MethOk (X : Cx) := Met X.prog X.w X.K X.mg X.base
def sMeth (c m : Str) (f : Fn) (so : SemE) (t : SemA) : SemE := fun en st => (so en st).bind fun w st => match insOf st w with
  | some (c', fs) => if c' = c ∧ fs.lookup m = none then (t en st).bind fun ws st => f (w :: ws) st else .bad
  | none => .bad
theorem meth_go {c : Str} {C : Addr} (hm : X.mg c = some (.ref C)) (hn : ∀ ws st, ws.length ≠ n → f ws st = .bad) {σ : St} {H : Hp} {Q : VK} (h : tD (bx X) E (sMeth c m f so t) σ H Q) : tMeth C m (spF (bx X) n f) [] E (tD (bx X) E so) (tDA (bx X) E t) σ H Q := by
  obtain ⟨F, G, al, en, st, R, p⟩ := h
  refine tD_bind (sa := so) (k := fun w en st => match insOf st w with
    | some (c', fs) => if c' = c ∧ fs.lookup m = none then (t en st).bind fun ws st => f (w :: ws) st else .bad
    | none => .bad) R p fun x H1 G1 al1 st1 w R1 r1 p1 _ => ?_
  split at p1
  · rename_i c' fs hi
    split at p1
    · rename_i hc
      obtain ⟨rfl, hl⟩ := hc
      obtain ⟨nn, a, C', dx, gs, rfl, ha, hs2, rfl, g0, hm', e1, rf⟩ := insOf_ok R1.s r1 hi
      rw [hm] at hm'; cases hm'
      refine ⟨a, dx, gs, rfl, e1, rf.look_none hl, ?_⟩
      refine tDA_bind (sa := t) (k := fun ws _ st => f (.o nn :: ws) st) R1 p1 fun xs H2 G2 al2 st2 ws R2 r2 p2 g2 => ?_
      rw [List.append_nil]
      have r3 : Rws (bx X F) G2 al2 (V.ref a :: xs) (W.o nn :: ws) := .cons (r1.gr g2) r2
      refine ⟨?_, F, G2, al2, st2, _, R2.s, r3, p2⟩
      have hl2 : (V.ref a :: xs).length = (W.o nn :: ws).length := Paired.length r3
      rw [hl2]
      by_cases hx : (W.o nn :: ws).length = n
      · exact hx
      · have p3 : Post (bx X F) E G2 al2 (PQ (bx X F) Q) (f (W.o nn :: ws) st2) := p2
        rw [hn _ st2 hx] at p3; exact p3.elim
    · exact p1.elim
  · exact p1.elim
/-- o.m(e, ..) -/
theorem se_meth {c : Str} {pl : Sem Bool} (M : MethOk X c m k n f) (hr : Room k X.A) (hn : ∀ ws st, ws.length ≠ n → f ws st = .bad) (ho : SE X E o so) (ha : SA X E (e :: es) t)
    (hst : starEach (e :: es) X.env = (false, eval e X.env) :: starEach es X.env := by rfl) (hpl : (backTo pos (starEach es X.env)).any (·.1) = false := by rfl)
    (ht : eval (.Call (.Attribute o m apos) (e :: es) [] pos) X.env = (do
      let ov ← eval o X.env
      standAt apos.atName
      let (f, first) ← holding [ov] (getMethod ov m pl)
      callWith pos f first (backTo pos (starEach (e :: es) X.env)) (backToKw pos (keywordEach [] X.env))) := by rfl) : SE X E (.Call (.Attribute o m apos) (e :: es) [] pos) (sMeth c m f so t) := by
  obtain ⟨C, a, fd, ps, h1, h2, h3, h4, h5⟩ := M.ex
  exact (pe_meth (E := E) ho h2 h3 h4 hr h5 .nil (fun _ _ _ _ _ _ _ h => h.elim) ha hst hpl ht).weak fun _ _ _ h => meth_go h1 hn h
theorem se_meth0 {c : Str} {pl : Sem Bool} (M : MethOk X c m k n f) (hr : Room k X.A) (hn : ∀ ws st, ws.length ≠ n → f ws st = .bad) (ho : SE X E o so)
    (ht : eval (.Call (.Attribute o m apos) [] [] pos) X.env = (do
      let ov ← eval o X.env
      standAt apos.atName
      let (f, first) ← holding [ov] (getMethod ov m pl)
      callWith pos f first (backTo pos (starEach [] X.env)) (backToKw pos (keywordEach [] X.env))) := by rfl) : SE X E (.Call (.Attribute o m apos) [] [] pos) (sMeth c m f so sNil) := by
  obtain ⟨C, a, fd, ps, h1, h2, h3, h4, h5⟩ := M.ex
  refine (pe_meth0 (E := E) ho h2 h3 h4 hr h5 .nil (fun _ _ _ _ _ _ _ h => h.elim) ht).weak fun σ H Q h => ?_
  obtain ⟨F, G, al, en, st, R, p⟩ := meth_go h1 hn h
  refine ⟨F, G, al, en, st, R, p.imp fun w G1 al1 st1 H1 g rs q v rv => ?_⟩
  obtain ⟨a', dx, fs, e1, e2, e3, F2, G2, al2, en2, st2, R2, p2⟩ := q v rv
  exact ⟨a', dx, fs, e1, e2, e3, p2 G2 al2 _ (.refl _ _) R2.s [] .nil⟩

/-- a class whose instances may be made -/
structure Mak (P : Program) (w : World) (K : PySem.W.Frag) (mg : Str → Option Value) (base : Heap) (c : Str) (k n : Nat) (f : Fn) : Prop where
  ex : ∃ (C a : Addr) (fd : FuncData) (ps : List Str), mg c = some (.ref C) ∧ L2.Mk K C a ∧ FnOk P w K mg base CX0 k a fd ps (spF (bp P w K mg) n f) ∧ Binds K fd ps []
abbrev MakeOk (X : Cx) := Mak X.prog X.w X.K X.mg X.base
def sMake (c : Str) (f : Fn) (t : SemA) : SemE := fun en st => (t en st).bind fun ws st => (f (.o st.length :: ws) (st ++ [.ins c []])).bind fun w st' => match w with
  | .p .none => .ok (.o st.length) st'
  | _ => .bad
theorem make_go {c : Str} {C : Addr} (hm : X.mg c = some (.ref C)) (hn : ∀ ws st, ws.length ≠ n → f ws st = .bad) {σ : St} {H : Hp} {Q : VK} (h : tD (bx X) E (sMake c f t) σ H Q) : tMake C (spF (bx X) n f) [] E (tDA (bx X) E t) σ H Q := by
  obtain ⟨F, G, al, en, st, R, p⟩ := h
  refine tDA_bind (sa := t) (k := fun ws _ st => (f (.o st.length :: ws) (st ++ [.ins c []])).bind fun w st' => match w with
    | .p .none => Res.ok (W.o st.length) st'
    | _ => .bad) (Q := PQ (bx X F) Q) R p fun xs H1 G1 al1 st1 ws R1 r1 p1 _ => ?_
  intro x dx hx hdx hne
  rw [List.append_nil]
  have Ra := R1.s.beside (u := .own x) hdx
  have hx' : (upd H1 dx (.own x)) x = none := by rw [upd_ne (Ne.symm hne)]; exact hx
  obtain ⟨g2, Rb⟩ := Ra.open (u := .ins C dx []) (c := .ins c []) hx' ⟨(Ra.free hx').1, C, dx, [], hm, upd_same, .nil⟩
  have hnn : (al1 ++ [x])[st1.length]? = some x := by rw [← R1.s.len]; exact List.getElem?_concat_length
  have r3 : Rws (bx X F) G1 (al1 ++ [x]) (V.ref x :: xs) (W.o st1.length :: ws) := .cons ⟨x, hnn, rfl⟩ (r1.gr g2)
  have p2 := Post.gr p1 g2
  refine ⟨?_, F, G1, al1 ++ [x], st1 ++ [.ins c []], _, Rb, r3, (Post.bind p2).imp fun w G3 al3 st3 H3 g3 rs3 q v rv => ?_⟩
  · have hl2 : (V.ref x :: xs).length = (W.o st1.length :: ws).length := Paired.length r3
    rw [hl2]
    by_cases hc : (W.o st1.length :: ws).length = n
    · exact hc
    · rw [hn _ _ hc] at p2; exact p2.elim
  · split at q
    · cases rv
      exact ⟨rfl, q G3 al3 H3 (.refl _ _) rs3 _ ⟨x, g3.pre _ _ hnn, rfl⟩⟩
    · exact q.elim
/-- C(e, ..) -/
theorem se_make {c : Str} (M : MakeOk X c k n f) (hr : Room (k + 1) X.A) (hg : Gl X c) (hn : ∀ ws st, ws.length ≠ n → f ws st = .bad) (ha : SA X E (e :: es) t) (hdb : (c == ("__debug__" : Str)) = false := by decide)
    (he : starEach (e :: es) X.env = (false, eval e X.env) :: starEach es X.env := by rfl) (hpl : (backTo pos (starEach es X.env)).any (·.1) = false := by rfl) : SE X E (.Call (.Name c p) (e :: es) [] pos) (sMake c f t) := by
  obtain ⟨C, a, fd, ps, h1, h2, h3, h4⟩ := M.ex
  exact (pe_make (E := E) h2 h3 hr hg h1 h4 .nil (fun _ _ _ _ _ _ _ h => h.elim) ha hdb he hpl).weak fun _ _ _ h => make_go h1 hn h
end
end Pd
end

section
set_option Elab.async false
set_option linter.all false
set_option autoImplicit false
set_option maxRecDepth 100000
/-! Pd: built-ins, subscripts, lists, dicts. -/
namespace Pd
open PySem L2 PySem.SeqAt
variable [Wd]

/-! ### built-ins by values -/
abbrev OpC := List W → Sto → Res W
def PrimC (b : Hp → Bx) (E : XK) (op : OpC) (r : List V → Hp → VK → Prop) : Prop := ∀ (F G : Hp) (al : Al) (st : Sto) (H : Hp) (xs : List V) (ws : List W) (Q : VK), RelS (b F) G al st H → Rws (b F) G al xs ws → Post (b F) E G al (PQ (b F) Q) (op ws st) → r xs H Q
section
variable {X : Cx} {E : XK} {x : Str} {p pos : Pos} {e : Expr} {es : List Expr} {t : SemA} {id T : String} {r : List V → Hp → VK → Prop} {op : OpC}
theorem callb_go (pr : PrimC (bx X) E op r) {σ : St} {H : Hp} {Q : VK} (h : tD (bx X) E (sCall op t) σ H Q) : tCB r (tDA (bx X) E t) σ H Q := by
  obtain ⟨F, G, al, en, st, R, p⟩ := h
  exact tDA_bind (sa := t) (k := fun ws _ st => op ws st) R p fun xs H1 G1 al1 st1 ws R1 r1 p1 _ => pr F G1 al1 st1 H1 xs ws Q R1.s r1 p1
theorem se_callB (hc : CallR X (.builtin id) r) (pr : PrimC (bx X) E op r) (hg : Gl X x) (hm : X.mg x = none) (hv : bootBuiltins x = some (.builtin id)) (ha : SA X E (e :: es) t) (hn : x ≠ "__name__" := by decide) (hdb : (x == ("__debug__" : Str)) = false := by decide)
    (he : starEach (e :: es) X.env = (false, eval e X.env) :: starEach es X.env := by rfl) (hpl : (backTo pos (starEach es X.env)).any (·.1) = false := by rfl) : SE X E (.Call (.Name x p) (e :: es) [] pos) (sCall op t) :=
  (pe_callB hc hg hm hv ha hn hdb he hpl).weak fun _ _ _ h => callb_go pr h
theorem se_callTy (hc : CallR X (.type T) r) (pr : PrimC (bx X) E op r) (hg : Gl X x) (hm : X.mg x = none) (hv : bootBuiltins x = some (.type T)) (ha : SA X E (e :: es) t) (hn : x ≠ "__name__" := by decide) (hdb : (x == ("__debug__" : Str)) = false := by decide)
    (he : starEach (e :: es) X.env = (false, eval e X.env) :: starEach es X.env := by rfl) (hpl : (backTo pos (starEach es X.env)).any (·.1) = false := by rfl) : SE X E (.Call (.Name x p) (e :: es) [] pos) (sCall op t) :=
  (pe_callTy hc hg hm hv ha hn hdb he hpl).weak fun _ _ _ h => callb_go pr h

/-- one argument -/
theorem one_arg {b : Hp → Bx} {F G : Hp} {al : Al} {xs : List V} {w : W} (r : Rws (b F) G al xs [w]) : ∃ v, xs = [v] ∧ Rw (b F) G al v w := by
  cases r with | cons h t => cases t; exact ⟨_, rfl, h⟩
theorem two_args {b : Hp → Bx} {F G : Hp} {al : Al} {xs : List V} {w u : W} (r : Rws (b F) G al xs [w, u]) : ∃ v v', xs = [v, v'] ∧ Rw (b F) G al v w ∧ Rw (b F) G al v' u := by
  cases r with | cons h t => cases t with | cons h2 t2 => cases t2; exact ⟨_, _, rfl, h, h2⟩

/-! ### len -/
def rLenD (K : PySem.W.Frag) : List V → Hp → VK → Prop := fun xs H Q => (∃ x n, xs = [x] ∧ LenV K x H n ∧ Q (.int n) H) ∨ ∃ a kvs, xs = [.ref a] ∧ Rd H a (.dK kvs) ∧ Q (.int kvs.length) H
theorem call_lenD2 : CallR X (.builtin "len") (rLenD X.K) := by
  intro pins s σ H xs us Q I r h
  rcases h with h | ⟨a, kvs, rfl, hd, q⟩
  · exact call_len pins s σ H xs us Q I r h
  · obtain ⟨u, rfl, rx⟩ := vals1 r
    cases rx
    exact d_len I hd fun t s' I' => ⟨.int kvs.length, H, I', ⟨t, rfl⟩, q⟩
def cLen : OpC := fun ws st => match ws with
  | [.s ns] => retI ns.length st
  | [w] => match val st w with
    | some (.list ds) => retI ds.length st
    | some (.tuple ds) => retI ds.length st
    | some (.dict ds) => retI ds.length st
    | some (.str x) => if x.length ≤ sizeLine then retI x.length st else .bad
    | _ => .bad
  | _ => .bad
theorem pr_len : PrimC (bx X) E cLen (rLenD X.K) := by
  intro F G al st H xs ws Q R r p
  unfold cLen at p
  split at p
  · rename_i ns
    obtain ⟨v, rfl, rv⟩ := one_arg r
    obtain ⟨a, rfl, hq⟩ := rv
    refine .inl ⟨.ref a, ns.length, rfl, .inl ⟨ns.map V.int, ?_, by simp⟩, retI_ok R p⟩
    rcases hq with (h | ⟨o, h⟩) | h
    · rcases R.sam _ _ h with e | ⟨⟨_, e⟩, _⟩
      · exact SqL.of e
      · cases e
    · rcases R.sam _ _ h with e | ⟨⟨_, e⟩, _⟩
      · exact .inl (.inr ⟨o, e⟩)
      · cases e
    · exact .inr h
  · rename_i w _
    obtain ⟨v, rfl, rv⟩ := one_arg r
    split at p
    · rename_i ds e1
      cases val_rv R rv e1 with
      | lst h z r2 => exact .inl ⟨_, _, rfl, .inl ⟨_, SqL.of h, rfl⟩, by rw [r2.length]; exact retI_ok R p⟩
    · rename_i ds e1
      cases val_rv R rv e1 with
      | tup h z r2 => exact .inl ⟨_, _, rfl, .inr ⟨_, SqT.of h, rfl⟩, by rw [r2.length]; exact retI_ok R p⟩
    · rename_i ds e1
      cases val_rv R rv e1 with
      | dic h r2 => exact .inr ⟨_, _, rfl, h, by rw [r2.length]; exact retI_ok R p⟩
    · rename_i y e1
      split at p
      · rename_i hz
        cases val_rv R rv e1
        exact .inl ⟨_, _, rfl, ⟨hz, rfl⟩, retI_ok R p⟩
      · exact p.elim
    · exact p.elim
  · exact p.elim

/-! ### int, abs, min, max -/
def cInt : OpC := fun ws st => match ws with
  | [.p (.int i)] => retI i st
  | _ => .bad
theorem pr_int : PrimC (bx X) E cInt (fun xs H Q => (∃ i, xs = [.int i] ∧ Q (.int i) H) ∨ ∃ k, xs = [.bl k] ∧ Q (.int (if k then 1 else 0)) H) := by
  intro F G al st H xs ws Q R r p
  unfold cInt at p
  split at p
  · rename_i i
    obtain ⟨v, rfl, rv⟩ := one_arg r
    cases rv
    exact .inl ⟨i, rfl, retI_ok R p⟩
  · exact p.elim
def cMax2 : OpC := fun ws st => match ws with
  | [.p (.int i), .p (.int j)] => retI (if j > i then j else i) st
  | _ => .bad
theorem pr_max2 : PrimC (bx X) E cMax2 (fun xs H Q => ∃ i j, xs = [.int i, .int j] ∧ Q (.int (if j > i then j else i)) H) := by
  intro F G al st H xs ws Q R r p
  unfold cMax2 at p
  split at p
  · rename_i i j
    obtain ⟨v, v', rfl, rv, rv'⟩ := two_args r
    cases rv; cases rv'
    exact ⟨i, j, rfl, retI_ok R p⟩
  · exact p.elim
def cMin2 : OpC := fun ws st => match ws with
  | [.p (.int i), .p (.int j)] => retI (if j < i then j else i) st
  | _ => .bad
theorem pr_min2 : PrimC (bx X) E cMin2 (fun xs H Q => ∃ i j, xs = [.int i, .int j] ∧ Q (.int (if j < i then j else i)) H) := by
  intro F G al st H xs ws Q R r p
  unfold cMin2 at p
  split at p
  · rename_i i j
    obtain ⟨v, v', rfl, rv, rv'⟩ := two_args r
    cases rv; cases rv'
    exact ⟨i, j, rfl, retI_ok R p⟩
  · exact p.elim
/-- all, any of a list of truth values -/
def bools : List PyData → Option (List Bool)
  | [] => some []
  | .bool b :: ds => (bools ds).map (b :: ·)
  | _ => none
theorem bools_ok {G : Hp} : ∀ {xs : List V} {ds : List PyData} {bs : List Bool}, Rps G xs ds → bools ds = some bs → xs = bs.map V.bl
  | _, _, _, .nil, h => by simp [bools] at h; subst h; rfl
  | _, d :: ds, bs, .cons hd t, h => by
    cases hd with
    | bl b =>
      simp only [bools, Option.map_eq_some_iff] at h
      obtain ⟨cs, h1, rfl⟩ := h
      rw [bools_ok t h1]; rfl
    | _ => simp [bools] at h
def cAll (f : List Bool → Bool) : OpC := fun ws st => match ws with
  | [w] => match val st w with
    | some (.list ds) => match bools ds with
      | some bs => retB (f bs) st
      | none => .bad
    | _ => .bad
  | _ => .bad
theorem pr_all (f : List Bool → Bool) : PrimC (bx X) E (cAll f) (fun vs H Q => ∃ (a : Addr) (bs : List Bool), vs = [V.ref a] ∧ SqL X.K H a (bs.map V.bl) ∧ Q (.bl (f bs)) H) := by
  intro F G al st H xs ws Q R r p
  unfold cAll at p
  split at p
  · rename_i w
    obtain ⟨v, rfl, rv⟩ := one_arg r
    split at p
    · rename_i ds e1
      split at p
      · rename_i bs hb
        cases val_rv R rv e1 with
        | lst h z r2 =>
          rw [bools_ok r2 hb] at h
          exact ⟨_, bs, rfl, SqL.of h, retB_ok R p⟩
      · exact p.elim
    · exact p.elim
  · exact p.elim
def intsOf : List PyData → Option (List Int)
  | [] => some []
  | .int b :: ds => (intsOf ds).map (b :: ·)
  | _ => none
theorem intsOf_ok {G : Hp} : ∀ {xs : List V} {ds : List PyData} {bs : List Int}, Rps G xs ds → intsOf ds = some bs → xs = bs.map V.int
  | _, _, _, .nil, h => by simp [intsOf] at h; subst h; rfl
  | _, d :: ds, bs, .cons hd t, h => by
    cases hd with
    | int b =>
      simp only [intsOf, Option.map_eq_some_iff] at h
      obtain ⟨cs, h1, rfl⟩ := h
      rw [intsOf_ok t h1]; rfl
    | _ => simp [intsOf] at h
/-- max of a list of ints: its greatest item -/
def maxI : List Int → Int
  | [] => 0
  | x :: xs => xs.foldl (fun a b => if b > a then b else a) x
theorem foldl_max (xs : List Int) : ∀ x : Int, (∀ y ∈ x :: xs, y ≤ xs.foldl (fun a b => if b > a then b else a) x) ∧ xs.foldl (fun a b => if b > a then b else a) x ∈ x :: xs := by
  induction xs with
  | nil => intro x; exact ⟨fun y hy => by simp at hy; simp [hy], by simp⟩
  | cons z zs ih =>
    intro x
    rw [List.foldl_cons]
    obtain ⟨h1, h2⟩ := ih (if z > x then z else x)
    refine ⟨fun y hy => ?_, ?_⟩
    · rcases List.mem_cons.mp hy with rfl | hy
      · refine Int.le_trans ?_ (h1 _ List.mem_cons_self)
        split <;> omega
      · rcases List.mem_cons.mp hy with rfl | hy
        · refine Int.le_trans ?_ (h1 _ List.mem_cons_self)
          split <;> omega
        · exact h1 y (List.mem_cons_of_mem _ hy)
    · rcases List.mem_cons.mp h2 with e | h2
      · rw [e]; split <;> simp
      · exact List.mem_cons_of_mem _ (List.mem_cons_of_mem _ h2)
theorem maxI_of {ns : List Int} {m : Int} (hm : m ∈ ns) (hle : ∀ y, y ∈ ns → y ≤ m) : m = maxI ns := by
  cases ns with
  | nil => cases hm
  | cons x xs =>
    obtain ⟨h1, h2⟩ := foldl_max xs x
    have a := h1 m hm
    have b := hle _ h2
    exact Int.le_antisymm a b
def cMaxL : OpC := fun ws st => match ws with
  | [w] => match val st w with
    | some (.list ds) => match intsOf ds with
      | some ns => if 0 < ns.length then retI (maxI ns) st else .bad
      | none => .bad
    | _ => .bad
  | _ => .bad
theorem pr_maxL : PrimC (bx X) E cMaxL (rMax X.K) := by
  intro F G al st H xs ws Q R r p
  unfold cMaxL at p
  split at p
  · rename_i w
    obtain ⟨v, rfl, rv⟩ := one_arg r
    split at p
    · rename_i ds e1
      split at p
      · rename_i ns hb
        split at p
        · rename_i hl
          cases val_rv R rv e1 with
          | lst h z r2 =>
            rw [intsOf_ok r2 hb] at h
            exact ⟨_, ns, rfl, SqL.of h, hl, fun m hm hle => by rw [maxI_of hm hle]; exact retI_ok R p⟩
        · exact p.elim
      · exact p.elim
    · exact p.elim
  · exact p.elim

/-! ### list(..), tuple(..) -/
/-- keys of a dict, as data -/
def cListOf (mk : Mk1) : OpC := fun ws st => match ws with
  | [.s ns] => mk (ns.map .int) st
  | [w] => match val st w with
    | some (.list ds) => mk ds st
    | some (.tuple ds) => mk ds st
    | _ => .bad
  | _ => .bad
def MkLOk (X : Cx) (E : XK) (mk : Mk1) : Prop := ∀ {F G : Hp} {al : Al} {st : Sto} {H : Hp} {vs : List V} {ds : List PyData} {Q : VK}, RelS (bx X F) G al st H → Rps G vs ds → Post (bx X F) E G al (PQ (bx X F) Q) (mk ds st) → vs.length ≤ sizeLine ∧ ∀ p, H p = none → Q (.ref p) (upd H p (.lst vs))
theorem mkL_okE : MkLOk X E mkL := fun R r p => mkL_ok R r p
theorem mkO_okE : MkLOk X E mkO := fun R r p => mkO_ok R r p
theorem rps_ints {G : Hp} : ∀ ns : List Int, Rps G (ns.map V.int) (ns.map .int)
  | [] => .nil
  | n :: ns => .cons (.int n) (rps_ints ns)
theorem scr_at {F G : Hp} {al : Al} {st : Sto} {H : Hp} {a : Addr} {xs : List V} (R : RelS (bx X F) G al st H) (hq : SqL X.K G a xs) : SqL X.K H a xs := by
  rcases hq with (h | ⟨o, h⟩) | h
  · rcases R.sam _ _ h with e | ⟨⟨_, e⟩, _⟩
    · exact SqL.of e
    · cases e
  · rcases R.sam _ _ h with e | ⟨⟨_, e⟩, _⟩
    · exact .inl (.inr ⟨o, e⟩)
    · cases e
  · exact .inr h
theorem pr_listOf {mk : Mk1} (hk : MkLOk X E mk) : PrimC (bx X) E (cListOf mk) (fun xs H Q => ∃ p ys, xs = [.ref p] ∧ (SqL X.K H p ys ∨ SqT X.K H p ys) ∧ ∀ l, H l = none → Q (.ref l) (upd H l (.lst ys))) := by
  intro F G al st H xs ws Q R r p
  unfold cListOf at p
  split at p
  · rename_i ns
    obtain ⟨v, rfl, rv⟩ := one_arg r
    obtain ⟨a, rfl, hq⟩ := rv
    exact ⟨a, _, rfl, .inl (scr_at R hq), (hk R (rps_ints ns) p).2⟩
  · rename_i w _
    obtain ⟨v, rfl, rv⟩ := one_arg r
    split at p
    · rename_i ds e1
      cases val_rv R rv e1 with
      | lst h z r2 => exact ⟨_, _, rfl, .inl (SqL.of h), (hk R r2 p).2⟩
    · rename_i ds e1
      cases val_rv R rv e1 with
      | tup h z r2 => exact ⟨_, _, rfl, .inr (SqT.of h), (hk R r2 p).2⟩
    · exact p.elim
  · exact p.elim
def cTupOf : OpC := fun ws st => match ws with
  | [w] => match val st w with
    | some (.list ds) => mkT ds st
    | _ => .bad
  | _ => .bad
theorem pr_tupOf : PrimC (bx X) E cTupOf (fun xs H Q => ∃ p ys, xs = [.ref p] ∧ ((SqL X.K H p ys ∧ ∀ l, H l = none → Q (.ref l) (upd H l (.tup ys))) ∨ (SqT X.K H p ys ∧ Q (.ref p) H))) := by
  intro F G al st H xs ws Q R r p
  unfold cTupOf at p
  split at p
  · rename_i w
    obtain ⟨v, rfl, rv⟩ := one_arg r
    split at p
    · rename_i ds e1
      cases val_rv R rv e1 with
      | lst h z r2 => exact ⟨_, _, rfl, .inl ⟨SqL.of h, (mkT_ok R r2 p).2⟩⟩
    · exact p.elim
  · exact p.elim

/-! ### subscripts -/
def rIxD : R2 := fun x y H Q => ∃ a v, x = .ref a ∧ DGet H a y (some v) ∧ Q v H
theorem ix_dict (hu : X.A.units + 64 < cLine) : IxR X rIxD := by
  intro value slice pins s σ H x y v u Q I rx ry h hs
  obtain ⟨a, z, rfl, g, q⟩ := h
  cases rx
  exact PyProof.Rows.tail_any (dict_typeIs I g) PySem.F.slot_dict_getitem.lookup (d_getItem (by omega) I g ry fun w' s3 I3 rw' => ⟨z, H, I3, rw', q⟩) hs
abbrev rIxA (K : PySem.W.Frag) : R2 := fun x y H Q => rIx K x y H Q ∨ rIxD x y H Q
theorem ix_any (hu : X.A.units + 64 < cLine) : IxR X (rIxA X.K) := ix_seq.or (ix_dict hu)
/-- the item at a place, from either end -/
def oIx : Op2 := fun w u st => match w, val st u with
  | .o n, some (.str k) => match st[n]? with
    | some (.rcd kvs) => match kvs.lookup k with
      | some w' => .ok w' st
      | none => .bad
    | _ => match val st w with
      | some (.dict kvs) => match dLook kvs (.inr k) with
        | some d => .ok (.p d) st
        | none => .bad
      | _ => .bad
  | _, some j => match val st w, j with
    | some (.list ds), .int i => match atI ds i with
      | some d => .ok (.p d) st
      | none => .bad
    | some (.tuple ds), .int i => match atI ds i with
      | some d => .ok (.p d) st
      | none => .bad
    | some (.str z), .int i => if z.length ≤ sizeLine then (match atI z.cps.toList i with
      | some c => retS ⟨#[c]⟩ st
      | none => .bad) else .bad
    | some (.dict kvs), j => match keyOf j with
      | some k => match dLook kvs k with
        | some d => .ok (.p d) st
        | none => .bad
      | none => .bad
    | _, _ => .bad
  | _, none => .bad
theorem Rps.atI {G : Hp} {xs : List V} {ds : List PyData} {i : Int} {d : PyData} (r : Rps G xs ds) (h : L2.atI ds i = some d) : ∃ v, L2.atI xs i = some v ∧ Rp G v d := by
  unfold L2.atI at h ⊢
  rw [r.length]
  cases e : ixN ds.length i with
  | none => rw [e] at h; cases h
  | some j =>
    rw [e] at h
    obtain ⟨v, h1, h2⟩ := r.get (i := j) (d := d) h
    exact ⟨v, h1, h2⟩
theorem Rkv.look_some {G : Hp} {kvs : List (Key × V)} {ds : List (PyData × PyData)} {k : Key} {d : PyData} (r : Rkv G kvs ds) (h : dLook ds k = some d) : ∃ v, valV kvs k = some v ∧ Rp G v d := by
  have := r.look k
  rw [h] at this
  cases e : valV kvs k with
  | none => rw [e] at this; exact this.elim
  | some v => rw [e] at this; exact ⟨v, rfl, this⟩
theorem Rrs.look_some {B : Bx} {G : Hp} {al : Al} {f : Str} {w : W} : ∀ {gs : List (Key × V)} {fs : List (Str × W)}, Rrs B G al gs fs → fs.lookup f = some w → ∃ v, valV gs (.inr f) = some v ∧ Rw B G al v w
  | _, _, .nil, h => by cases h
  | _, _, .cons (a := (k, v)) (b := (g, u)) hh t, h => by
    obtain ⟨h1, h2⟩ := hh
    simp only at h1
    subst h1
    rw [List.lookup_cons] at h
    cases e : f == g with
    | true =>
      rw [e] at h; cases h
      have e' := beq_iff_eq.mp e
      subst e'
      exact ⟨v, valV_pos rfl, h2⟩
    | false =>
      rw [e] at h
      obtain ⟨v', e1, e2⟩ := Rrs.look_some t h
      have ne : ¬ (Sum.inr g : Key) = .inr f := fun z => by
        cases z
        rw [beq_self_eq_true] at e; cases e
      exact ⟨v', by rw [valV_neg ne]; exact e1, e2⟩
theorem rp_look {G H : Hp} {v u : V} {ds : List (PyData × PyData)} {j : PyData} {k : Key} {d : PyData} (s : Sam G H) (r1 : Rv G H v (.dict ds)) (r2 : Rv G H u j) (hk : keyOf j = some k) (h : dLook ds k = some d) : ∃ a z, v = .ref a ∧ DGet H a u (some z) ∧ Rp G z d := by
  cases r1 with
  | dic h1 r =>
    obtain ⟨z, e1, e2⟩ := r.look_some h
    exact ⟨_, z, rfl, .inl ⟨_, k, h1, keyOf_rp r2 hk, e1.symm⟩, e2⟩
theorem pr_ix : Prim2 (bx X) E oIx (rIxA X.K) := by
  intro F G al st H x y w u Q R rx ry p
  have fin : ∀ {z : V} {d : PyData}, Rp G z d → Post (bx X F) E G al (PQ (bx X F) Q) (.ok (.p d) st) → Q z H := fun r p => p G al H (.refl _ _) R _ r
  unfold oIx at p
  split at p
  · rename_i n k e2
    have v2 := val_rv R ry e2
    split at p
    · rename_i kvs hc
      split at p
      · rename_i w' hw
        obtain ⟨a, ha, rfl⟩ := rx
        obtain ⟨g0, gs, e, rr⟩ := R.cel n a _ ha hc
        obtain ⟨v, e1, rv⟩ := rr.look_some hw
        cases v2
        exact .inr ⟨a, v, rfl, .inl ⟨gs, .inr k, .inl e, rfl, e1.symm⟩, p G al H (.refl _ _) R _ rv⟩
      · exact p.elim
    · split at p
      · rename_i kvs e1
        split at p
        · rename_i d hd
          obtain ⟨a, z, rfl, g, rz⟩ := rp_look R.sam (val_rv R rx e1) v2 rfl hd
          exact .inr ⟨a, z, rfl, g, fin rz p⟩
        · exact p.elim
      · exact p.elim
  · rename_i j e2
    have v2 := val_rv R ry e2
    split at p
    · rename_i ds i e1
      cases v2
      split at p
      · rename_i d hd
        cases val_rv R rx e1 with
        | lst h z r =>
          obtain ⟨v, h1, h2⟩ := r.atI hd
          exact .inl (.inl ⟨_, _, i, v, rfl, rfl, SqL.of h, h1, fin h2 p⟩)
      · exact p.elim
    · rename_i ds i e1
      cases v2
      split at p
      · rename_i d hd
        cases val_rv R rx e1 with
        | tup h z r =>
          obtain ⟨v, h1, h2⟩ := r.atI hd
          exact .inl (.inr (.inl ⟨_, _, i, v, rfl, rfl, SqT.of h, h1, fin h2 p⟩))
      · exact p.elim
    · rename_i z i e1
      cases v2
      split at p
      · rename_i hz
        split at p
        · rename_i c hc
          cases val_rv R rx e1
          exact .inl (.inr (.inr ⟨z, i, c, rfl, rfl, hz, hc, retS_ok R p⟩))
        · exact p.elim
      · exact p.elim
    · rename_i kvs j' _ _ e1
      split at p
      · rename_i k hk
        split at p
        · rename_i d hd
          obtain ⟨a, z, rfl, g, rz⟩ := rp_look R.sam (val_rv R rx e1) v2 hk hd
          exact .inr ⟨a, z, rfl, g, fin rz p⟩
        · exact p.elim
      · exact p.elim
    · exact p.elim
  · exact p.elim
theorem se_ix {a b : Expr} {sa sb : SemE} (hu : X.A.units + 64 < cLine) (ha : SE X E a sa) (hb : SE X E b sb) (hs : PlainIx b := by intro _ _; rfl) : SE X E (.Subscript a b pos) (sB oIx sa sb) :=
  (pe_ix (ix_any hu) ha hb hs).weak fun _ _ _ h => tD_two pr_ix h
end
end Pd
end

section
set_option Elab.async false
set_option linter.all false
set_option autoImplicit false
set_option maxRecDepth 100000
/-! Pd: isinstance, sorted, slices, stores into dicts, displays of dicts, methods of lists. -/
namespace Pd
open PySem L2 PySem.SeqAt
variable [Wd]
section
variable {X : Cx} {E : XK} {x : Str} {p pos : Pos} {e o : Expr} {es : List Expr} {t : SemA} {s so : SemE}

/-! ### isinstance -/
def tyN : PyData → String
  | .none => "NoneType"
  | .bool _ => "bool"
  | .int _ => "int"
  | .str _ => "str"
  | .list _ => "list"
  | .tuple _ => "tuple"
  | .dict _ => "dict"
theorem Rv.ty {K : PySem.W.Frag} {G H : Hp} {v : V} {d : PyData} (r : Rv G H v d) : TyX K H v (.type (tyN d)) := by
  cases r with
  | non => exact .base .non
  | bl b => exact .base (.bl b)
  | int i => exact .base (.int i)
  | str x => exact .base (.str x)
  | lst h z r => exact .base (.lst h)
  | tup h z r => exact .base (.tup h)
  | dic h r =>
    rcases h with h | ⟨o, h⟩
    · exact .base (.dK h)
    · exact .fDict h
def isD (T : String) (d : PyData) : Bool := match T, d with
  | "int", .int _ => true
  | "int", .bool _ => true
  | "bool", .bool _ => true
  | "str", .str _ => true
  | "list", .list _ => true
  | "tuple", .tuple _ => true
  | "dict", .dict _ => true
  | _, _ => false
/-- a built-in class that isD knows -/
def KnT (T : String) : Prop := ∀ d : PyData, kitB (tyN d) T = some (isD T d)
theorem kn_int : KnT "int" := fun d => by cases d <;> first | rfl | decide +kernel
theorem kn_bool : KnT "bool" := fun d => by cases d <;> first | rfl | decide +kernel
theorem kn_str : KnT "str" := fun d => by cases d <;> first | rfl | decide +kernel
theorem kn_list : KnT "list" := fun d => by cases d <;> first | rfl | decide +kernel
theorem kn_tuple : KnT "tuple" := fun d => by cases d <;> first | rfl | decide +kernel
theorem kn_dict : KnT "dict" := fun d => by cases d <;> first | rfl | decide +kernel
def sIsi (f : PyData → Bool) (s : SemE) : SemE := fun en st => (s en st).bind fun w st => match val st w with
  | some d => retB (f d) st
  | none => .bad
/-- isinstance(x, T) -/
theorem se_isi {a : Expr} {tn : Str} {n : String} {p2 : Pos} (kn : KnT n) (ha : SE X E a s) (hg : Gl X "isinstance") (hm : X.mg "isinstance" = none) (hgT : Gl X tn) (hmT : X.mg tn = none) (hvT : bootBuiltins tn = some (.type n))
    (hn : tn ≠ "__name__" := by decide) (hd : (tn == ("__debug__" : Str)) = false := by decide)
    (he : starEach [a, .Name tn p2] X.env = (false, eval a X.env) :: starEach [.Name tn p2] X.env := by rfl) (hpl : (backTo pos (starEach [.Name tn p2] X.env)).any (·.1) = false := by rfl) : SE X E (.Call (.Name "isinstance" p) [a, .Name tn p2] [] pos) (sIsi (isD n) s) :=
  (pe_callB call_isi hg hm (by decide +kernel) (pa_cons ha (pa_cons (pe_bltn (v := .ty n) hgT hmT hvT rfl hn hd) pa_nil (by rfl)) he) (by decide) (by decide) he hpl).weak fun σ H Q ⟨F, G, al, en, st, R, p⟩ =>
    tD_bind (sa := s) (k := fun w _ st => match val st w with
      | some d => retB (isD n d) st
      | none => .bad) R p fun v H1 G1 al1 st1 w R1 r1 p1 _ => by
      split at p1
      · rename_i d e1
        exact ⟨v, .ty n, _, _, isD n d, rfl, .ty n, (val_rv R1.s r1 e1).ty, kn d, retB_ok R1.s p1⟩
      · exact p1.elim
/-- isinstance(x, (T, U)) -/
theorem se_isi2 {a : Expr} {tn un : Str} {n m : String} {p2 p3 p4 : Pos} {kk} (kn : KnT n) (km : KnT m) (ha : SE X E a s) (hg : Gl X "isinstance") (hm : X.mg "isinstance" = none) (hgT : Gl X tn) (hmT : X.mg tn = none) (hvT : bootBuiltins tn = some (.type n))
    (hgU : Gl X un) (hmU : X.mg un = none) (hvU : bootBuiltins un = some (.type m))
    (hn : tn ≠ "__name__" := by decide) (hd : (tn == ("__debug__" : Str)) = false := by decide) (hn2 : un ≠ "__name__" := by decide) (hd2 : (un == ("__debug__" : Str)) = false := by decide)
    (he : starEach [a, .Tuple [.Name tn p2, .Name un p3] kk p4] X.env = (false, eval a X.env) :: starEach [.Tuple [.Name tn p2, .Name un p3] kk p4] X.env := by rfl)
    (hpl : (backTo pos (starEach [.Tuple [.Name tn p2, .Name un p3] kk p4] X.env)).any (·.1) = false := by rfl) :
    SE X E (.Call (.Name "isinstance" p) [a, .Tuple [.Name tn p2, .Name un p3] kk p4] [] pos) (sIsi (fun d => isD n d || isD m d) s) :=
  (pe_callB call_isiT hg hm (by decide +kernel) (pa_cons ha (pa_cons (pe_tup (pa_cons (pe_bltn (v := .ty n) hgT hmT hvT rfl hn hd) (pa_cons (pe_bltn (v := .ty m) hgU hmU hvU rfl hn2 hd2) pa_nil (by rfl)) (by rfl))) pa_nil (by rfl)) he) (by decide) (by decide) he hpl).weak fun σ H Q ⟨F, G, al, en, st, R, p⟩ =>
    tD_bind (sa := s) (k := fun w _ st => match val st w with
      | some d => retB (isD n d || isD m d) st
      | none => .bad) R p fun v H1 G1 al1 st1 w R1 r1 p1 _ => by
      split at p1
      · rename_i d e1
        refine ⟨by show 2 ≤ sizeLine; decide, fun q hq => ?_⟩
        have R2 := R1.s.beside (u := .tup [.ty n, .ty m]) hq
        refine ⟨v, q, [.ty n, .ty m], _, [.type n, .type m], isD n d || isD m d, rfl, upd_same, .cons (.ty n) (.cons (.ty m) .nil), (val_rv R2 r1 e1).ty, ?_, retB_ok R2 p1⟩
        have h1 : PySem.W.kitOne X.K (.type (tyN d)) (.type n) = some (isD n d) := kit_ty (kn d)
        have h2 : PySem.W.kitOne X.K (.type (tyN d)) (.type m) = some (isD m d) := kit_ty (km d)
        simp only [PySem.W.kitAny, h1, h2]
        cases isD n d <;> cases isD m d <;> rfl
      · exact p1.elim

/-! ### slices -/
abbrev SemO := En → Sto → Res (Option Int)
def tDO (b : Hp → Bx) (E : XK) (s : SemO) : TO := fun σ H Q => ∃ F G al en st, Rel (b F) G al en st σ H ∧ Post (b F) E G al (fun c _ _ _ H' => Q c H') (s en st)
abbrev SO (X : Cx) (E : XK) (e : Option Expr) (s : SemO) : Prop := PO X e (tDO (bx X) E s)
def oNone : SemO := fun _ st => .ok none st
def oSome (s : SemE) : SemO := fun en st => (s en st).bind fun w st => match w with
  | .p (.int i) => .ok (some i) st
  | _ => .bad
theorem so_none : SO X E none oNone := ⟨fun pins s σ H Q I ⟨F, G, al, en, st, R, p⟩ => po_none.run pins s σ H Q I (p G al H (.refl _ _) R.s)⟩
theorem so_some (h : SE X E e s) : SO X E (some e) (oSome s) := ⟨fun pins s1 σ H Q I ⟨F, G, al, en, st, R, p⟩ => (po_some h).run pins s1 σ H Q I
  (tD_bind (sa := s) (k := fun w _ st => match w with
    | .p (.int i) => .ok (some i) st
    | _ => .bad) R p fun v H1 G1 al1 st1 w R1 r1 p1 _ => by
      split at p1
      · rename_i i
        cases r1
        exact ⟨i, rfl, p1 G1 al1 H1 (.refl _ _) R1.s⟩
      · exact p1.elim)⟩
def cutD (ds : List PyData) (lo hi : Option Int) : List PyData := (ds.drop (HT.sIx ds.length 0 lo)).take (HT.sIx ds.length ds.length hi - HT.sIx ds.length 0 lo)
theorem Rps.cut {G : Hp} {xs : List V} {ds : List PyData} (r : Rps G xs ds) (lo hi : Option Int) : Rps G (cutV xs lo hi) (cutD ds lo hi) := by
  unfold cutV cutD
  rw [r.length]
  exact (r.drop _).take _
def oSl (w : W) (lo hi : Option Int) (st : Sto) : Res W := match w with
  | .s ns => if ns.length ≤ sizeLine then .ok (.p (.list (cutD (ns.map .int) lo hi))) st else .bad
  | w => match val st w with
    | some (.list ds) => .ok (.p (.list (cutD ds lo hi))) st
    | some (.tuple ds) => .ok (.p (.tuple (cutD ds lo hi))) st
    | some (.str z) => if z.length ≤ sizeLine then retS (cutS z lo hi) st else .bad
    | _ => .bad
def sSl (s : SemE) (l h : SemO) : SemE := fun en st => (s en st).bind fun w st => (l en st).bind fun lo st => (h en st).bind fun hi st => oSl w lo hi st
abbrev rSlAny (K : PySem.W.Frag) : V → Option Int → Option Int → Hp → VK → Prop := fun x lo hi H Q => rSlL K x lo hi H Q ∨ (rSlA K x lo hi H Q ∨ rSlS x lo hi H Q)
theorem sl_any : SlR X (rSlAny X.K) := sl_list.or (sl_tupA.or sl_str)
theorem cutD_whole (ds : List PyData) (lo hi : Option Int) (h : HT.sIx ds.length 0 lo = 0 ∧ HT.sIx ds.length ds.length hi = ds.length) : cutD ds lo hi = ds := by
  unfold cutD
  rw [h.1, h.2]; simp
theorem pr_sl {F G : Hp} {al : Al} {st : Sto} {H : Hp} {v : V} {w : W} {lo hi : Option Int} {Q : VK} (R : RelS (bx X F) G al st H) (rv : Rw (bx X F) G al v w) (p : Post (bx X F) E G al (PQ (bx X F) Q) (oSl w lo hi st)) : rSlAny X.K v lo hi H Q := by
  have newL : ∀ {a : Addr} {xs : List V} {ds : List PyData}, v = .ref a → SqL X.K H a xs → xs.length ≤ sizeLine → Rps G xs ds → Post (bx X F) E G al (PQ (bx X F) Q) (.ok (.p (.list (cutD ds lo hi))) st) → rSlL X.K v lo hi H Q := fun {a xs ds} e h z r p =>
    ⟨a, xs, e, h, fun q hq => by
      obtain ⟨g, R'⟩ := R.close (u := .lst (cutV xs lo hi)) hq
      exact p _ al _ g R' _ (.lst upd_same (Nat.le_trans (cutV_length xs lo hi) z) ((r.cut lo hi).sub g.sub))⟩
  unfold oSl at p
  split at p
  · rename_i ns
    split at p
    · rename_i hz
      obtain ⟨a, rfl, hq⟩ := rv
      exact .inl (newL rfl (scr_at R hq) (by simpa using hz) (rps_ints ns) p)
    · exact p.elim
  · split at p
    · rename_i ds e1
      cases val_rv R rv e1 with
      | lst h z r => exact .inl (newL rfl (SqL.of h) z r p)
    · rename_i ds e1
      have v1 := val_rv R rv e1
      cases v1 with
      | tup h z r =>
        refine .inr (.inl ⟨_, _, rfl, SqT.of h, fun hw => ?_, fun _ q hq => ?_⟩)
        · rw [r.length] at hw
          rw [cutD_whole ds lo hi hw] at p
          cases w with
          | s ns => cases e1
          | p d =>
            simp only [val] at e1
            split at e1
            · cases e1; exact p G al H (.refl _ _) R _ rv
            · cases e1
          | o n =>
            obtain ⟨a', ha, he⟩ := rv
            cases he
            obtain ⟨c, hc, ok⟩ := R.get ha
            simp only [val, hc] at e1
            cases c with
            | frz d =>
              simp only at e1
              split at e1
              · cases e1; exact p G al H (.refl _ _) R _ ok
              · cases e1
            | _ => cases e1
        · obtain ⟨g, R'⟩ := R.close (u := .tup _) hq
          exact p _ al _ g R' _ (.tup upd_same (Nat.le_trans (cutV_length _ lo hi) z) ((r.cut lo hi).sub g.sub))
    · rename_i z e1
      split at p
      · rename_i hz
        cases val_rv R rv e1
        exact .inr (.inr ⟨z, rfl, hz, retS_ok R p⟩)
      · exact p.elim
    · exact p.elim
theorem se_sl {a : Expr} {lo hi : Option Expr} {l h : SemO} {p2 : Pos} (ha : SE X E a s) (hl : SO X E lo l) (hh : SO X E hi h) : SE X E (.Subscript a (.Slice lo hi none p2) pos) (sSl s l h) :=
  (pe_slice sl_any ha hl hh).weak fun σ H Q ⟨F, G, al, en, st, R, p⟩ =>
    tD_bind (sa := s) (k := fun w en st => (l en st).bind fun lo st => (h en st).bind fun hi st => oSl w lo hi st) R p fun v H1 G1 al1 st1 w R1 r1 p1 _ =>
      ⟨F, G1, al1, en, st1, R1, (Post.bind p1).imp fun lo' G2 al2 st2 H2 g2 rs2 q2 => ⟨F, G2, al2, en, st2, R1.to g2 rs2, (Post.bind q2).imp fun hi' G3 al3 st3 H3 g3 rs3 q3 =>
        pr_sl rs3 (r1.gr (g2.trans g3)) q3⟩⟩
end
end Pd
end

section
set_option Elab.async false
set_option linter.all false
set_option autoImplicit false
set_option maxRecDepth 100000
/-! Pd: stores into dicts, displays of dicts, methods of lists, sorted, parallel stores. -/
namespace Pd
open PySem L2 PySem.SeqAt
variable [Wd]
section
variable {X : Cx} {E : XK} {x : Str} {p pos : Pos} {e o i value : Expr} {es : List Expr} {t : SemA} {s so si sv : SemE}

/-! ### d[k] = v -/
def dPut (kvs : List (PyData × PyData)) (k : Key) (v : PyData) : List (PyData × PyData) :=
  if (kvs.any fun kv => decide (keyOf kv.1 = some k)) = true then kvs.map (fun kv => if keyOf kv.1 = some k then (kv.1, v) else kv) else kvs ++ [(keyD k, v)]
def putR (kvs : List (Str × W)) (k : Str) (v : W) : List (Str × W) :=
  if (kvs.any fun kv => decide (kv.1 = k)) = true then kvs.map (fun kv => if kv.1 = k then (kv.1, v) else kv) else kvs ++ [(k, v)]
theorem dec_key {j k : Key} : decide (keyOf (keyD j) = some k) = decide (j = k) := by
  rw [keyOf_keyD]
  by_cases h : j = k
  · simp [h]
  · have : ¬ some j = some k := fun z => h (Option.some.inj z)
    simp [h]
theorem Rkv.any {G : Hp} {k : Key} : ∀ {kvs : List (Key × V)} {ds : List (PyData × PyData)}, Rkv G kvs ds → (kvs.any fun kv => decide (kv.1 = k)) = ds.any fun kv => decide (keyOf kv.1 = some k)
  | _, _, .nil => rfl
  | _, _, .cons h r => by rw [List.any_cons, List.any_cons, dec_key, Rkv.any r]
theorem Rkv.repl {G : Hp} {k : Key} {v : V} {d : PyData} (rv : Rp G v d) : ∀ {kvs : List (Key × V)} {ds : List (PyData × PyData)}, Rkv G kvs ds → Rkv G (kvs.map fun kv => if kv.1 = k then (kv.1, v) else kv) (ds.map fun kv => if keyOf kv.1 = some k then (kv.1, d) else kv)
  | _, _, .nil => .nil
  | _, _, .cons (k := j) h r => by
    rw [List.map_cons, List.map_cons]
    by_cases e : j = k
    · have e' : keyOf (keyD j) = some k := by rw [keyOf_keyD, e]
      rw [if_pos e, if_pos e']
      exact .cons rv (Rkv.repl rv r)
    · have e' : ¬ keyOf (keyD j) = some k := by rw [keyOf_keyD]; exact fun z => e (Option.some.inj z)
      rw [if_neg e, if_neg e']
      exact .cons h (Rkv.repl rv r)
theorem Rkv.snoc {G : Hp} {k : Key} {v : V} {d : PyData} (rv : Rp G v d) : ∀ {kvs : List (Key × V)} {ds : List (PyData × PyData)}, Rkv G kvs ds → Rkv G (kvs ++ [(k, v)]) (ds ++ [(keyD k, d)])
  | _, _, .nil => .cons rv .nil
  | _, _, .cons h r => .cons h (Rkv.snoc rv r)
theorem Rkv.put {G : Hp} {k : Key} {v : V} {d : PyData} {kvs : List (Key × V)} {ds : List (PyData × PyData)} (r : Rkv G kvs ds) (rv : Rp G v d) : Rkv G (putK kvs k v) (dPut ds k d) := by
  unfold putK dPut
  rw [r.any]
  split
  · exact r.repl rv
  · exact r.snoc rv
theorem dec_keyR {j k : Str} : decide ((Sum.inr j : Key) = .inr k) = decide (j = k) := key_rr j k
theorem Rrs.any {B : Bx} {G : Hp} {al : Al} {k : Str} : ∀ {kvs : List (Key × V)} {ds : List (Str × W)}, Rrs B G al kvs ds → (kvs.any fun kv => decide (kv.1 = (Sum.inr k : Key))) = ds.any fun kv => decide (kv.1 = k)
  | _, _, .nil => rfl
  | _, _, .cons (a := (j, v)) (b := (g, w)) h r => by
    obtain ⟨h1, h2⟩ := h
    simp only at h1
    subst h1
    rw [List.any_cons, List.any_cons, dec_keyR, Rrs.any r]
theorem Rrs.repl {B : Bx} {G : Hp} {al : Al} {k : Str} {v : V} {d : W} (rv : Rw B G al v d) : ∀ {kvs : List (Key × V)} {ds : List (Str × W)}, Rrs B G al kvs ds → Rrs B G al (kvs.map fun kv => if kv.1 = (Sum.inr k : Key) then (kv.1, v) else kv) (ds.map fun kv => if kv.1 = k then (kv.1, d) else kv)
  | _, _, .nil => .nil
  | _, _, .cons (a := (j, v')) (b := (g, w)) h r => by
    obtain ⟨h1, h2⟩ := h
    simp only at h1
    subst h1
    rw [List.map_cons, List.map_cons]
    by_cases e : g = k
    · have e' : (Sum.inr g : Key) = .inr k := by rw [e]
      rw [if_pos e, if_pos e']
      exact .cons ⟨rfl, rv⟩ (Rrs.repl rv r)
    · have e' : ¬ (Sum.inr g : Key) = .inr k := fun z => e (Sum.inr.inj z)
      rw [if_neg e, if_neg e']
      exact .cons ⟨rfl, h2⟩ (Rrs.repl rv r)
theorem Rrs.snoc {B : Bx} {G : Hp} {al : Al} {k : Str} {v : V} {d : W} (rv : Rw B G al v d) : ∀ {kvs : List (Key × V)} {ds : List (Str × W)}, Rrs B G al kvs ds → Rrs B G al (kvs ++ [(.inr k, v)]) (ds ++ [(k, d)])
  | _, _, .nil => .cons ⟨rfl, rv⟩ .nil
  | _, _, .cons h r => .cons h (Rrs.snoc rv r)
theorem Rrs.put {B : Bx} {G : Hp} {al : Al} {k : Str} {v : V} {d : W} {kvs : List (Key × V)} {ds : List (Str × W)} (r : Rrs B G al kvs ds) (rv : Rw B G al v d) : Rrs B G al (putK kvs (.inr k) v) (putR ds k d) := by
  unfold putK putR
  rw [Rrs.any r]
  split
  · exact Rrs.repl rv r
  · exact Rrs.snoc rv r
/-- d[u] = v, w the dict -/
def oPut (w u v : W) (st : Sto) : Option Sto := match w with
  | .o n => match st[n]?, val st u, v with
    | some (.dic kvs), some j, .p d => match keyOf j with
      | some k => if kvs.length < sizeLine then some (st.set n (.dic (dPut kvs k d))) else none
      | _ => none
    | some (.rcd kvs), some (.str k), v => if kvs.length < sizeLine then some (st.set n (.rcd (putR kvs k v))) else none
    | _, _, _ => none
  | _ => none
theorem oPut_ok {F G : Hp} {al : Al} {st st' : Sto} {H : Hp} {x y z : V} {w u v : W} (R : RelS (bx X F) G al st H) (rx : Rw (bx X F) G al x w) (ry : Rw (bx X F) G al y u) (rz : Rw (bx X F) G al z v) (h : oPut w u v st = some st') :
    ∃ a H4, x = .ref a ∧ DPut H a y z H4 ∧ RelS (bx X F) G al st' H4 := by
  unfold oPut at h
  split at h
  · rename_i n
    obtain ⟨a, ha, rfl⟩ := rx
    split at h
    · rename_i kvs j d hc hj
      split at h
      · rename_i k hk
        split at h
        · rename_i hl
          cases h
          obtain ⟨g0, gs, e1, rr⟩ := R.cel n a _ ha hc
          have ey := keyOf_rp (val_rv R ry hj) hk
          subst ey
          refine ⟨a, _, rfl, DPut.k e1 (by rw [rr.length]; exact hl), R.write (u := .dK (putK gs k z)) (c := .dic (dPut kvs k d)) ha g0 ⟨g0, _, upd_same, rr.put rz⟩⟩
        · cases h
      · cases h
    · rename_i kvs k hc hj
      split at h
      · rename_i hl
        cases h
        obtain ⟨g0, gs, e1, rr⟩ := R.cel n a _ ha hc
        have ey := keyOf_rp (k := .inr k) (val_rv R ry hj) rfl
        subst ey
        have hlen : gs.length = kvs.length := Paired.length rr
        refine ⟨a, _, rfl, DPut.k e1 (by omega), R.write (u := .dK (putK gs (.inr k) z)) ha g0 ⟨g0, _, upd_same, Rrs.put rr rz⟩⟩
      · cases h
    · cases h
  · cases h
def sPut (so si sv : SemE) : SemS := fun en st => (sv en st).bind fun v st => (so en st).bind fun w st => (si en st).bind fun u st => match oPut w u v st with
  | some st' => .ok (.nx en) st'
  | none => .bad
theorem ss_put {pos' : Pos} (hu : X.A.units + 64 < cLine) (ho : SE X E o so) (hi : SE X E i si) (hv : SE X E value sv) (hs : swapsWith value (some (.Subscript o i pos')) pos.line X.env = pure false := by rfl) : SS X E (.Assign [.Subscript o i pos'] value pos) (sPut so si sv) :=
  (ps_dput (by omega) ho hi hv hs).weak fun D σ H ⟨F, G, al, en, st, R, p⟩ => by
    refine tD_bind (sa := sv) (k := fun v en st => (so en st).bind fun w st => (si en st).bind fun u st => match oPut w u v st with
      | some st' => Res.ok (Fl.nx en) st'
      | none => .bad) (Q := PF (bx X F) D) R p fun z H1 G1 al1 st1 v R1 r1 p1 _ => ?_
    refine tD_bind (sa := so) (k := fun w en st => (si en st).bind fun u st => match oPut w u v st with
      | some st' => Res.ok (Fl.nx en) st'
      | none => .bad) (Q := PF (bx X F) D) R1 p1 fun y H2 G2 al2 st2 w R2 r2 p2 g2 => ?_
    refine tD_bind (sa := si) (k := fun u en st => match oPut w u v st with
      | some st' => Res.ok (Fl.nx en) st'
      | none => .bad) (Q := PF (bx X F) D) R2 p2 fun y3 H3 G3 al3 st3 u R3 r3 p3 g3 => ?_
    cases ho' : oPut w u v st3 with
    | none => rw [ho'] at p3; exact p3.elim
    | some st' =>
      rw [ho'] at p3
      obtain ⟨a, H4, e1, dp, R4⟩ := oPut_ok R3.s (r2.gr g3) r3 (r1.gr (g2.trans g3)) ho'
      exact ⟨a, H4, e1, dp, p3 G3 al3 H4 (.refl _ _) R4 σ (EnvOk.of R3)⟩

/-! ### {} and {"a": e, ..} -/
def sDict0 : SemE := fun _ st => .ok (.o st.length) (st ++ [.dic []])
theorem se_dict0 : SE X E (.Dict [] [] pos) sDict0 := pe_dnewK.weak fun σ H Q ⟨F, G, al, en, st, R, p⟩ => fun q hq => by
  obtain ⟨g, R'⟩ := R.s.open (u := .dK []) (c := .dic []) hq ⟨(R.s.free hq).1, [], upd_same, .nil⟩
  exact p G _ _ g R' _ ⟨q, by rw [← R.s.len]; exact List.getElem?_concat_length, rfl⟩
/-! ### stores of several names from a tuple that is made -/
def setAllE (en : En) : List Nat → List W → En
  | i :: is, w :: ws => setAllE (en.set i (some w)) is ws
  | _, _ => en
def sParN (is : List Nat) (t : SemA) : SemS := fun en st => (t en st).bind fun ws st => if ws.length = is.length ∧ ws.length ≤ sizeLine then .ok (.nx (setAllE en is ws)) st else .bad
def gNames : List Nat → TGs
  | [] => gNil
  | i :: is => gCons (gName i) (gNames is)
theorem gNames_ok {B : Bx} {G : Hp} {al : Al} {H : Hp} {Q : St → Hp → Prop} {xs : List V} {ws : List W} (r : Rws B G al xs ws) : ∀ {is : List Nat} {σ : St} {en : En}, ws.length = is.length → EnvOk B G al en σ →
    (∀ σ', EnvOk B G al (setAllE en is ws) σ' → Q σ' H) → gNames is xs σ H Q := by
  induction r with
  | nil =>
    intro is σ en hl e k
    cases is with
    | nil => exact ⟨rfl, k _ e⟩
    | cons i is => simp at hl
  | cons h t ih =>
    intro is σ en hl e k
    cases is with
    | nil => simp at hl
    | cons i is => exact ⟨_, _, rfl, ih (by simpa using hl) (e.set h) k⟩
theorem ss_parN {ts : List Expr} {is : List Nat} {kt k2 : Nat} {pt pt2 : Pos} {es : List Expr} (hc : X.calm = true) (ha : SA X E es t) (hg : PGs X ts (gNames is))
    (hn : (assignEach ts X.env).length = is.length := by rfl) (hst : (assignEach ts X.env).findIdx? (·.1) = none := by rfl)
    (hs : swapsWithSole [.Tuple ts kt pt] (.Tuple es k2 pt2) pos.line X.env = pure false := by rfl) (hw : swappedStores [.Tuple ts kt pt] (.Tuple es k2 pt2) X.env = pure none := by rfl)
    (h1 : (assignEach [.Tuple ts kt pt] X.env).map (·.2) = [assign (.Tuple ts kt pt) X.env] := by rfl) : SS X E (.Assign [.Tuple ts kt pt] (.Tuple es k2 pt2) pos) (sParN is t) :=
  (ps_asg (pe_tup ha) (pg_tup hc hg hn hst) hs hw h1).weak fun D σ H ⟨F, G, al, en, st, R, p⟩ => by
    refine tDA_bind (sa := t) (k := fun ws en st => if ws.length = is.length ∧ ws.length ≤ sizeLine then Res.ok (Fl.nx (setAllE en is ws)) st else .bad) (Q := PF (bx X F) D) R p fun xs H1 G1 al1 st1 ws R1 r1 p1 _ => ?_
    have hl : xs.length = ws.length := Paired.length r1
    split at p1
    · rename_i hh
      refine ⟨by omega, fun q hq => ⟨q, xs, rfl, SqT.of upd_same, by omega, ?_⟩⟩
      have R2 := R1.s.beside (u := .tup xs) hq
      exact gNames_ok r1 hh.1 (EnvOk.of R1) fun σ' e' => p1 G1 al1 _ (.refl _ _) R2 σ' e'
    · exact p1.elim

/-! ### methods of lists -/
abbrev OpM := W → List W → Sto → Res W
def isLst (st : Sto) (w : W) : Bool := match val st w with
  | some (.list _) => true
  | _ => false
theorem isLst_ok {F G : Hp} {al : Al} {st : Sto} {H : Hp} {v : V} {w : W} (R : RelS (bx X F) G al st H) (r : Rw (bx X F) G al v w) (h : isLst st w = true) : tyV X.K "list" v H := by
  unfold isLst at h
  split at h
  · rename_i ds e1
    cases val_rv R r e1 with
    | lst h z r => exact .inl ⟨rfl, _, SqL.of h⟩
  · cases h
def sBm (op : OpM) (so : SemE) (t : SemA) : SemE := fun en st => (so en st).bind fun w st => if isLst st w = true then (t en st).bind fun ws st => op w ws st else .bad
def PrimM (X : Cx) (E : XK) (op : OpM) (r : V → List V → Hp → VK → Prop) : Prop := ∀ (F G : Hp) (al : Al) (st : Sto) (H : Hp) (x : V) (xs : List V) (w : W) (ws : List W) (Q : VK), RelS (bx X F) G al st H → Rw (bx X F) G al x w → Rws (bx X F) G al xs ws →
  Post (bx X F) E G al (PQ (bx X F) Q) (op w ws st) → r x xs H Q
theorem bm_go {op : OpM} {r : V → List V → Hp → VK → Prop} (pr : PrimM X E op r) {σ : St} {H : Hp} {Q : VK} (h : tD (bx X) E (sBm op so t) σ H Q) : tBM X.K "list" r (tD (bx X) E so) (tDA (bx X) E t) σ H Q := by
  obtain ⟨F, G, al, en, st, R, p⟩ := h
  refine tD_bind (sa := so) (k := fun w en st => if isLst st w = true then (t en st).bind fun ws st => op w ws st else .bad) R p fun v H1 G1 al1 st1 w R1 r1 p1 _ => ?_
  split at p1
  · rename_i hi
    exact ⟨isLst_ok R1.s r1 hi, tDA_bind (sa := t) (k := fun ws _ st => op w ws st) R1 p1 fun xs H2 G2 al2 st2 ws R2 r2 p2 g2 => pr F G2 al2 st2 H2 v xs w ws Q R2.s (r1.gr g2) r2 p2⟩
  · exact p1.elim
/-- xs.append(e) -/
def mAppend : OpM := fun w ws st => match w, ws with
  | .o n, [.p d] => match st[n]? with
    | some (.lst ds) => if ds.length < sizeLine then .ok (.p .none) (st.set n (.lst (ds ++ [d]))) else .bad
    | _ => .bad
  | _, _ => .bad
theorem pr_append : PrimM X E mAppend rAppend := by
  intro F G al st H x xs w ws Q R rx rxs p
  unfold mAppend at p
  split at p
  · rename_i n d
    obtain ⟨v, rfl, rv⟩ := one_arg rxs
    obtain ⟨a, ha, rfl⟩ := rx
    split at p
    · rename_i ds hc
      split at p
      · rename_i hl
        obtain ⟨g0, ys, e1, z, rr⟩ := R.cel n a _ ha hc
        refine ⟨a, ys, v, rfl, rfl, e1, by rw [rr.length]; exact hl, ?_⟩
        have R2 := R.write (u := .lst (ys ++ [v])) (c := .lst (ds ++ [d])) ha g0 ⟨g0, _, upd_same, by rw [List.length_append, List.length_singleton, rr.length]; exact hl, rr.append (.cons rv .nil)⟩
        exact p G al _ (.refl _ _) R2 _ .non
      · exact p.elim
    · exact p.elim
  · exact p.elim
/-- xs.pop() -/
def mPop : OpM := fun w ws st => match w, ws with
  | .o n, [] => match st[n]? with
    | some (.lst ds) => match ds[ds.length - 1]? with
      | some d => .ok (.p d) (st.set n (.lst ds.dropLast))
      | none => .bad
    | _ => .bad
  | _, _ => .bad
theorem Rps.dropLast {G : Hp} {xs : List V} {ds : List PyData} (r : Rps G xs ds) : Rps G xs.dropLast ds.dropLast := by
  rw [List.dropLast_eq_take, List.dropLast_eq_take, r.length]
  exact r.take _
theorem pr_pop : PrimM X E mPop rPop := by
  intro F G al st H x xs w ws Q R rx rxs p
  unfold mPop at p
  split at p
  · rename_i n
    cases rxs
    obtain ⟨a, ha, rfl⟩ := rx
    split at p
    · rename_i ds hc
      split at p
      · rename_i d hd
        obtain ⟨g0, ys, e1, z, rr⟩ := R.cel n a _ ha hc
        obtain ⟨v, h1, h2⟩ := rr.get hd
        refine ⟨a, ys, v, rfl, rfl, e1, by rw [rr.length]; exact h1, ?_⟩
        have R2 := R.write (u := .lst ys.dropLast) (c := .lst ds.dropLast) ha g0 ⟨g0, _, upd_same, by rw [List.length_dropLast]; omega, rr.dropLast⟩
        exact p G al _ (.refl _ _) R2 _ h2
      · exact p.elim
    · exact p.elim
  · exact p.elim
/-- xs.pop(i) -/
def mPopAt : OpM := fun w ws st => match w, ws with
  | .o n, [.p (.int i)] => match st[n]? with
    | some (.lst ds) => if decide (-(2 ^ 63) ≤ i) && decide (i < 2 ^ 63) then (match seqIndex? i ds.length with
      | some k => match ds[k]? with
        | some d => .ok (.p d) (st.set n (.lst (ds.eraseIdx k)))
        | none => .bad
      | none => .bad) else .bad
    | _ => .bad
  | _, _ => .bad
theorem pr_popAt : PrimM X E mPopAt rPopAt := by
  intro F G al st H x xs w ws Q R rx rxs p
  unfold mPopAt at p
  split at p
  · rename_i n i
    obtain ⟨v, rfl, rv⟩ := one_arg rxs
    cases rv
    obtain ⟨a, ha, rfl⟩ := rx
    split at p
    · rename_i ds hc
      split at p
      · rename_i hb
        have hb' := Bool.and_eq_true_iff.mp hb
        split at p
        · rename_i k hk
          split at p
          · rename_i d hd
            obtain ⟨g0, ys, e1, z, rr⟩ := R.cel n a _ ha hc
            obtain ⟨v, h1, h2⟩ := rr.get hd
            refine ⟨a, ys, i, k, v, rfl, rfl, e1, of_decide_eq_true hb'.1, of_decide_eq_true hb'.2, by rw [rr.length]; exact hk, h1, ?_⟩
            have R2 := R.write (u := .lst (ys.eraseIdx k)) (c := .lst (ds.eraseIdx k)) ha g0 ⟨g0, _, upd_same, Nat.le_trans (len_erase ys k) z, rr.erase k⟩
            exact p G al _ (.refl _ _) R2 _ h2
          · exact p.elim
        · exact p.elim
      · exact p.elim
    · exact p.elim
  · exact p.elim
/-- xs.index(y), texts -/
def strsOf : List PyData → Option (List Str)
  | [] => some []
  | .str b :: ds => (strsOf ds).map (b :: ·)
  | _ => none
theorem strsOf_ok {G : Hp} : ∀ {xs : List V} {ds : List PyData} {bs : List Str}, Rps G xs ds → strsOf ds = some bs → xs = bs.map V.str
  | _, _, _, .nil, h => by simp [strsOf] at h; subst h; rfl
  | _, d :: ds, bs, .cons hd t, h => by
    cases hd with
    | str b =>
      simp only [strsOf, Option.map_eq_some_iff] at h
      obtain ⟨cs, h1, rfl⟩ := h
      rw [strsOf_ok t h1]; rfl
    | _ => simp [strsOf] at h
def mIndex : OpM := fun w ws st => match val st w, ws with
  | some (.list ds), [.p (.str y)] => match strsOf ds with
    | some xs => if y ∈ xs then retI (xs.idxOf y : Nat) st else .bad
    | none => .bad
  | _, _ => .bad
theorem pr_index : PrimM X E mIndex (rIndex X.K) := by
  intro F G al st H x xs w ws Q R rx rxs p
  unfold mIndex at p
  split at p
  · rename_i ds y e1
    obtain ⟨v, rfl, rv⟩ := one_arg rxs
    cases rv
    split at p
    · rename_i zs hz
      split at p
      · rename_i hm
        cases val_rv R rx e1 with
        | lst h z r =>
          rw [strsOf_ok r hz] at h
          have hl : zs.idxOf y < zs.length := List.idxOf_lt_length_of_mem hm
          have hget : zs[zs.idxOf y]? = some y := by rw [List.getElem?_eq_getElem hl, List.getElem_idxOf hl]
          refine ⟨_, zs.map V.str, .str y, zs.idxOf y, .str y, rfl, rfl, SqL.of h, rfl, by simp [List.all_map, flatV], by rw [List.getElem?_map, hget]; rfl, by simp [eqV], fun m z' hmlt hz' => ?_, retI_ok R p⟩
          rw [List.getElem?_map, Option.map_eq_some_iff] at hz'
          obtain ⟨u, hu, rfl⟩ := hz'
          show (u == y) = false
          have hml : m < zs.length := (List.getElem?_eq_some_iff.mp hu).1
          have hne := List.not_of_lt_findIdx (p := (· == y)) (xs := zs) (i := m) hmlt
          have hu' : zs[m] = u := (List.getElem?_eq_some_iff.mp hu).2
          rw [hu'] at hne
          simpa using hne
      · exact p.elim
    · exact p.elim
  · exact p.elim
variable {apos cpos : Pos}
theorem se_append (ho : SE X E o so) (ha : SA X E (e :: es) t) (hbase : attributeBase o "append" X.env (eval o X.env) = eval o X.env := by rfl)
    (hfew : ((backTo cpos (starEach (e :: es) X.env)).all (fun x => !x.1) && (backToKw cpos (keywordEach [] X.env)).all (fun x => x.1.isSome) && decide ((e :: es).length + ([] : List Keyword).length + (if ([] : List Keyword).isEmpty then 0 else 1) < 30)) = true := by rfl)
    (hline : (apos.endLine == cpos.line) = true := by rfl) (hs : starEach (e :: es) X.env = (false, eval e X.env) :: starEach es X.env := by rfl) (hplain : (backTo cpos (starEach es X.env)).any (·.1) = false := by rfl) :
    SE X E (.Call (.Attribute o "append" apos) (e :: es) [] cpos) (sBm mAppend so t) :=
  (pe_bm PySem.F.plainAttrs_list PySem.F.slot_list_append PySem.F.type_list_append mt_append ho ha hbase hfew hline hs hplain).weak fun _ _ _ h => bm_go pr_append h
theorem se_popAt (ho : SE X E o so) (ha : SA X E (e :: es) t) (hbase : attributeBase o "pop" X.env (eval o X.env) = eval o X.env := by rfl)
    (hfew : ((backTo cpos (starEach (e :: es) X.env)).all (fun x => !x.1) && (backToKw cpos (keywordEach [] X.env)).all (fun x => x.1.isSome) && decide ((e :: es).length + ([] : List Keyword).length + (if ([] : List Keyword).isEmpty then 0 else 1) < 30)) = true := by rfl)
    (hline : (apos.endLine == cpos.line) = true := by rfl) (hs : starEach (e :: es) X.env = (false, eval e X.env) :: starEach es X.env := by rfl) (hplain : (backTo cpos (starEach es X.env)).any (·.1) = false := by rfl) :
    SE X E (.Call (.Attribute o "pop" apos) (e :: es) [] cpos) (sBm mPopAt so t) :=
  (pe_bm PySem.F.plainAttrs_list PySem.F.slot_list_pop PySem.F.type_list_pop mt_popAt ho ha hbase hfew hline hs hplain).weak fun _ _ _ h => bm_go pr_popAt h
theorem se_index (ho : SE X E o so) (ha : SA X E (e :: es) t) (hbase : attributeBase o "index" X.env (eval o X.env) = eval o X.env := by rfl)
    (hfew : ((backTo cpos (starEach (e :: es) X.env)).all (fun x => !x.1) && (backToKw cpos (keywordEach [] X.env)).all (fun x => x.1.isSome) && decide ((e :: es).length + ([] : List Keyword).length + (if ([] : List Keyword).isEmpty then 0 else 1) < 30)) = true := by rfl)
    (hline : (apos.endLine == cpos.line) = true := by rfl) (hs : starEach (e :: es) X.env = (false, eval e X.env) :: starEach es X.env := by rfl) (hplain : (backTo cpos (starEach es X.env)).any (·.1) = false := by rfl) :
    SE X E (.Call (.Attribute o "index" apos) (e :: es) [] cpos) (sBm mIndex so t) :=
  (pe_bm PySem.F.plainAttrs_list PySem.F.slot_list_index PySem.F.type_list_index mt_index ho ha hbase hfew hline hs hplain).weak fun _ _ _ h => bm_go pr_index h
theorem se_pop (ho : SE X E o so) (hbase : attributeBase o "pop" X.env (eval o X.env) = eval o X.env := by rfl) (hline : (apos.endLine == cpos.line) = true := by rfl) :
    SE X E (.Call (.Attribute o "pop" apos) [] [] cpos) (sBm mPop so sNil) :=
  (pe_bm0 PySem.F.plainAttrs_list PySem.F.slot_list_pop PySem.F.type_list_pop mt_pop ho hbase hline).weak fun σ H Q h => by
    obtain ⟨F, G, al, en, st, R, p⟩ := bm_go pr_pop h
    refine ⟨F, G, al, en, st, R, p.imp fun w G1 al1 st1 H1 g rs q v rv => ?_⟩
    obtain ⟨ty, F2, G2, al2, en2, st2, R2, p2⟩ := q v rv
    exact ⟨ty, p2 G2 al2 _ (.refl _ _) R2.s [] .nil⟩
end
end Pd
end

section
set_option Elab.async false
set_option linter.all false
set_option autoImplicit false
set_option maxRecDepth 100000
/-! Pd: dicts whose keys are tuples of texts, numbers, None. -/
namespace Pd
open PySem L2 PySem.SeqAt
variable [Wd]

/-! ### the entries -/
abbrev R3 : List TE3 → List (List Leaf × Addr × Value) → Prop := Paired fun (p : TE3) (q : List Leaf × Addr × Value) => p.1 = q.1 ∧ p.2.1 = q.2.1 ∧ RelV p.2.2 q.2.2
def valT (kvs : List TE3) (k : List Leaf) : Option V := (kvs.find? fun e => decide (e.1 = k)).map (·.2.2)
def putT (kvs : List TE3) (k : List Leaf) (q : Addr) (v : V) : List TE3 :=
  if (kvs.any fun e => decide (e.1 = k)) = true then kvs.map (fun e => if e.1 = k then (e.1, e.2.1, v) else e) else kvs ++ [(k, q, v)]
theorem R3.val {kvs : List TE3} {xs : List (List Leaf × Addr × Value)} (r : R3 kvs xs) (k : List Leaf) : RelO (valT kvs k) ((atKey xs k).map (·.2)) := by
  induction r with
  | nil => exact True.intro
  | @cons p q ps qs h t ih =>
    obtain ⟨h1, _, h2⟩ := h
    unfold valT atKey
    rw [List.find?_cons, List.find?_cons, h1]
    by_cases e : q.1 = k
    · simp only [decide_eq_true e]; exact h2
    · simp only [decide_eq_false e]; exact ih
theorem R3.any {kvs : List TE3} {xs : List (List Leaf × Addr × Value)} (r : R3 kvs xs) (k : List Leaf) : (kvs.any fun e => decide (e.1 = k)) = (atKey xs k).isSome := by
  induction r with
  | nil => rfl
  | @cons p q ps qs h t ih =>
    rw [List.any_cons, ih, h.1]
    unfold atKey
    rw [List.find?_cons]
    by_cases e : q.1 = k
    · simp [e]
    · simp [e]
theorem R3.put {kvs : List TE3} {xs : List (List Leaf × Addr × Value)} (r : R3 kvs xs) (k : List Leaf) (q : Addr) {v : V} {u : Value} (rv : RelV v u) : R3 (putT kvs k q v) (storedH xs k q u) := by
  unfold putT storedH
  rw [r.any k]
  split
  · rename_i hh
    clear hh
    induction r with
    | nil => exact .nil
    | @cons p q ps qs h t ih =>
      rw [List.map_cons, List.map_cons]
      refine .cons ?_ ih
      unfold putAt
      by_cases e : q.1 = k
      · rw [if_pos e, if_pos (h.1.trans e)]; exact ⟨h.1, h.2.1, rv⟩
      · rw [if_neg e, if_neg (fun z => e (h.1.symm.trans z))]; exact h
  · exact Paired.snoc r ⟨rfl, rfl, rv⟩
theorem R3.length {kvs : List TE3} {xs : List (List Leaf × Addr × Value)} (r : R3 kvs xs) : kvs.length = xs.length := Paired.length r
theorem length_putT (kvs : List TE3) (k : List Leaf) (q : Addr) (v : V) : (putT kvs k q v).length ≤ kvs.length + 1 := by
  unfold putT; split <;> simp
theorem leaf_is {k : Leaf} {u : Value} (r : RelV (leafV k) u) : Leaf.isOf k u = true := by
  cases k with
  | none => cases (show u = Value.none from r); rfl
  | num i => obtain ⟨t, rfl⟩ := (show ∃ t, u = Value.int i t from r); exact decide_eq_true rfl
  | text x => obtain ⟨t, rfl⟩ := (show ∃ t, u = Value.str x t from r); exact keyIs_str x t
theorem leafs_are : ∀ {ks : List Leaf} {us : List Value}, Vals (ks.map leafV) us → ItemsAre (leafKind Wd.P Wd.w) ks us
  | [], _, r => by rw [List.map_nil] at r; cases r; exact .nil
  | k :: ks, _, r => by
    rw [List.map_cons] at r
    cases r with
    | cons h t => exact .cons (leaf_is h) (leafs_are t)

section
variable {X : Cx} {E : XK} {pins : List (Addr × Obj)} {σ : St} {H : Hp} {s : Shared} {a b : Addr} {kvs : List TE3} {ks : List Leaf}
/-- such a dict as it may be read -/
def DTG (H : Hp) (a : Addr) (kvs : List TE3) : Prop := H a = some (dTO a kvs) ∧ ∀ e ∈ kvs, H e.2.1 = some (.tup (e.1.map leafV))
theorem key_at (I : Inv X pins σ H s) (h : H b = some (.tup (ks.map leafV))) : tkn.is s.heap ks b := by
  obtain ⟨_, its, r, o, h1, h2, n, h3⟩ := (show ObjOk X.prog X.w H s.heap b (.tup (ks.map leafV)) from I.hok b _ h)
  exact ⟨o, its.toArray, n, h1, h2, h3, by simpa using leafs_are r⟩
theorem R3.all {P : List Leaf → Addr → Prop} {xs : List (List Leaf × Addr × Value)} (r : R3 kvs xs) (h : ∀ e ∈ kvs, P e.1 e.2.1) : ∀ x ∈ xs, P x.1 x.2.1 := by
  induction r with
  | nil => intro x hx; cases hx
  | @cons p q ps qs hh t ih =>
    intro x hx
    rcases List.mem_cons.mp hx with rfl | hx
    · have := h p List.mem_cons_self
      rw [← hh.1, ← hh.2.1]; exact this
    · exact ih (fun e he => h e (List.mem_cons_of_mem _ he)) x hx
theorem dit_at (I : Inv X pins σ H s) (g : DTG H a kvs) : kvs.length ≤ sizeLine ∧ (a == sysModules) = false ∧ ∃ xs, R3 kvs xs ∧ s.heap.DictOfH tkn a xs := by
  obtain ⟨⟨z, y, xs, r, o, es, ep, h1, h2, h3, h4, h5⟩, _⟩ := (show ObjOk X.prog X.w H s.heap a (dTO a kvs) from I.hok a _ g.1)
  exact ⟨z, y, xs, r, o, es, ep, h1, h2, h3, h4, R3.all (P := fun k q => tkn.is s.heap k q) r fun e he => key_at I (g.2 e he), h5⟩
theorem dTO_ok {P : Program} {w : World} {h : Heap} (x : DtAt a kvs h) : ObjOk P w H h a (dTO a kvs) := by
  refine ⟨x, ?_, fun h1 h2 hx hk => ?_⟩
  · obtain ⟨_, _, _, _, o, _, _, h1, _⟩ := x; exact ⟨o, h1⟩
  · obtain ⟨z, y, xs, r, o, es, ep, e1, e2⟩ := hx
    exact ⟨z, y, xs, r, o, es, ep, hk o e1, e2⟩
theorem t_in (hp : X.prog = Wd.P ∧ X.w = Wd.w) {A : Around} {E1 : Value → Shared → Prop} {Q : Value → Shared → Prop} (hu : A.units + 1 < cLine) (I : Inv X pins σ H s) (g : DTG H a kvs) (hk : H b = some (.tup (ks.map leafV))) (h : ∀ s', Inv X pins σ H s' → Q (.bool (valT kvs ks).isSome) s') :
    wpAny (model X.prog X.w) A (compareOp .In (.ref b) (.ref a)) Q E1 s := by
  obtain ⟨_, hd, xs, r, m⟩ := dit_at I g
  have kk := key_at I hk
  have e : (valT kvs ks).isSome = (atKey xs ks).isSome := by rw [(r.val ks).isSome_eq, Option.isSome_map]
  rw [e] at h
  have := wpAny_in_heap (prog := Wd.P) (w := Wd.w) (A := A) (E := E1) (Q := Q) (knd := tkn) hu kk hd m (h _ (I.tok _))
  rw [hp.1, hp.2]; exact this
theorem t_notIn (hp : X.prog = Wd.P ∧ X.w = Wd.w) {A : Around} {E1 : Value → Shared → Prop} {Q : Value → Shared → Prop} (hu : A.units + 1 < cLine) (I : Inv X pins σ H s) (g : DTG H a kvs) (hk : H b = some (.tup (ks.map leafV))) (h : ∀ s', Inv X pins σ H s' → Q (.bool (!(valT kvs ks).isSome)) s') :
    wpAny (model X.prog X.w) A (compareOp .NotIn (.ref b) (.ref a)) Q E1 s := by
  obtain ⟨_, hd, xs, r, m⟩ := dit_at I g
  have kk := key_at I hk
  have e : (valT kvs ks).isSome = (atKey xs ks).isSome := by rw [(r.val ks).isSome_eq, Option.isSome_map]
  rw [e] at h
  have n := notIn_keyed (prog := Wd.P) (w := Wd.w) (A := A) (E := E1) (Q := Q) (knd := tkn) (d := a) (a := b) (kvs := pairsH xs) (k := ks) hu kk hd ⟨xs, m, rfl⟩ (by
    rw [valueAt_pairsH, Option.isSome_map]; exact h _ (I.tok _))
  rw [hp.1, hp.2]; exact n
theorem t_get (hp : X.prog = Wd.P ∧ X.w = Wd.w) {A : Around} {E1 : Value → Shared → Prop} {Q : Value → Shared → Prop} {v : V} (hu : A.units + 1 < cLine) (I : Inv X pins σ H s) (g : DTG H a kvs) (hk : H b = some (.tup (ks.map leafV))) (hv : valT kvs ks = some v) (h : ∀ w' s', Inv X pins σ H s' → RelV v w' → Q w' s') :
    wpAny (model X.prog X.w) A (getItem (.ref a) (.ref b)) Q E1 s := by
  obtain ⟨_, hd, xs, r, m⟩ := dit_at I g
  have kk := key_at I hk
  have rv := r.val ks
  rw [hv] at rv
  cases e : atKey xs ks with
  | none => rw [e] at rv; exact rv.elim
  | some q =>
    rw [e] at rv
    have := wpAny_getItem_heap (prog := Wd.P) (w := Wd.w) (A := A) (E := E1) (Q := Q) (knd := tkn) hu kk m e (h q.2 _ (I.tok _) rv)
    rw [hp.1, hp.2]; exact this
theorem t_set (hp : X.prog = Wd.P ∧ X.w = Wd.w) {A : Around} {E1 : Value → Shared → Prop} {Q : Unit → Shared → Prop} {v : V} {u : Value} (hu : A.units + 1 < cLine) (I : Inv X pins σ H s) (g : DTG H a kvs) (hk : H b = some (.tup (ks.map leafV))) (rv : RelV v u) (hz : kvs.length < sizeLine)
    (h : ∀ s', Inv X pins σ (upd H a (dTO a (putT kvs ks b v))) s' → Q () s') : wpAny (model X.prog X.w) A (setItem (.ref a) (.ref b) u) Q E1 s := by
  obtain ⟨z, hd, xs, r, m⟩ := dit_at I g
  have kk := key_at I hk
  have := wpAny_setItem_heap (prog := Wd.P) (w := Wd.w) (A := A) (E := E1) (Q := Q) (knd := tkn) (v := u) hu kk m (fun h' m' hs => h _ (by
    obtain ⟨o, es, ep, e1, e2, e3, e4, e5, e6⟩ := m'
    refine I.write (o := dTO a (putT kvs ks b v)) (e := a) (by rw [g.1]; exact True.intro) (.inl rfl) (fun b' u' hb hu' => (hs.2 b' hb).trans hu') ⟨o, e1⟩ (dTO_ok ⟨Nat.le_trans (length_putT _ _ _ _) hz, hd, _, r.put ks b rv, o, es, ep, e1, e2, e3, e4, e6⟩))) (by rw [← r.length]; exact z)
  rw [hp.1, hp.2]; exact this

/-! ### semantic side -/
def leafOf : PyData → Option Leaf
  | .none => some .none
  | .int i => some (.num i)
  | .str x => some (.text x)
  | _ => none
def leafsOf : List PyData → Option (List Leaf)
  | [] => some []
  | d :: ds => match leafOf d, leafsOf ds with
    | some k, some ks => some (k :: ks)
    | _, _ => none
def tkOf : PyData → Option (List Leaf)
  | .tuple ds => leafsOf ds
  | _ => none
theorem leafOf_rp {G : Hp} {v : V} {d : PyData} {k : Leaf} (r : Rp G v d) (h : leafOf d = some k) : v = leafV k := by
  cases r <;> simp [leafOf] at h <;> subst h <;> rfl
theorem leafsOf_rp {G : Hp} : ∀ {xs : List V} {ds : List PyData} {ks : List Leaf}, Rps G xs ds → leafsOf ds = some ks → xs = ks.map leafV
  | _, _, _, .nil, h => by simp [leafsOf] at h; subst h; rfl
  | _, d :: ds, ks, .cons hd t, h => by
    unfold leafsOf at h
    split at h
    · rename_i k ks' h1 h2
      cases h
      rw [leafOf_rp hd h1, leafsOf_rp t h2]; rfl
    · cases h
theorem leafOf_D (k : Leaf) : leafOf (leafD k) = some k := by cases k <;> rfl
theorem leafsOf_D : ∀ ks : List Leaf, leafsOf (ks.map leafD) = some ks
  | [] => rfl
  | k :: ks => by rw [List.map_cons]; unfold leafsOf; rw [leafOf_D, leafsOf_D ks]
def tLook (kvs : List (PyData × PyData)) (k : List Leaf) : Option PyData := (kvs.find? fun kv => decide (tkOf kv.1 = some k)).map (·.2)
def tPut (kvs : List (PyData × PyData)) (k : List Leaf) (v : PyData) : List (PyData × PyData) :=
  if (kvs.any fun kv => decide (tkOf kv.1 = some k)) = true then kvs.map (fun kv => if tkOf kv.1 = some k then (kv.1, v) else kv) else kvs ++ [(.tuple (k.map leafD), v)]
theorem tkOf_D (ks : List Leaf) : tkOf (.tuple (ks.map leafD)) = some ks := leafsOf_D ks
theorem dec_tk {j k : List Leaf} : decide (tkOf (.tuple (j.map leafD)) = some k) = decide (j = k) := by
  rw [tkOf_D]
  by_cases h : j = k
  · simp [h]
  · have : ¬ some j = some k := fun z => h (Option.some.inj z)
    simp [h]
theorem Rtv.look {G : Hp} (k : List Leaf) : ∀ {kvs : List TE3} {ds : List (PyData × PyData)}, Rtv G kvs ds → match valT kvs k, tLook ds k with
    | some v, some d => Rp G v d
    | none, none => True
    | _, _ => False
  | _, _, .nil => trivial
  | _, _, .cons (ks := j) h g r => by
    unfold valT tLook
    rw [List.find?_cons, List.find?_cons, dec_tk]
    by_cases e : j = k
    · simp only [decide_eq_true e]; exact g
    · simp only [decide_eq_false e]; exact Rtv.look k r
theorem Rtv.isSome {G : Hp} {kvs : List TE3} {ds : List (PyData × PyData)} (k : List Leaf) (r : Rtv G kvs ds) : (valT kvs k).isSome = (tLook ds k).isSome := by
  have := r.look k
  cases h1 : valT kvs k <;> cases h2 : tLook ds k <;> rw [h1, h2] at this <;> first | rfl | exact this.elim
theorem Rtv.look_some {G : Hp} {kvs : List TE3} {ds : List (PyData × PyData)} {k : List Leaf} {d : PyData} (r : Rtv G kvs ds) (h : tLook ds k = some d) : ∃ v, valT kvs k = some v ∧ Rp G v d := by
  have := r.look k
  rw [h] at this
  cases e : valT kvs k with
  | none => rw [e] at this; exact this.elim
  | some v => rw [e] at this; exact ⟨v, rfl, this⟩
theorem Rtv.any {G : Hp} {k : List Leaf} : ∀ {kvs : List TE3} {ds : List (PyData × PyData)}, Rtv G kvs ds → (kvs.any fun e => decide (e.1 = k)) = ds.any fun kv => decide (tkOf kv.1 = some k)
  | _, _, .nil => rfl
  | _, _, .cons h g r => by rw [List.any_cons, List.any_cons, dec_tk, Rtv.any r]
theorem Rtv.repl {G : Hp} {k : List Leaf} {v : V} {d : PyData} (rv : Rp G v d) : ∀ {kvs : List TE3} {ds : List (PyData × PyData)}, Rtv G kvs ds → Rtv G (kvs.map fun e => if e.1 = k then (e.1, e.2.1, v) else e) (ds.map fun kv => if tkOf kv.1 = some k then (kv.1, d) else kv)
  | _, _, .nil => .nil
  | _, _, .cons (ks := j) h g r => by
    rw [List.map_cons, List.map_cons]
    by_cases e : j = k
    · have e' : tkOf (.tuple (j.map leafD)) = some k := by rw [tkOf_D, e]
      rw [if_pos e, if_pos e']
      exact .cons h rv (Rtv.repl rv r)
    · have e' : ¬ tkOf (.tuple (j.map leafD)) = some k := by rw [tkOf_D]; exact fun z => e (Option.some.inj z)
      rw [if_neg e, if_neg e']
      exact .cons h g (Rtv.repl rv r)
theorem Rtv.snoc {G : Hp} {k : List Leaf} {q : Addr} {v : V} {d : PyData} (hq : G q = some (.tup (k.map leafV))) (rv : Rp G v d) : ∀ {kvs : List TE3} {ds : List (PyData × PyData)}, Rtv G kvs ds → Rtv G (kvs ++ [(k, q, v)]) (ds ++ [(.tuple (k.map leafD), d)])
  | _, _, .nil => .cons hq rv .nil
  | _, _, .cons h g r => .cons h g (Rtv.snoc hq rv r)
theorem Rtv.put {G : Hp} {k : List Leaf} {q : Addr} {v : V} {d : PyData} {kvs : List TE3} {ds : List (PyData × PyData)} (r : Rtv G kvs ds) (hq : G q = some (.tup (k.map leafV))) (rv : Rp G v d) : Rtv G (putT kvs k q v) (tPut ds k d) := by
  unfold putT tPut
  rw [r.any]
  split
  · exact r.repl rv
  · exact r.snoc hq rv
theorem Rtv.length {G : Hp} {kvs : List TE3} {ds : List (PyData × PyData)} (r : Rtv G kvs ds) : kvs.length = ds.length := by
  induction ds generalizing kvs with
  | nil => cases r; rfl
  | cons d ds ih => cases r with | cons h g t => simp [ih t]
theorem Rtv.keys {G : Hp} {kvs : List TE3} {ds : List (PyData × PyData)} (r : Rtv G kvs ds) : ∀ e ∈ kvs, G e.2.1 = some (.tup (e.1.map leafV)) := by
  induction ds generalizing kvs with
  | nil => cases r; intro e he; cases he
  | cons d ds ih =>
    cases r with
    | cons h g t =>
      intro e he
      rcases List.mem_cons.mp he with rfl | he
      · exact h
      · exact ih t e he
theorem tup_of {G H : Hp} (s : Sam G H) {q : Addr} {xs : List V} (h : G q = some (.tup xs)) : H q = some (.tup xs) := by
  rcases s _ _ h with e | ⟨⟨_, e⟩, _⟩
  · exact e
  · cases e
/-- the entries of a dict with tuple keys -/
def ditOf (st : Sto) : W → Option (List (PyData × PyData))
  | .p (.dict ds) => if (ds.all fun kv => (tkOf kv.1).isSome) && !ds.isEmpty then some ds else none
  | .o n => match st[n]? with
    | some (.dit ds) => some ds
    | some (.frz (.dict ds)) => if (ds.all fun kv => (tkOf kv.1).isSome) && !ds.isEmpty then some ds else none
    | _ => none
  | _ => none
theorem rp_dit {F G : Hp} {v : V} {ds : List (PyData × PyData)} (s : Sam G H) (r : Rp G v (.dict ds)) (h : ((ds.all fun kv => (tkOf kv.1).isSome) && !ds.isEmpty) = true) : ∃ a kvs, v = .ref a ∧ DTG H a kvs ∧ Rtv G kvs ds := by
  cases r with
  | dic h1 r =>
    cases r with
    | nil => simp at h
    | cons h2 h3 =>
      rename_i k _ _ _ _
      cases k <;> simp [keyD, tkOf] at h
  | dit h1 z r =>
    refine ⟨_, _, rfl, ⟨?_, fun e he => tup_of s (r.keys e he)⟩, r⟩
    rcases s _ _ h1 with e | ⟨⟨_, e⟩, _⟩
    · exact e
    · cases e
theorem ditOf_ok {F G : Hp} {al : Al} {st : Sto} {v : V} {w : W} {ds : List (PyData × PyData)} (R : RelS (bx X F) G al st H) (r : Rw (bx X F) G al v w) (h : ditOf st w = some ds) : ∃ a kvs, v = .ref a ∧ DTG H a kvs ∧ Rtv G kvs ds := by
  unfold ditOf at h
  split at h
  · split at h
    · rename_i hh; cases h; exact rp_dit (F := F) R.sam r hh
    · cases h
  · rename_i n
    obtain ⟨a, ha, rfl⟩ := r
    split at h
    · rename_i ds' hc
      cases h
      obtain ⟨g0, kvs, e1, rr⟩ := R.cel n a _ ha hc
      exact ⟨a, kvs, rfl, ⟨e1, fun e he => tup_of R.sam (rr.keys e he)⟩, rr⟩
    · rename_i ds' hc
      split at h
      · rename_i hh
        cases h
        exact rp_dit (F := F) R.sam (R.cel n a _ ha hc) hh
      · cases h
    · cases h
  · cases h
/-- a tuple as a key -/
def tkW : W → Option (List Leaf)
  | .p j => tkOf j
  | _ => none
theorem tkW_ok {F G : Hp} {al : Al} {v : V} {w : W} {k : List Leaf} (r : Rw (bx X F) G al v w) (h : tkW w = some k) : ∃ b, v = .ref b ∧ G b = some (.tup (k.map leafV)) := by
  cases w with
  | o n => cases h
  | s ns => cases h
  | p j =>
    cases r with
    | tup h1 z r => rw [leafsOf_rp r h] at h1; exact ⟨_, rfl, h1⟩
    | _ => simp [tkW, tkOf] at h
def oInT (neg : Bool) : Op2 := fun w u st => match tkW w, ditOf st u with
  | some k, some ds => retB (if neg then !(tLook ds k).isSome else (tLook ds k).isSome) st
  | _, _ => .bad
def rInT (neg : Bool) : R2 := fun x y H Q => (Wd.P = Wd.P) ∧ ∃ a b kvs k, y = .ref a ∧ x = .ref b ∧ DTG H a kvs ∧ H b = some (.tup (k.map leafV)) ∧ Q (.bl (if neg then !(valT kvs k).isSome else (valT kvs k).isSome)) H
theorem op_inT (hp : X.prog = Wd.P ∧ X.w = Wd.w) (hu : X.A.units + 64 < cLine) : OpR X (compareOp .In) (rInT false) := by
  intro pins s σ H x y v u Q I rx ry h
  obtain ⟨_, a, b, kvs, k, rfl, rfl, g, hk, q⟩ := h
  cases rx; cases ry
  exact t_in hp (by omega) I g hk fun s' I' => ⟨.bl _, H, I', rfl, q⟩
theorem op_notInT (hp : X.prog = Wd.P ∧ X.w = Wd.w) (hu : X.A.units + 64 < cLine) : OpR X (compareOp .NotIn) (rInT true) := by
  intro pins s σ H x y v u Q I rx ry h
  obtain ⟨_, a, b, kvs, k, rfl, rfl, g, hk, q⟩ := h
  cases rx; cases ry
  exact t_notIn hp (by omega) I g hk fun s' I' => ⟨.bl _, H, I', rfl, q⟩
theorem pr_inT (neg : Bool) : Prim2 (bx X) E (oInT neg) (rInT neg) := by
  intro F G al st H x y w u Q R rx ry p
  unfold oInT at p
  split at p
  · rename_i k ds hk hd
    obtain ⟨b, rfl, hb⟩ := tkW_ok rx hk
    obtain ⟨a, kvs, rfl, g, r⟩ := ditOf_ok R ry hd
    exact ⟨rfl, a, b, kvs, k, rfl, rfl, g, tup_of R.sam hb, by rw [r.isSome k]; exact retB_ok R p⟩
  · exact p.elim
def oIxT : Op2 := fun w u st => match ditOf st w, tkW u with
  | some ds, some k => match tLook ds k with
    | some d => .ok (.p d) st
    | none => .bad
  | _, _ => .bad
def rIxT2 : R2 := fun x y H Q => ∃ a b kvs k v, x = .ref a ∧ y = .ref b ∧ DTG H a kvs ∧ H b = some (.tup (k.map leafV)) ∧ valT kvs k = some v ∧ Q v H
theorem ix_dit (hp : X.prog = Wd.P ∧ X.w = Wd.w) (hu : X.A.units + 64 < cLine) : IxR X rIxT2 := by
  intro value slice pins s σ H x y v u Q I rx ry h hs
  obtain ⟨a, b, kvs, k, z, rfl, rfl, g, hk, hv, q⟩ := h
  cases rx; cases ry
  obtain ⟨_, _, xs, _, m⟩ := dit_at I g
  exact PyProof.Rows.tail_any m.typeIs PySem.F.slot_dict_getitem.lookup (t_get hp (by omega) I g hk hv fun w' s3 I3 rw' => ⟨z, H, I3, rw', q⟩) hs
theorem pr_ixT : Prim2 (bx X) E oIxT rIxT2 := by
  intro F G al st H x y w u Q R rx ry p
  unfold oIxT at p
  split at p
  · rename_i ds k hd hk
    obtain ⟨b, rfl, hb⟩ := tkW_ok ry hk
    obtain ⟨a, kvs, rfl, g, r⟩ := ditOf_ok R rx hd
    split at p
    · rename_i d hl
      obtain ⟨v, h1, h2⟩ := r.look_some hl
      exact ⟨a, b, kvs, k, v, rfl, rfl, g, tup_of R.sam hb, h1, p G al H (.refl _ _) R _ h2⟩
    · exact p.elim
  · exact p.elim
variable {p pos pos' : Pos} {o i value e1 e2 : Expr} {so si sv sa sb : SemE}
theorem se_ixT (hp : X.prog = Wd.P ∧ X.w = Wd.w) (hu : X.A.units + 64 < cLine) (ha : SE X E e1 sa) (hb : SE X E e2 sb) (hs : PlainIx e2 := by intro _ _; rfl) : SE X E (.Subscript e1 e2 pos) (sB oIxT sa sb) :=
  (pe_ix (ix_dit hp hu) ha hb hs).weak fun _ _ _ h => tD_two pr_ixT h

/-! ### d[k] = v -/
def oPutT (w u v : W) (st : Sto) : Option Sto := match w, v with
  | .o n, .p d => match st[n]?, tkW u with
    | some (.dit kvs), some k => if kvs.length < sizeLine then some (st.set n (.dit (tPut kvs k d))) else none
    | _, _ => none
  | _, _ => none
def rPutT : V → V → V → Hp → (Hp → Prop) → Prop := fun x y v H Q => ∃ a b kvs k, x = .ref a ∧ y = .ref b ∧ DTG H a kvs ∧ H b = some (.tup (k.map leafV)) ∧ kvs.length < sizeLine ∧ Q (upd H a (dTO a (putT kvs k b v)))
theorem set_dit (hp : X.prog = Wd.P ∧ X.w = Wd.w) (hu : X.A.units + 64 < cLine) : PSet X rPutT := by
  intro pins s σ H x y v ov iv u Q I rx ry rv h
  obtain ⟨a, b, kvs, k, rfl, rfl, g, hk, hz, q⟩ := h
  cases rx; cases ry
  exact t_set hp (by omega) I g hk rv hz fun s' I' => ⟨_, I', q⟩
def sPutT (so si sv : SemE) : SemS := fun en st => (sv en st).bind fun v st => (so en st).bind fun w st => (si en st).bind fun u st => match oPutT w u v st with
  | some st' => .ok (.nx en) st'
  | none => .bad
theorem oPutT_ok {F G : Hp} {al : Al} {st st' : Sto} {x y z : V} {w u v : W} (R : RelS (bx X F) G al st H) (rx : Rw (bx X F) G al x w) (ry : Rw (bx X F) G al y u) (rz : Rw (bx X F) G al z v) (h : oPutT w u v st = some st') :
    ∃ a b kvs k, x = .ref a ∧ y = .ref b ∧ DTG H a kvs ∧ H b = some (.tup (k.map leafV)) ∧ kvs.length < sizeLine ∧ RelS (bx X F) G al st' (upd H a (dTO a (putT kvs k b z))) := by
  unfold oPutT at h
  split at h
  · rename_i n d
    obtain ⟨a, ha, rfl⟩ := rx
    split at h
    · rename_i ds k hc hk
      split at h
      · rename_i hl
        cases h
        obtain ⟨b, rfl, hb⟩ := tkW_ok ry hk
        obtain ⟨g0, kvs, e1, rr⟩ := R.cel n a _ ha hc
        exact ⟨a, b, kvs, k, rfl, rfl, ⟨e1, fun e he => tup_of R.sam (rr.keys e he)⟩, tup_of R.sam hb, by rw [rr.length]; exact hl, R.write ha g0 ⟨g0, _, upd_same, rr.put hb rz⟩⟩
      · cases h
    · cases h
  · cases h
theorem ss_putT (hp : X.prog = Wd.P ∧ X.w = Wd.w) (hu : X.A.units + 64 < cLine) (ho : SE X E o so) (hi : SE X E i si) (hv : SE X E value sv) (hs : swapsWithSole [.Subscript o i pos'] value pos.line X.env = pure false := by rfl)
    (hw : swappedStores [.Subscript o i pos'] value X.env = pure none := by rfl) (h1 : (assignEach [.Subscript o i pos'] X.env).map (·.2) = [assign (.Subscript o i pos') X.env] := by rfl)
    (ha : ∀ v, assign (.Subscript o i pos') X.env v = (do
      let ov ← holding [v] (eval o X.env)
      let iv ← holding [v, ov] (eval i X.env)
      standAt pos'
      holding [v, ov, iv] (setItem ov iv v)
      release [v, ov, iv] []) := by intro _; rfl) : SS X E (.Assign [.Subscript o i pos'] value pos) (sPutT so si sv) :=
  (ps_asg hv (pg_sub ho hi (set_dit hp hu) ha) hs hw h1).weak fun D σ H ⟨F, G, al, en, st, R, p⟩ => by
    refine tD_bind (sa := sv) (k := fun v en st => (so en st).bind fun w st => (si en st).bind fun u st => match oPutT w u v st with
      | some st' => Res.ok (Fl.nx en) st'
      | none => .bad) (Q := PF (bx X F) D) R p fun z H1 G1 al1 st1 v R1 r1 p1 _ => ?_
    refine tD_bind (sa := so) (k := fun w en st => (si en st).bind fun u st => match oPutT w u v st with
      | some st' => Res.ok (Fl.nx en) st'
      | none => .bad) (Q := PF (bx X F) D) R1 p1 fun y H2 G2 al2 st2 w R2 r2 p2 g2 => ?_
    refine tD_bind (sa := si) (k := fun u en st => match oPutT w u v st with
      | some st' => Res.ok (Fl.nx en) st'
      | none => .bad) (Q := PF (bx X F) D) R2 p2 fun y3 H3 G3 al3 st3 u R3 r3 p3 g3 => ?_
    cases ho' : oPutT w u v st3 with
    | none => rw [ho'] at p3; exact p3.elim
    | some st' =>
      rw [ho'] at p3
      obtain ⟨a, b, kvs, k, e1, e2, dg, hb, hl, R4⟩ := oPutT_ok R3.s (r2.gr g3) r3 (r1.gr (g2.trans g3)) ho'
      exact ⟨a, b, kvs, k, e1, e2, dg, hb, hl, p3 G3 al3 _ (.refl _ _) R4 σ (EnvOk.of R3)⟩
/-- {} whose keys will be tuples -/
def sDictT : SemE := fun _ st => .ok (.o st.length) (st ++ [.dit []])
theorem pe_dnewX : PE X (.Dict [] [] pos) (fun _ H Q => ∀ p, H p = none → Q (.ref p) (upd H p (dTO p []))) := ⟨fun pins s σ H Q I h => by
  refine wpAny_Dict_empty ?_
  have hf : H s.heap.objs.size = none := I.hok.fresh (Nat.le_refl _)
  refine ⟨.ref s.heap.objs.size, _, I.laid (t' := s.toks) (o := dTO s.heap.objs.size []) (fun b u e => Heap.get?_push_of_some _ e) (Nat.le_refl _) ?_, rfl, h _ hf⟩
  have hb := I.big
  refine dTO_ok ⟨Nat.zero_le _, ?_, [], .nil, _, #[], 0, Heap.get?_push_size _ rfl, ⟨rfl, rfl, rfl⟩, rfl, rfl, List.nodup_nil⟩
  exact beq_eq_false_iff_ne.mpr fun z => absurd hb (by rw [z]; exact Nat.lt_irrefl _)⟩
theorem se_dictT : SE X E (.Dict [] [] pos) sDictT := pe_dnewX.weak fun σ H Q ⟨F, G, al, en, st, R, p⟩ => fun q hq => by
  obtain ⟨g, R'⟩ := R.s.open (u := dTO q []) (c := .dit []) hq ⟨(R.s.free hq).1, [], upd_same, .nil⟩
  exact p G _ _ g R' _ ⟨q, by rw [← R.s.len]; exact List.getElem?_concat_length, rfl⟩
end
end Pd
end

section
set_option Elab.async false
set_option linter.all false
set_option autoImplicit false
set_option maxRecDepth 100000
/-! Pd: closing an open value, + to an open list, sorted, displays of dicts with written keys. -/
namespace Pd
open PySem L2 PySem.SeqAt PySem.W
variable [Wd]
section
variable {X : Cx} {E : XK} {x : Str} {p pos : Pos} {e o i value a b : Expr} {es : List Expr} {t : SemA} {s so si sv sa sb : SemE}

/-! ### closing -/
/-- a record of plain values, as a dict -/
def plainR : List (Str × W) → Option (List (PyData × PyData))
  | [] => some []
  | (k, .p d) :: r => (plainR r).map ((.str k, d) :: ·)
  | _ => none
theorem rcd_plain {B : Bx} {G : Hp} {al : Al} : ∀ {xs : List (Key × V)} {kvs : List (Str × W)} {ds : List (PyData × PyData)}, Rrs B G al xs kvs → plainR kvs = some ds → Rkv G xs ds
  | _, _, _, .nil, h => by simp [plainR] at h; subst h; exact .nil
  | _, _, ds, .cons (a := (j, v)) (b := (k, w)) hr t, h => by
    obtain ⟨h1, h2⟩ := hr
    simp only at h1 h2
    subst h1
    cases w with
    | o n => simp [plainR] at h
    | s n => simp [plainR] at h
    | p d =>
      simp only [plainR, Option.map_eq_some_iff] at h
      obtain ⟨es, h3, rfl⟩ := h
      exact .cons (k := .inr k) h2 (rcd_plain t h3)
def frzW (w : W) (st : Sto) : Res W := match w with
  | .p d => .ok (.p d) st
  | .s _ => .bad
  | .o n => match st[n]? with
    | some (.lst ds) => .ok (.p (.list ds)) (st.set n (.frz (.list ds)))
    | some (.dic ds) => .ok (.p (.dict ds)) (st.set n (.frz (.dict ds)))
    | some (.dit ds) => if ds.isEmpty then .bad else .ok (.p (.dict ds)) (st.set n (.frz (.dict ds)))
    | some (.rcd kvs) => match plainR kvs with
      | some ds => .ok (.p (.dict ds)) (st.set n (.frz (.dict ds)))
      | none => .bad
    | some (.frz d) => .ok (.p d) st
    | _ => .bad
def sFrz (s : SemE) : SemE := fun en st => (s en st).bind frzW
/-- a value that may be locked at its end -/
def tFz (t : TE) : TE := fun σ H Q => t σ H fun v H' => Q v H' ∨ ∃ d u, H' d = some u ∧ Mut (some u) ∧ ∀ od, Q v (upd H' d (.frz od u))
theorem pe_fz {t : TE} (h : PE X e t) : PE X e (tFz t) := ⟨fun pins s σ H Q I q => thn (h.run pins s σ H _ I q) fun v s1 ⟨x, H1, I1, r1, q1⟩ => by
  rcases q1 with q1 | ⟨d, u, hd, mu, q1⟩
  · exact ⟨x, H1, I1, r1, q1⟩
  · obtain ⟨od, I2⟩ := I1.lock hd mu
    exact ⟨x, _, I2, r1, q1 od⟩⟩
theorem se_frz (h : SE X E e s) : SE X E e (sFrz s) := (pe_fz h).weak fun σ H Q ⟨F, G, al, en, st, R, p⟩ =>
  tD_bind (sa := s) (k := fun w _ st => frzW w st) R p fun v H1 G1 al1 st1 w R1 r1 p1 _ => by
    unfold frzW at p1
    split at p1
    · exact .inl (p1 G1 al1 H1 (.refl _ _) R1.s _ r1)
    · exact p1.elim
    · rename_i n
      obtain ⟨q, ha, rfl⟩ := r1
      split at p1
      · rename_i ds hc
        obtain ⟨g0, xs, e1, z, rr⟩ := R1.s.cel n q _ ha hc
        have hd : Rp (upd G1 q (.lst xs)) (.ref q) (.list ds) := .lst upd_same z (rr.sub (Sub.upd g0))
        obtain ⟨g, R2⟩ := R1.s.freeze ha g0 e1 hd
        exact .inl (p1 _ al1 H1 g R2 _ hd)
      · rename_i ds hc
        obtain ⟨g0, xs, e1, rr⟩ := R1.s.cel n q _ ha hc
        refine .inr ⟨q, .dK xs, e1, trivial, fun od => ?_⟩
        have hd : Rp (upd G1 q (.frz od (.dK xs))) (.ref q) (.dict ds) := .dic upd_same (rr.sub (Sub.upd g0))
        obtain ⟨g, R2⟩ := R1.s.lockd ha g0 hd
        exact p1 _ al1 _ g R2 _ hd
      · rename_i ds hc
        split at p1
        · exact p1.elim
        · rename_i he
          obtain ⟨g0, xs, e1, rr⟩ := R1.s.cel n q _ ha hc
          have hd : Rp (upd G1 q (dTO q xs)) (.ref q) (.dict ds) := .dit upd_same (fun z => by
            subst z
            cases rr
            exact he rfl) (rr.sub (Sub.upd g0))
          obtain ⟨g, R2⟩ := R1.s.freeze ha g0 e1 hd
          exact .inl (p1 _ al1 H1 g R2 _ hd)
      · rename_i kvs hc
        split at p1
        · rename_i ds hw
          obtain ⟨g0, xs, e1, rr⟩ := R1.s.cel n q _ ha hc
          refine .inr ⟨q, .dK xs, e1, trivial, fun od => ?_⟩
          have hd : Rp (upd G1 q (.frz od (.dK xs))) (.ref q) (.dict ds) := .dic upd_same ((rcd_plain rr hw).sub (Sub.upd g0))
          obtain ⟨g, R2⟩ := R1.s.lockd ha g0 hd
          exact p1 _ al1 _ g R2 _ hd
        · exact p1.elim
      · rename_i d hc
        exact .inl (p1 G1 al1 H1 (.refl _ _) R1.s _ (R1.s.cel n q _ ha hc))
      · exact p1.elim

/-! ### xs + ys, open -/
def oAddO : Op2 := fun w u st => match val st w, val st u with
  | some (.list xs), some (.list ys) => mkO (xs ++ ys) st
  | _, _ => .bad
theorem pr_addO : Prim2 (bx X) E oAddO rCat := by
  intro F G al st H x y w u Q R rx ry p
  unfold oAddO at p
  split at p
  · rename_i ds es e1 e2
    cases val_rv R rx e1 with
    | lst h1 z1 r1 =>
      cases val_rv R ry e2 with
      | lst h2 z2 r2 =>
        obtain ⟨z, q⟩ := mkO_ok R (r1.append r2) p
        exact ⟨_, _, _, _, rfl, rfl, h1, h2, by rw [← List.length_append]; exact z, q⟩
  · exact p.elim

/-! ### sorted -/
def neTup : PyData → Bool
  | .tuple (_ :: _) => true
  | _ => false
def ntNone : PyData → Bool
  | .tuple _ => false
  | .none => false
  | _ => true
/-- these may be sorted -/
def srtOk (ds : List PyData) : Bool := (ds.all fun d => ds.all fun d' => alike d d') && (ds.all neTup || ds.all ntNone) && (ds.all okD) && decide (ds.length ≤ sizeLine)
/-- the sorted list -/
def srt (ds : List PyData) : List PyData := ds.mergeSort (dataLe false id)
def cSorted (mk : Mk1) : OpC := fun ws st => match ws with
  | [w] => match val st w with
    | some (.list ds) => if srtOk ds = true then mk (srt ds) st else .bad
    | _ => .bad
  | _ => .bad
theorem each_of {α β : Type} {R : α → β → Prop} : ∀ {xs : List α} {ys : List β}, Paired R xs ys → EachIs R xs ys
  | _, _, .nil => .nil
  | _, _, .cons h t => .cons h (each_of t)
theorem zip_rps {G : Hp} : ∀ {xs : List V} {ds : List PyData}, Rps G xs ds → (xs.zip ds).map Prod.fst = xs ∧ (xs.zip ds).map Prod.snd = ds ∧ ∀ b ∈ xs.zip ds, Rp G b.1 b.2
  | _, _, .nil => ⟨rfl, rfl, fun _ h => by cases h⟩
  | _, _, .cons h t => by
    obtain ⟨h1, h2, h3⟩ := zip_rps t
    refine ⟨by rw [List.zip_cons_cons, List.map_cons, h1], by rw [List.zip_cons_cons, List.map_cons, h2], fun b hb => ?_⟩
    rw [List.zip_cons_cons] at hb
    rcases List.mem_cons.mp hb with rfl | hb
    · exact h
    · exact h3 b hb
theorem rps_zip {G : Hp} : ∀ {bs : List (V × PyData)}, (∀ b ∈ bs, Rp G b.1 b.2) → Rps G (bs.map Prod.fst) (bs.map Prod.snd)
  | [], _ => .nil
  | b :: bs, h => .cons (h b List.mem_cons_self) (rps_zip fun c hc => h c (List.mem_cons_of_mem _ hc))
theorem each_vals : ∀ {out : List Value} {bs : List (V × PyData)}, EachIs (fun v (b : V × PyData) => RelV b.1 v) out bs → Vals (bs.map Prod.fst) out
  | _, _, .nil => .nil
  | _, _, .cons h t => .cons h (each_vals t)
theorem each_bs {its : List Value} : ∀ {bs : List (V × PyData)}, Vals (bs.map Prod.fst) its → EachIs (fun v (b : V × PyData) => RelV b.1 v) its bs := by
  induction its with
  | nil => intro bs h; cases bs with | nil => exact .nil | cons b bs => cases h
  | cons v vs ih => intro bs h; cases bs with | nil => cases h | cons b bs => cases h with | cons h t => exact .cons h (ih t)
theorem EachIs.weaken {α β : Type} {R S : α → β → Prop} : ∀ {as : List α} {bs : List β}, EachIs R as bs → (∀ a b, b ∈ bs → R a b → S a b) → EachIs S as bs
  | _, _, .nil, _ => .nil
  | _, _, .cons h t, k => .cons (k _ _ List.mem_cons_self h) (EachIs.weaken t fun a b hb => k a b (List.mem_cons_of_mem _ hb))
/-- sorted(xs) by values: xs any list whose items may be compared -/
def rSortD (K : PySem.W.Frag) : List V → Hp → VK → Prop := fun xs H Q => ∃ (q : Addr) (bs : List (V × PyData)), xs = [.ref q] ∧ SqL K H q (bs.map Prod.fst) ∧ srtOk (bs.map Prod.snd) = true ∧ (∀ b ∈ bs, Dp K H b.1 b.2) ∧
  ∀ l, H l = none → Q (.ref l) (upd H l (.lst ((bs.mergeSort (dataLe false Prod.snd)).map Prod.fst)))
theorem srt_parts {ds : List PyData} (h : srtOk ds = true) : AllAlike ds ∧ Sortable ds ∧ (∀ d ∈ ds, okD d = true) ∧ ds.length ≤ sizeLine := by
  unfold srtOk at h
  simp only [Bool.and_eq_true, Bool.or_eq_true, List.all_eq_true, decide_eq_true_eq] at h
  obtain ⟨⟨⟨h1, h2⟩, h3⟩, h4⟩ := h
  refine ⟨fun d hd d' hd' => h1 d hd d' hd', ?_, h3, h4⟩
  rcases h2 with h2 | h2
  · refine .inl fun d hd => ?_
    have := h2 d hd
    cases d with
    | tuple ys => cases ys with
      | nil => simp [neTup] at this
      | cons y ys => exact ⟨y, ys, rfl⟩
    | _ => simp [neTup] at this
  · refine .inr fun d hd => ?_
    have := h2 d hd
    cases d <;> simp [ntNone] at this <;> exact ⟨(fun e => by cases e), fun _ e => by cases e⟩
theorem call_sortD (hu : X.A.units + 64 < cLine) : CallR X (.builtin "sorted") (rSortD X.K) := by
  intro pins s σ H xs us Q I r h
  obtain ⟨q, bs, rfl, hq, hs, hb, k⟩ := h
  rw [Vals.ref1 r]
  obtain ⟨its, rv, pl, hz⟩ := I.list hq
  obtain ⟨h1, h2, h3, h4⟩ := srt_parts hs
  have eb := each_bs rv
  refine sorted_data (vs := its) (bs := bs) (enc := Prod.snd) (R := fun v (b : V × PyData) => RelV b.1 v) pl.isList eb (EachIs.weaken eb fun v b hbm hr => Dp.reads I b.2 b.1 v (hb b hbm) hr) h1 h2 (by simpa using h4) (fun b hbm => ?_) fun out hl ho => ?_
  · have := h3 b.2 (List.mem_map_of_mem hbm)
    have := of_decide_eq_true (Bool.and_eq_true_iff.mp this).2
    omega
  · obtain ⟨ep, he'⟩ := PyProof.Rows.sortedAll_at s.heap its out.toArray
    have hv := each_vals ho
    have hlen : ((bs.mergeSort (dataLe false Prod.snd)).map Prod.fst).length ≤ sizeLine := by
      rw [List.length_map, List.length_mergeSort]; simpa using h4
    exact ⟨.ref _, upd H (s.heap.objs.size + 1) (.lst ((bs.mergeSort (dataLe false Prod.snd)).map Prod.fst)), I.laid (t' := s.toks) (fun _ _ => PyProof.Rows.sortedAll_old) (Nat.le_succ _) ⟨hlen, out, ep, hv, he'⟩, rfl, k _ (I.hok.fresh (Nat.le_succ _))⟩
theorem map_srt (bs : List (V × PyData)) : (bs.mergeSort (dataLe false Prod.snd)).map Prod.snd = srt (bs.map Prod.snd) := by
  unfold srt
  exact List.map_mergeSort fun a _ b _ => rfl
theorem pr_sorted {mk : Mk1} (hk : MkLOk X E mk) : PrimC (bx X) E (cSorted mk) (rSortD X.K) := by
  intro F G al st H xs ws Q R r p
  unfold cSorted at p
  split at p
  · rename_i w
    obtain ⟨v, rfl, rv⟩ := one_arg r
    split at p
    · rename_i ds e1
      split at p
      · rename_i hs
        cases val_rv R rv e1 with
        | lst h z r2 =>
          rename_i q ys
          obtain ⟨z1, z2, z3⟩ := zip_rps r2
          refine ⟨q, ys.zip ds, rfl, by rw [z1]; exact SqL.of h, by rw [z2]; exact hs, fun b hb => ?_, ?_⟩
          · have hm : b.2 ∈ ds := by rw [← z2]; exact List.mem_map_of_mem hb
            exact Rp.dp R.sam (z3 b hb) (Bool.and_eq_true_iff.mp ((srt_parts hs).2.2.1 b.2 hm)).1
          · have hr : Rps G ((ys.zip ds).mergeSort (dataLe false Prod.snd) |>.map Prod.fst) (srt ds) := by
              have e := map_srt (ys.zip ds)
              rw [z2] at e
              rw [← e]
              exact rps_zip fun b hb => z3 b ((List.mergeSort_perm _ _).mem_iff.mp hb)
            exact (hk R hr p).2
      · exact p.elim
    · exact p.elim
  · exact p.elim
end
end Pd
end

section
set_option Elab.async false
set_option linter.all false
set_option autoImplicit false
set_option maxRecDepth 100000
/-! Pd: sets told by the list of their keys. -/
namespace Pd
open PySem L2 PySem.Spec PyProof.Rows PySem.W

theorem each_perm {α β : Type} {R : α → β → Prop} {l l' : List α} (p : l.Perm l') : ∀ {ms : List β}, EachIs R l ms → ∃ ns, ns.Perm ms ∧ EachIs R l' ns := by
  induction p with
  | nil => intro ms e; exact ⟨ms, .refl _, e⟩
  | cons x _ ih =>
    intro ms e
    cases e with
    | cons h t => obtain ⟨ns, p1, e1⟩ := ih t; exact ⟨_, p1.cons _, .cons h e1⟩
  | swap x y l =>
    intro ms e
    cases e with
    | cons h t => cases t with | cons h2 t2 => exact ⟨_, List.Perm.swap _ _ _, .cons h2 (.cons h t2)⟩
  | trans _ _ ih1 ih2 =>
    intro ms e
    obtain ⟨n1, p1, e1⟩ := ih1 e
    obtain ⟨n2, p2, e2⟩ := ih2 e1
    exact ⟨n2, p2.trans p1, e2⟩

section
variable {P : Program} {w : World} {K : Type} [DecidableEq K] (knd : KeyKind P w K)
/-- an entry and its key -/
def EntOf (e : Int × Value) (k : K) : Prop := knd.is k e.2 = true ∧ e.1 = knd.hash k ∧ e.2.scannable = true
def KeysIn (l : List (Int × Value)) (ks : List K) : Prop := ∃ ms, ms.Perm ks ∧ EachIs (EntOf knd) l ms
structure TabGd (w : World) (es : Array (Int × Value)) (t : SetTable) (ks : List K) : Prop where
  key : KeysIn knd es.toList ks
  nod : ks.Nodup
  few : ks.length < scanBound
  fit : t.fits es.size = true
  ris : Ris t.place.toList
  led : w.params.followText "set-order" = true ∨ t.led = true
def SetX (h : Heap) (a : Addr) (ks : List K) : Prop := ∃ o es ep t, h.get? a = some o ∧ o.ExactSet ∧ o.data = .set es ep t ∧ TabGd knd w es t ks
def ins (ks : List K) (k : K) : List K := if k ∈ ks then ks else k :: ks
variable {knd} {es : Array (Int × Value)} {t : SetTable} {ks : List K} {k : K} {h h' : Heap} {a : Addr}

theorem KeysIn.size (g : KeysIn knd es.toList ks) : es.size = ks.length := by
  obtain ⟨ms, p, e⟩ := g
  rw [← Array.length_toList, e.length, p.length_eq]
theorem each_elems : ∀ {l : List (Int × Value)} {ms : List K}, EachIs (EntOf knd) l ms → ElemsOf knd l
  | _, _, .nil, e, he => by cases he
  | _, _, .cons q t, e, he => by
    rcases List.mem_cons.mp he with rfl | he
    · exact ⟨⟨_, q.1, q.2.1⟩, q.2.2⟩
    · exact each_elems t e he
theorem KeysIn.elems {l : List (Int × Value)} (g : KeysIn knd l ks) : ElemsOf knd l := let ⟨_, _, e⟩ := g; each_elems e
theorem each_has : ∀ {l : List (Int × Value)} {ms : List K}, EachIs (EntOf knd) l ms → ∀ k, k ∈ ms ↔ ∃ e ∈ l, knd.is k e.2 = true
  | _, _, .nil, k => by simp
  | _, _, .cons (a := e0) (b := m) q t, k => by
    rw [List.mem_cons, each_has t k]
    constructor
    · rintro (rfl | ⟨e, he, q2⟩)
      · exact ⟨e0, List.mem_cons_self, q.1⟩
      · exact ⟨e, List.mem_cons_of_mem _ he, q2⟩
    · rintro ⟨e, he, q2⟩
      rcases List.mem_cons.mp he with rfl | he
      · exact .inl (knd.inj e.2 k m q2 q.1)
      · exact .inr ⟨e, he, q2⟩
theorem KeysIn.has {l : List (Int × Value)} (g : KeysIn knd l ks) (k : K) : k ∈ ks ↔ ∃ e ∈ l, knd.is k e.2 = true := by
  obtain ⟨ms, p, e⟩ := g
  rw [← p.mem_iff]; exact each_has e k
theorem KeysIn.perm {l l' : List (Int × Value)} (g : KeysIn knd l ks) (p : l.Perm l') : KeysIn knd l' ks := by
  obtain ⟨ms, q, e⟩ := g
  obtain ⟨ns, q2, e2⟩ := each_perm p e
  exact ⟨ns, q2.trans q, e2⟩
theorem TabGd.lay {x : Value} (g : TabGd knd w es t ks) (hk : knd.is k x = true) (hx : x.scannable = true) (hn : k ∉ ks) (room : ks.length + 1 < scanBound) :
    TabGd knd w (layNew t es (knd.hash k) x).1 (layNew t es (knd.hash k) x).2.1 (k :: ks) where
  key := by
    have p := layNew_perm t es (knd.hash k) x
    rw [Array.toList_push] at p
    obtain ⟨ms, q, e⟩ := g.key
    have e2 : EachIs (EntOf knd) ((knd.hash k, x) :: es.toList) (k :: ms) := .cons ⟨hk, rfl, hx⟩ e
    exact KeysIn.perm ⟨_, q.cons k, e2⟩ ((List.perm_append_singleton _ _).symm.trans p.symm)
  nod := List.nodup_cons.mpr ⟨hn, g.nod⟩
  few := room
  fit := layNew_fits t es (knd.hash k) x
  ris := layNew_ris t es (knd.hash k) x g.ris
  led := g.led.imp id fun z => by rw [layNew_led]; exact z
theorem TabGd.relay (g : TabGd knd w es t ks) (m : Nat) : TabGd knd w (relayAll t es m).1 (relayAll t es m).2.1 ks where
  key := g.key.perm (relayAll_perm t es m).symm
  nod := g.nod
  few := g.few
  fit := relayAll_fits t es m
  ris := relayAll_ris t es m
  led := g.led.imp id fun z => by rw [relayAll_led]; exact z
theorem TabGd.off (g : TabGd knd w es t ks) : TabGd knd w es { t with plain := false } ks := ⟨g.key, g.nod, g.few, SetTable.fits_plain_off g.fit, g.ris, g.led⟩
theorem TabGd.sizeOk (g : TabGd knd w es t ks) : es.size < scanBound := by rw [g.key.size]; exact g.few
theorem SetX.keep (R : SetX knd h a ks) (q : ∀ o, h.get? a = some o → h'.get? a = some o) : SetX knd h' a ks :=
  let ⟨o, es, ep, t, ho, r⟩ := R; ⟨o, es, ep, t, q o ho, r⟩
theorem setX_new (ho : h.get? a = some { cls := .type "set", dict := none, data := .set #[] 0 (.fresh 0 0 (!w.params.followText "set-order")) }) : SetX knd h a ([] : List K) :=
  ⟨_, _, _, _, ho, ⟨rfl, rfl, rfl⟩, rfl, ⟨[], .refl _, .nil⟩, List.nodup_nil, (by show 0 < scanBound; decide), rfl, List.Pairwise.nil, by
    cases e : w.params.followText "set-order"
    · exact .inr rfl
    · exact .inl rfl⟩

variable {A : Around} {E : Value → Shared → Prop} {s : Shared}
theorem stored {o : Obj} {ep : Nat} {es' : Array (Int × Value)} {t' : SetTable} (ho : h.get? a = some o) (hex : o.ExactSet) (hd : o.data = .set es ep t) (g : TabGd knd w es' t' ks) :
    ∃ o', (h.update a (Obj.putSet es' t')).get? a = some o' ∧ o'.ExactSet ∧ o'.data = .set es' (ep + 1) t' := ⟨_, store_at ho hd, hex, rfl⟩
theorem add_end {g : Bool → Sem Unit} (hg : ∀ (b : Bool) (s1 : Shared) (Q' : Unit → Shared → Prop), Q' () s1 → wpAny (model P w) A (g b) Q' E s1)
    {o : Obj} {ep : Nat} (ho : s.heap.get? a = some o) (hex : o.ExactSet) (hd : o.data = .set es ep t) {es1 : Array (Int × Value)} {t1 : SetTable} (G : TabGd knd w es1 t1 ks) {wd : Bool} {R : Option Bool → Shared → Prop}
    (hR : ∀ h', Heap.SameBut a s.heap h' → SetX knd h' a ks → R (some true) { s with heap := h' }) :
    wpAny (model P w) A (storeSet a es1 t1 >>= fun _ => if (!wd && t1.tooFull) = true then (g (relayAll t1 es1 (SetTable.grown es1.size)).2.2 >>= fun _ =>
      storeSet a (relayAll t1 es1 (SetTable.grown es1.size)).1 (relayAll t1 es1 (SetTable.grown es1.size)).2.1 >>= fun _ => pure (some true)) else pure (some true)) R E s := by
  have same := Heap.SameBut.update s.heap a (Obj.putSet es1 t1)
  obtain ⟨o1, ho1, hx1, hd1⟩ := stored ho hex hd G
  refine wpAny_bind (wpAny_storeSet_of ho hd ?_ (fits_of_scanBound G.sizeOk))
  by_cases c : (!wd && t1.tooFull) = true
  · rw [if_pos c]
    have G2 := G.relay (SetTable.grown es1.size)
    obtain ⟨o2, ho2, hx2, hd2⟩ := stored ho1 hx1 hd1 G2
    exact wpAny_bind (hg _ _ _ (wpAny_bind (wpAny_storeSet_of ho1 hd1 (wpAny_pure (hR _ (same.trans (Heap.SameBut.update _ a _)) ⟨o2, _, _, _, ho2, hx2, hd2, G2⟩)) (fits_of_scanBound G2.sizeOk))))
  · rw [if_neg c]
    exact wpAny_pure (hR _ same ⟨o1, _, _, _, ho1, hx1, hd1, G⟩)
theorem setX_add {x : Value} {Q : Bool → Shared → Prop} (hk : knd.is k x = true) (hx : x.scannable = true) (S : SetX knd s.heap a ks) (room : ks.length + 1 < scanBound)
    (hQ : ∀ h', Heap.SameBut a s.heap h' → SetX knd h' a (ins ks k) → Q (!decide (k ∈ ks)) { s with heap := h' }) : wpAny (model P w) A (setAddHashed a x (knd.hash k)) Q E s := by
  obtain ⟨o, es, ep, t, ho, hex, hd, G⟩ := S
  have el := G.key.elems
  unfold setAddHashed setAddHashedIn
  refine wpAny_holding (wpAny_bind (wpAny_setState_of ho hd G.fit ?_))
  show wpAny _ _ (if byScan x es = true then _ else _) _ _ _
  rw [if_pos (byScan_of hx G.sizeOk el)]
  unfold setAddByScan
  refine wpAny_bind (wpAny_bind (wpAny_rule (wpAny_bind (wpAny_setScan_of hk ho hd G.fit el ?_))))
  by_cases hm : k ∈ ks
  · have hi : ins ks k = ks := if_pos hm
    rw [hi, decide_eq_true hm] at hQ
    obtain ⟨e, he, q⟩ := (G.key.has k).mp hm
    cases hf : es.toList.findIdx? (fun e => knd.is k e.2) with
    | none => have c := List.findIdx?_eq_none_iff.mp hf e he; rw [q] at c; cases c
    | some j => exact wpAny_pure (wpAny_pure (hQ s.heap (.refl a s.heap) ⟨o, es, ep, t, ho, hex, hd, G⟩))
  · have hi : ins ks k = k :: ks := if_neg hm
    rw [hi, decide_eq_false hm] at hQ
    cases hf : es.toList.findIdx? (fun e => knd.is k e.2) with
    | some j =>
      obtain ⟨hj, q, _⟩ := List.findIdx?_eq_some_iff_getElem.mp hf
      exact absurd ((G.key.has k).mpr ⟨_, List.getElem_mem hj, q⟩) hm
    | none =>
      have G1 := G.lay hk hx hm room
      have ends : ∀ (b : Bool) (s1 : Shared) (Q' : Unit → Shared → Prop), Q' () s1 → wpAny (model P w) A (match b with | true => rule "set.scan.the-table-gave-way" | false => pure ()) Q' E s1 := fun b s1 Q' q => by
        cases b
        · exact wpAny_pure q
        · exact wpAny_rule q
      revert G1
      generalize layNew t es (knd.hash k) x = Z
      obtain ⟨es1, t1, wd, gv⟩ := Z
      intro G1
      refine wpAny_bind (ends _ _ _ ?_)
      split
      · refine wpAny_bind ?_
        rw [hashByValue_scannable 8 hx]
        refine wpAny_pure ?_
        refine add_end (ks := k :: ks) (fun b s1 Q' q => by cases b <;> first | exact wpAny_pure q | exact wpAny_rule q) ho hex hd ?_ fun h' sb r => wpAny_pure (hQ h' sb r)
        split
        · exact G1
        · exact G1.off
      · refine wpAny_bind (wpAny_pure ?_)
        exact add_end (ks := k :: ks) (fun b s1 Q' q => by cases b <;> first | exact wpAny_pure q | exact wpAny_rule q) ho hex hd G1 fun h' sb r => wpAny_pure (hQ h' sb r)
end
end Pd
end

section
set_option Elab.async false
set_option linter.all false
set_option autoImplicit false
set_option maxRecDepth 100000
/-! Pd: set(..) of a list or a tuple of keys; its items gathered. -/
namespace Pd
open PySem L2 PySem.Spec PyProof.Rows PySem.W
section
variable {P : Program} {w : World} {K : Type} [DecidableEq K] {knd : KeyKind P w K} {A : Around} {E : Value → Shared → Prop}
theorem ins_len (ks : List K) (k : K) : (ins ks k).length ≤ ks.length + 1 := by
  unfold ins
  split
  · exact Nat.le_succ _
  · exact Nat.le_refl _
theorem fold_len (xs : List K) : ∀ ks : List K, (xs.foldl ins ks).length ≤ ks.length + xs.length := by
  induction xs with
  | nil => intro ks; exact Nat.le_refl _
  | cons x xs ih =>
    intro ks
    have h1 := ih (ins ks x)
    have h2 := ins_len ks x
    rw [List.foldl_cons, List.length_cons]
    omega
/-- items with keys -/
def KeyAt (knd : KeyKind P w K) (xs : List K) (i : Nat) (v : Value) : Prop := ∃ k, xs[i]? = some k ∧ knd.is k v = true ∧ v.scannable = true
theorem set_fill {I : Addr} {fp wr : List Addr} {G : Array GenState → Array GenState → Prop} {n : Nat} {Pv : Nat → Value → Prop} {St : Nat → Shared → Prop} {R : Result → Shared → Prop} {a : Addr} (hh : a ∉ fp)
    (W : WalksS P w A.in1 I fp wr G n Pv St) (xs : List K) (hn : n = xs.length) (few : xs.length + 1 < scanBound) (hv : ∀ i v, Pv i v → KeyAt knd xs i v) :
    ∀ (m i : Nat) (s : Shared), i + m = n → St i s → SetX knd s.heap a ((xs.take i).foldl ins []) →
      (∀ s', Moved (a :: wr) G s s' → SetX knd s'.heap a (xs.foldl ins []) → R (.ok (.ret .none)) s') → codeAny (model P w) A (.builtin "set.update.loop" ⟨[.ref a, .ref I], []⟩) R s
  | 0, i, s, e, st, S, q => by
    have e : i = n := e
    subst e
    rw [List.take_of_length_le (by omega)] at S
    refine codeAny_builtin F.entry_set_update_loop ?_
    rw [Around.under_plainId F.plain_set_update_loop _]
    refine wpAny_bind (W.done s _ _ st fun s' mv => wpAny_pure (q s' (mv.mono fun b hb => List.mem_cons_of_mem _ hb) (S.keep fun o ho => mv.heap a o (fun z => hh (W.sub _ z)) ho)))
  | m + 1, i, s, e, st, S, q => by
    refine codeAny_builtin F.entry_set_update_loop ?_
    rw [Around.under_plainId F.plain_set_update_loop _]
    refine wpAny_bind (W.item i s _ _ (by omega) st fun v s' pv st' mv => ?_)
    obtain ⟨k, hk, hi, hs⟩ := hv i v pv
    have S' : SetX knd s'.heap a ((xs.take i).foldl ins []) := S.keep fun o ho => mv.heap a o (fun z => hh (W.sub _ z)) ho
    have room : ((xs.take i).foldl ins []).length + 1 < scanBound := by
      have h1 := fold_len (xs.take i) []
      have h2 := List.length_take_le i xs
      simp only [List.length_nil] at h1
      omega
    refine wpAny_bind (wpAny_holding ?_)
    unfold setAdd
    refine wpAny_holding (wpAny_bind (knd.pyHash hi ?_))
    refine setX_add (s := { s' with toks := s'.toks + 1 }) hi hs S' room fun h' sb S2 => ?_
    have e2 : (xs.take (i + 1)).foldl ins [] = ins ((xs.take i).foldl ins []) k := by rw [List.take_add_one, hk, List.foldl_append]; rfl
    rw [← e2] at S2
    refine wpAny_pure ⟨plainId_quiet F.plain_set_update_loop _, set_fill hh W xs hn few hv m (i + 1) _ (by omega) (W.frame _ s' _ _ st' (Nat.le_succ _) fun b hb o ho => ?_) S2 fun s2 m2 S3 => q s2 ?_ S3⟩
    · rw [sb.2 b fun z => hh (z ▸ hb)]; exact ho
    · refine Moved.trans W.gtrans ((mv.mono fun b hb => List.mem_cons_of_mem _ hb).then_heap (Nat.le_succ _) fun b o hb ho => ?_) m2
      rw [sb.2 b fun z => hb (z ▸ List.mem_cons_self)]; exact ho

/-- an empty set as the machine makes it -/
abbrev emp (w : World) : Obj := { cls := .type "set", dict := none, data := .set #[] 0 (.fresh 0 0 (!w.params.followText "set-order")) }
variable {s : Shared}
/-- what set(x) is, when x may be walked from a fresh iterator -/
def Feeds (P : Program) (w : World) (A : Around) (knd : KeyKind P w K) (s : Shared) (l : Addr) (xs : List K) : Prop :=
  ∀ (B : Around) (T : Heap) (E' : Value → Shared → Prop) (Q' : Value → Shared → Prop), B.handled = A.handled → (∀ b o, s.heap.get? b = some o → T.get? b = some o) → s.heap.objs.size < T.objs.size →
    (∀ I T' fp wr St Pv, (∀ b ∈ fp, b ≠ s.heap.objs.size) → (∀ b ∈ wr, T.objs.size ≤ b) → WalksS P w B.in1 I fp wr (fun a b => b = a) xs.length Pv St → (∀ i v, Pv i v → KeyAt knd xs i v) → St 0 { s with heap := T' } →
      (∀ b o, T.get? b = some o → T'.get? b = some o) → Q' (.ref I) { s with heap := T' }) → wpAny (model P w) B (pyIter (.ref l)) Q' E' { s with heap := T }
set_option maxRecDepth 100000 in
set_option maxHeartbeats 3200000 in
theorem call_setX {l : Addr} {T : String} {o : Obj} (xs : List K) {Q : Value → Shared → Prop} (ho : s.heap.get? l = some o) (hc : o.cls = .type T) (hT : T = "list" ∨ T = "tuple") (few : xs.length + 1 < scanBound)
    (fd : Feeds P w A knd s l xs)
    (h : ∀ (h' : Heap) (tk : Nat), SetX knd h' s.heap.objs.size (xs.foldl ins []) → (∀ b o, s.heap.get? b = some o → h'.get? b = some o) → Q (.ref s.heap.objs.size) { s with heap := h', toks := tk }) :
    wpAny (model P w) A (call (.type "set") [.ref l]) Q E s := by
  obtain ⟨c, tl, hmro⟩ := F.called_set.mro
  have k1 := F.called_set.made
  have k2 := F.called_set.sub
  refine wpAny_call (codeAny_of_tree ?_)
  refine wpAny_pure ⟨Code.quiet_builtin _ (by decide +kernel), codeAny_builtin F.entry_type_call ?_⟩
  rw [Around.under_plain (weight_type_call_type "set" [.ref l] []) rfl]
  have k3 := F.called_set.notType
  have k4 := F.called_set.canCreate
  have k5 := F.typeCall_set_1 (.ref l)
  repeat (any_goals (first | assumption | wp_step))
  refine codeAny_mono (code_set_led1 (.ref l) (E := E) (Q₁ := fun v s1 => v = .ref s.heap.objs.size ∧ s1 = { s with heap := s.heap.push (emp w) }) ⟨rfl, rfl⟩) fun r s1 hr => ?_
  match r, hr with
  | .error e, hr => exact hr
  | .ok (.ret v), hr =>
    obtain ⟨rfl, rfl⟩ := hr
    have gS : (s.heap.push (emp w)).get? s.heap.objs.size = some (emp w) := Heap.get?_push_size _ rfl
    have tS : Shared.TypeIs { s with heap := s.heap.push (emp w) } (.ref s.heap.objs.size) "set" := ⟨_, gS, rfl⟩
    have k6 := F.called_set.init.lookup
    have k7 := F.called_set.init.bind (.ref s.heap.objs.size)
    repeat (any_goals (first | assumption | wp_step))
    refine codeAny_mono (codeAny_call_builtin (R := wants (fun r s2 => r = .none ∧ ∃ h' tk, s2 = { s with heap := h', toks := tk } ∧ SetX knd h' s.heap.objs.size (xs.foldl ins []) ∧ ∀ b o, s.heap.get? b = some o → h'.get? b = some o) E)
      F.called_set.init.plain F.entry_set_init (check_set_init_1 tS ?_)) fun r2 s2 hr2 => ?_
    · obtain ⟨oc, od, odat, osl⟩ := o
      simp only at hc
      subst hc
      have go : (s.heap.push (emp w)).get? l = some { cls := .type T, dict := od, data := odat, slots := osl } := Heap.get?_push_of_some _ ho
      have j1 : isSubtype (.type T) (.type "set") = pure false := by rcases hT with rfl | rfl <;> first | exact F.sub_list_set | exact F.sub_tuple_set
      have j2 : isSubtype (.type T) (.type "frozenset") = pure false := by rcases hT with rfl | rfl <;> first | exact F.sub_list_frozenset | exact F.sub_tuple_frozenset
      have j3 : (Value.type T == Value.type "dict") = false := by rcases hT with rfl | rfl <;> decide
      unfold Builtin.«set.__init__» noKeywords Builtin.Frozenset.updateFrom
      generalize hPI : pyIter = PI
      wp_walk
      subst hPI
      refine fd _ _ _ _ (by simp) (fun b o e => Heap.get?_push_of_some _ e) (by rw [Heap.size_push]; exact Nat.lt_succ_self _) fun I T' fp wr St Pv hfp hwr W hP st k => ?_
      refine wpAny_bind (wpAny_runValue ?_)
      refine set_fill (fun z => hfp _ z rfl) W xs rfl few hP xs.length 0 _ (Nat.zero_add _) st (setX_new (k _ _ gS)) fun s2 mv S2 => ?_
      obtain ⟨h2, g2, d2, t2, o2⟩ := s2
      have e1 : g2 = s.gens := mv.gens
      have e2 : d2 = s.drawn := mv.drawn
      have e3 : o2 = s.os := mv.os
      subst e1; subst e2; subst e3
      refine wpAny_pure (show wpAny _ _ (ret Value.none) _ _ _ from wpAny_pure ⟨rfl, h2, t2, rfl, S2, fun b o e => ?_⟩)
      refine mv.heap b o (fun z => ?_) (k _ _ (Heap.get?_push_of_some _ e))
      have hb := Heap.lt_size e
      rcases List.mem_cons.mp z with z | z
      · exact absurd hb (by rw [z]; exact Nat.lt_irrefl _)
      · have := hwr b z
        rw [Heap.size_push] at this
        exact absurd hb (Nat.not_lt_of_le (Nat.le_of_succ_le this))
    · match r2, hr2 with
      | .error e, hr2 => exact hr2
      | .ok (.ret v), hr2 =>
        obtain ⟨rfl, h', tk, rfl, S2, k⟩ := hr2
        repeat (any_goals (first | assumption | wp_step))
        exact h _ _ S2 k
end
end Pd
end

section
set_option Elab.async false
set_option linter.all false
set_option autoImplicit false
set_option maxRecDepth 100000
/-! Pd: sorted(set(xs)), len(set(xs)) of texts. -/
namespace Pd
open PySem L2 PySem.Spec PyProof.Rows PySem.W

/-- texts, ascending -/
def srtS (ks : List Str) : List Str := ks.mergeSort (dataLe false PyData.str)
theorem leS (a b : Str) : dataLe false PyData.str a b = decide (a.cps.toList ≤ b.cps.toList) := by
  have := dataLe_str (fun x : Str => x)
  exact congrFun (congrFun this a) b
theorem leS_total : TotalLe (dataLe false PyData.str) := sortLe_total _ _ _
theorem leS_anti {a b : Str} (h1 : dataLe false PyData.str a b = true) (h2 : dataLe false PyData.str b a = true) : a = b := by
  rw [leS] at h1 h2
  exact Str.ext' (Array.toList_inj.mp (List.le_antisymm (of_decide_eq_true h1) (of_decide_eq_true h2)))
theorem srtS_perm {ks ms : List Str} (p : ks.Perm ms) : srtS ks = srtS ms := by
  refine List.Perm.eq_of_pairwise (le := fun a b => dataLe false PyData.str a b = true) (fun a b _ _ h1 h2 => leS_anti h1 h2) (sort_pairwise leS_total ks) (sort_pairwise leS_total ms) ?_
  exact (List.mergeSort_perm _ _).trans (p.trans (List.mergeSort_perm _ _).symm)
def isS (v : Value) (k : Str) : Prop := ∃ t, v = .str k t
theorem key_isS {P : Program} {w : World} {v : Value} {k : Str} (h : (strKind P w).is k v = true) : isS v k := Value.isStrOf_shape h
theorem each_two {α β γ : Type} {R : α → β → Prop} {f : α → γ} {S : γ → β → Prop} (h : ∀ a b, R a b → S (f a) b) : ∀ {l : List α} {ms : List β}, EachIs R l ms → EachIs S (l.map f) ms
  | _, _, .nil => .nil
  | _, _, .cons q t => .cons (h _ _ q) (each_two h t)
section
variable {P : Program} {w : World} {A : Around} {E : Value → Shared → Prop} {s : Shared} {a : Addr}
theorem str_reads {h : Heap} : ∀ {l : List Value} {ks : List Str}, EachIs isS l ks → EachIs (fun v b => ∃ as, Reads h v (PyData.str b) as ∧ a ∉ as) l ks
  | _, _, .nil => .nil
  | _, _, .cons ⟨t, e⟩ r => .cons ⟨[], by rw [e]; exact .str _ t, by simp⟩ (str_reads r)
theorem sorted_setX {ks : List Str} {Q : Value → Shared → Prop} (S : SetX (strKind P w) s.heap a ks) (hh : A.handled = none) (hu : A.units + 64 < cLine)
    (hQ : ∀ s' p (out : List Value) (c : Nat), (∀ b o, s.heap.get? b = some o → s'.heap.get? b = some o) → s'.gens = s.gens → s'.os = s.os → s.heap.objs.size ≤ p → s'.heap.get? p = some (seqObj "list" out.toArray c) →
      EachIs isS out (srtS ks) → Q (.ref p) s') : wpAny (model P w) A (call (.builtin "sorted") [.ref a]) Q E s := by
  obtain ⟨o, es, ep, t, ho, hex, hd, G⟩ := S
  refine Calls.call_function_entry kind_sorted plain_sorted entry_sorted (args_sorted1 _) ?_
  unfold Builtin.«sorted»
  refine wpAny_bind (m := checkCount "sorted" 1 1 _) (wpAny_pure (wpAny_bind (collect_set (A := A.in1) hh ⟨o, ho, hex.1, hd⟩ G.fit G.sizeOk G.ris G.led fun s1 vs keep hz hg hos pm => ?_)))
  obtain ⟨ms, pk, ek⟩ := G.key
  obtain ⟨ns, pn, en⟩ := each_perm pm.symm (each_two (f := fun e : Int × Value => e.2) (S := isS) (fun e k q => key_isS q.1) ek)
  have hlen : vs.length = ks.length := by rw [en.length, pn.length_eq, pk.length_eq]
  have small : ks.length ≤ sizeLine := fits_of_scanBound G.few
  refine wpAny_bind (wpAny_newList ?_ (by rw [hlen]; exact small))
  have hL : (s1.heap.push (seqObj "list" vs.toArray 0)).get? s1.heap.objs.size = some (seqObj "list" vs.toArray 0) := Heap.get?_push_size _ rfl
  have hz2 : (s1.heap.push (seqObj "list" vs.toArray 0)).objs.size = s1.heap.objs.size + 1 := Heap.size_push ..
  have old : ∀ (out : List Value) (b : Addr) (u : Obj), s.heap.get? b = some u → (sortedHeap (s1.heap.push (seqObj "list" vs.toArray 0)) s1.heap.objs.size vs out.toArray).get? b = some u := fun out b u e => by
    have q := keep b u e
    have hb := Heap.lt_size q
    rw [sortedHeap_old (Nat.ne_of_lt hb) (by rw [hz2]; exact Nat.lt_succ_of_lt hb)]
    exact Heap.get?_push_of_some _ q
  have hsort : srtS ns = srtS ks := srtS_perm (pn.trans pk)
  have hns : ns.length ≤ sizeLine := by rw [pn.length_eq, pk.length_eq]; exact small
  have hun : ∀ b : Str, A.in1.units + 1 + (PyData.str b).depth < cLine := fun b => by
    show A.in1.units + 1 + 0 < cLine
    have : A.in1.units ≤ A.units + 1 := by first | exact Nat.le_refl _ | simp | exact Nat.le_succ _
    omega
  refine wpAny_bind (wpAny_holding (list_sort_data (R := isS) (enc := PyData.str) hL en (str_reads en) (AllAlike.of (fun _ _ => rfl)) (Sortable.others fun b => ⟨(fun e => by cases e), fun _ e => by cases e⟩) hns (fun b _ => hun b) fun out hl eo => ?_))
  obtain ⟨c, hc⟩ := sortedHeap_at (vs := vs) (out := out.toArray) hL
  have e2 : EachIs isS out (srtS ks) := by rw [← hsort]; exact eo
  exact wpAny_pure ⟨_, rfl, hQ { s1 with heap := sortedHeap (s1.heap.push (seqObj "list" vs.toArray 0)) s1.heap.objs.size vs out.toArray } s1.heap.objs.size out c (old out) hg hos hz hc e2⟩
end

variable [Wd]
/-- the set of texts as a tracked object -/
def SetO (P : Program) (w : World) (a : Addr) (ks : List Str) : HO := .ext fun h => SetX (strKind P w) h a ks
theorem setO_ok {P : Program} {w : World} {H : Hp} {h : Heap} {a : Addr} {ks : List Str} (R : SetX (strKind P w) h a ks) : ObjOk P w H h a (SetO P w a ks) :=
  ⟨R, let ⟨o, _, _, _, ho, _⟩ := R; ⟨o, ho⟩, fun _ _ x k => x.keep k⟩
section
variable {X : Cx} {E : XK} {x : Str} {p pos : Pos} {e : Expr} {s : SemE}
theorem strs_vals : ∀ {ss : List Str} {its : List Value}, Vals (ss.map V.str) its → ∀ (i : Nat) (v : Value), its[i]? = some v → KeyAt (strKind X.prog X.w) ss i v
  | [], _, .nil, i, v, h => by simp at h
  | k :: ss, _, .cons r t, 0, v, h => by
    obtain ⟨u, rfl⟩ := r
    simp at h
    exact ⟨k, by simp, by rw [← h]; exact strKind_is _ _ _ _, by rw [← h]; rfl⟩
  | k :: ss, _, .cons r t, i + 1, v, h => by
    obtain ⟨k', h1, h2⟩ := strs_vals t i v (by simpa using h)
    exact ⟨k', by simpa using h1, h2⟩
def rSetS (P : Program) (w : World) (K : PySem.W.Frag) : List V → Hp → VK → Prop := fun xs H Q => ∃ (l : Addr) (ss : List Str), xs = [.ref l] ∧ (SqL K H l (ss.map V.str) ∨ SqT K H l (ss.map V.str)) ∧ ss.length < 4000 ∧
  ∀ p, H p = none → Q (.ref p) (upd H p (SetO P w p (ss.foldl ins [])))
theorem cr_setS (hc : X.calm = true) : CallR X (.type "set") (rSetS X.prog X.w X.K) := by
  intro pins st σ H xs us Q I r h
  obtain ⟨l, ss, rfl, hq, hl, q⟩ := h
  rw [Vals.ref1 r]
  have few : ss.length + 1 < scanBound := by show _ < 4096; omega
  have hd := I.ok.hd hc
  have fin : ∀ (h' : Heap) (tk : Nat), SetX (strKind X.prog X.w) h' st.heap.objs.size (ss.foldl ins []) → (∀ b o, st.heap.get? b = some o → h'.get? b = some o) → EP X pins σ Q (.ref st.heap.objs.size) { st with heap := h', toks := tk } := fun h' tk S k =>
    ⟨.ref _, _, I.laid (t' := tk) k (Nat.le_refl _) (setO_ok S), rfl, q _ (I.hok.fresh (Nat.le_refl _))⟩
  rcases hq with hq | hq
  · obtain ⟨its, rv, pl, hz⟩ := I.list hq
    obtain ⟨o, ho, hc', hdat⟩ := pl.isList
    have hlt := Heap.lt_size ho
    have hlen : its.toArray.size = ss.length := by rw [List.size_toArray, ← rv.length, List.length_map]
    refine call_setX (T := "list") ss ho hc' (.inl rfl) few (fun B T E' Q' hB k hs q' => ?_) fin
    have hl2 : T.IsList l its.toArray := ⟨o, k _ _ ho, hc', hdat⟩
    refine wpAny_pyIter_list hl2 ?_
    have W := (Walks.list (prog := X.prog) (w := X.w) (A := B.in1) (by first | (show B.handled = none; rw [hB]; exact hd) | (simp; rw [hB]; exact hd)) T.objs.size l (Nat.ne_of_lt (Nat.lt_trans hlt hs)) its.toArray).toS
    rw [hlen] at W
    refine q' _ _ _ _ _ _ (fun b hb => ?_) (fun b hb => ?_) W (fun i v hv => strs_vals rv i v (by rw [← List.getElem?_toArray]; exact hv)) ⟨⟨_, Heap.get?_push_size _ rfl, rfl, rfl⟩, hl2.push _⟩ (fun b o e => Heap.get?_push_of_some _ e)
    · rcases List.mem_cons.mp hb with rfl | hb
      · exact Nat.ne_of_gt hs
      · rw [List.mem_singleton.mp hb]; exact Nat.ne_of_lt hlt
    · rw [List.mem_singleton.mp hb]; exact Nat.le_refl _
  · obtain ⟨its, rv, pl, hz⟩ := I.tuple hq
    obtain ⟨o, ho, hc', hdat⟩ := (show st.heap.IsTuple l its.toArray from pl)
    have hlt := Heap.lt_size ho
    have hlen : its.toArray.size = ss.length := by rw [List.size_toArray, ← rv.length, List.length_map]
    refine call_setX (T := "tuple") ss ho hc' (.inr rfl) few (fun B T E' Q' hB k hs q' => ?_) fin
    have hl2 : T.IsTuple l its.toArray := ⟨o, k _ _ ho, hc', hdat⟩
    refine wpAny_pyIter_tuple hl2 ?_
    have W := (Walks.tuple (prog := X.prog) (w := X.w) (A := B.in1) (by first | (show B.handled = none; rw [hB]; exact hd) | (simp; rw [hB]; exact hd)) T.objs.size l (Nat.ne_of_lt (Nat.lt_trans hlt hs)) its.toArray).toS
    rw [hlen] at W
    refine q' _ _ _ _ _ _ (fun b hb => ?_) (fun b hb => ?_) W (fun i v hv => strs_vals rv i v (by rw [← List.getElem?_toArray]; exact hv)) ⟨⟨_, Heap.get?_push_size _ rfl, rfl, rfl⟩, hl2.push _⟩ (fun b o e => Heap.get?_push_of_some _ e)
    · rcases List.mem_cons.mp hb with rfl | hb
      · exact Nat.ne_of_gt hs
      · rw [List.mem_singleton.mp hb]; exact Nat.ne_of_lt hlt
    · rw [List.mem_singleton.mp hb]; exact Nat.le_refl _
def rSortS (P : Program) (w : World) : List V → Hp → VK → Prop := fun xs H Q => ∃ (l : Addr) (ks : List Str), xs = [.ref l] ∧ H l = some (SetO P w l ks) ∧ ks.length ≤ sizeLine ∧ ∀ p, H p = none → Q (.ref p) (upd H p (.lst ((srtS ks).map V.str)))
theorem vals_isS : ∀ {out : List Value} {ks : List Str}, EachIs isS out ks → Vals (ks.map V.str) out
  | _, _, .nil => .nil
  | _, _, .cons ⟨t, e⟩ r => .cons ⟨t, e⟩ (vals_isS r)
theorem cr_sortS (hc : X.calm = true) (hu : X.A.units + 64 < cLine) : CallR X (.builtin "sorted") (rSortS X.prog X.w) := by
  intro pins st σ H xs us Q I r h
  obtain ⟨l, ks, rfl, hl, hz, q⟩ := h
  rw [Vals.ref1 r]
  refine sorted_setX (I.hok l _ hl).1 (I.ok.hd hc) hu fun s' p out c k g o hp hg eo => ?_
  have hlen : ((srtS ks).map V.str).length ≤ sizeLine := by rw [List.length_map]; unfold srtS; rw [List.length_mergeSort]; exact hz
  have hn : H p = none := I.hok.fresh hp
  have J : Inv X pins σ (upd H p (.lst ((srtS ks).map V.str))) { st with heap := s'.heap, gens := s'.gens, drawn := s'.drawn, toks := s'.toks } :=
    I.call (ch := []) (Un.laid k hp hn) (I.hok.laid k hp ⟨hlen, out, c, vals_isS eo, hg⟩) (by rw [g]; exact I.bare) (fun _ z => nomatch z)
  have e : s' = { st with heap := s'.heap, gens := s'.gens, drawn := s'.drawn, toks := s'.toks } := by
    cases s'; cases st; cases o; rfl
  rw [e]
  exact ⟨.ref p, _, J, rfl, q p hn⟩
def rLenS (P : Program) (w : World) : List V → Hp → VK → Prop := fun xs H Q => ∃ (l : Addr) (ks : List Str), xs = [.ref l] ∧ H l = some (SetO P w l ks) ∧ Q (.int ks.length) H
theorem cr_lenS : CallR X (.builtin "len") (rLenS X.prog X.w) := by
  intro pins st σ H xs us Q I r h
  obtain ⟨l, ks, rfl, hl, q⟩ := h
  rw [Vals.ref1 r]
  obtain ⟨o, es, ep, t, ho, hex, hd, G⟩ := (I.hok l _ hl).1
  have hs := G.key.size
  have hf := G.few
  have hb : scanBound = 4096 := rfl
  refine call_len_set ho hex hd G.fit (by omega) ⟨.int ks.length, H, I.tok _, ⟨_, by rw [hs]⟩, q⟩

/-! ### by values -/
theorem rps_strs {G : Hp} : ∀ ss : List Str, Rps G (ss.map V.str) (ss.map .str)
  | [] => .nil
  | x :: ss => .cons (.str x) (rps_strs ss)
/-- the texts of a list or a tuple, each once -/
def uniq (st : Sto) (w : W) : Option (List Str) := match val st w with
  | some (.list ds) => if ds.length < 4000 then (strsOf ds).map fun ss => ss.foldl ins [] else none
  | some (.tuple ds) => if ds.length < 4000 then (strsOf ds).map fun ss => ss.foldl ins [] else none
  | _ => none
theorem uniq_ok {X : Cx} {F G : Hp} {al : Al} {st : Sto} {H : Hp} {v : V} {w : W} {ks : List Str} (R : RelS (bx X F) G al st H) (r : Rw (bx X F) G al v w) (h : uniq st w = some ks) :
    ∃ (l : Addr) (ss : List Str), v = .ref l ∧ (SqL X.K H l (ss.map V.str) ∨ SqT X.K H l (ss.map V.str)) ∧ ss.length < 4000 ∧ ks = ss.foldl ins [] := by
  unfold uniq at h
  split at h
  · rename_i ds e1
    split at h
    · rename_i hl
      rw [Option.map_eq_some_iff] at h
      obtain ⟨ss, h1, rfl⟩ := h
      cases val_rv R r e1 with
      | lst hx z r2 =>
        have e := strsOf_ok r2 h1
        refine ⟨_, ss, rfl, .inl (by rw [← e]; exact SqL.of hx), ?_, rfl⟩
        have := r2.length
        rw [e, List.length_map] at this
        omega
    · cases h
  · rename_i ds e1
    split at h
    · rename_i hl
      rw [Option.map_eq_some_iff] at h
      obtain ⟨ss, h1, rfl⟩ := h
      cases val_rv R r e1 with
      | tup hx z r2 =>
        have e := strsOf_ok r2 h1
        refine ⟨_, ss, rfl, .inr (by rw [← e]; exact SqT.of hx), ?_, rfl⟩
        have := r2.length
        rw [e, List.length_map] at this
        omega
    · cases h
  · cases h
def sSortSet (mk : Mk1) (s : SemE) : SemE := fun en st => (s en st).bind fun w st => match uniq st w with
  | some ks => mk ((srtS ks).map .str) st
  | none => .bad
def sLenSet (s : SemE) : SemE := fun en st => (s en st).bind fun w st => match uniq st w with
  | some ks => retI ks.length st
  | none => .bad
variable {p2 q : Pos}
theorem se_sortSet {mk : Mk1} (hk : MkLOk X E mk) (hc : X.calm = true) (hu : X.A.units + 64 < cLine) (hg : Gl X "sorted") (hm : X.mg "sorted" = none) (hg2 : Gl X "set") (hm2 : X.mg "set" = none) (ha : SE X E e s)
    (he : starEach [e] X.env = (false, eval e X.env) :: starEach [] X.env := by rfl)
    (he2 : starEach [.Call (.Name "set" p2) [e] [] q] X.env = (false, eval (.Call (.Name "set" p2) [e] [] q) X.env) :: starEach [] X.env := by rfl) : SE X E (.Call (.Name "sorted" p) [.Call (.Name "set" p2) [e] [] q] [] pos) (sSortSet mk s) := by
  have h1 := pe_callTy (p := p2) (pos := q) (cr_setS (X := X) hc) hg2 hm2 boot_set (pa_cons ha pa_nil he) (by decide) (by decide) he rfl
  refine (pe_callB (p := p) (pos := pos) (cr_sortS (X := X) hc hu) hg hm boot_sorted (pa_cons h1 pa_nil he2) (by decide) (by decide) he2 rfl).weak fun σ H Q ⟨F, G, al, en, st, R, pp⟩ => ?_
  refine tD_bind (sa := s) (k := fun w _ st => match uniq st w with | some ks => mk ((srtS ks).map .str) st | none => .bad) R pp fun v H1 G1 al1 st1 w R1 r1 p1 _ => ?_
  cases hq : uniq st1 w with
  | none => rw [hq] at p1; exact p1.elim
  | some ks =>
    rw [hq] at p1
    obtain ⟨l, ss, rfl, hs, hl, rfl⟩ := uniq_ok R1.s r1 hq
    refine ⟨l, ss, rfl, hs, hl, fun a ha' => ⟨a, _, rfl, upd_same, ?_, fun b hb => ?_⟩⟩
    · have := fold_len ss []
      rw [sizeLine_eq]
      simp only [List.length_nil] at this
      omega
    · have R2 := R1.s.beside (u := SetO X.prog X.w a (ss.foldl ins [])) ha'
      exact (hk R2 (rps_strs _) p1).2 b hb
theorem se_lenSet (hc : X.calm = true) (hg : Gl X "len") (hm : X.mg "len" = none) (hg2 : Gl X "set") (hm2 : X.mg "set" = none) (ha : SE X E e s)
    (he : starEach [e] X.env = (false, eval e X.env) :: starEach [] X.env := by rfl)
    (he2 : starEach [.Call (.Name "set" p2) [e] [] q] X.env = (false, eval (.Call (.Name "set" p2) [e] [] q) X.env) :: starEach [] X.env := by rfl) : SE X E (.Call (.Name "len" p) [.Call (.Name "set" p2) [e] [] q] [] pos) (sLenSet s) := by
  have h1 := pe_callTy (p := p2) (pos := q) (cr_setS (X := X) hc) hg2 hm2 boot_set (pa_cons ha pa_nil he) (by decide) (by decide) he rfl
  refine (pe_callB (p := p) (pos := pos) (cr_lenS (X := X)) hg hm boot_len (pa_cons h1 pa_nil he2) (by decide) (by decide) he2 rfl).weak fun σ H Q ⟨F, G, al, en, st, R, pp⟩ => ?_
  refine tD_bind (sa := s) (k := fun w _ st => match uniq st w with | some ks => retI ks.length st | none => .bad) R pp fun v H1 G1 al1 st1 w R1 r1 p1 _ => ?_
  cases hq : uniq st1 w with
  | none => rw [hq] at p1; exact p1.elim
  | some ks =>
    rw [hq] at p1
    obtain ⟨l, ss, rfl, hs, hl, rfl⟩ := uniq_ok R1.s r1 hq
    exact ⟨l, ss, rfl, hs, hl, fun a ha' => ⟨a, _, rfl, upd_same, retI_ok (R1.s.beside (u := SetO X.prog X.w a (ss.foldl ins [])) ha') p1⟩⟩
end
end Pd
end

section
set_option Elab.async false
set_option linter.all false
set_option autoImplicit false
set_option maxRecDepth 100000
/-! Pd: dict comprehensions; keys may be texts, numbers or tuples of such. -/
namespace Pd
open PySem L2 PySem.Spec PyProof.Rows

/-- what a turn of the comprehension stores: D the new dict -/
abbrev RSet := Addr → V → V → Hp → (Hp → Prop) → Prop
/-- such stores are right, in every context of this program -/
def DSet (X : Cx) (r : RSet) : Prop := ∀ (Y : Cx), Y.prog = X.prog → Y.w = X.w → Y.A = X.A → ∀ (pins : List (Addr × Obj)) (s : Shared) (σ : L2.St) (H : Hp) (D : Addr) (y z : V) (u v : Value) (Q : Hp → Prop) (Z : Value → Shared → Prop),
  Inv Y pins σ H s → RelV y u → RelV z v → r D y z H Q → wpAny (model Y.prog Y.w) Y.A (dictSet D u v) (fun _ s' => ∃ H', Inv Y pins σ H' s' ∧ Q H') Z s
/-- the new dict may be tracked as such an object -/
def DNew (X : Cx) (o : Addr → HO) : Prop := ∀ (H : Hp) (h : Heap), sysModules < h.objs.size → ObjOk X.prog X.w H (h.push { cls := .type "dict", data := .dict #[] }) h.objs.size (o h.objs.size)
/-- one turn's reading -/
def tTurn (r : RSet) (g : TG) (tt : TT) (tk tv : TE) (vs : List Nat) (D : Addr) (σ : L2.St) (x : V) (H : Hp) (Nx : Hp → Prop) : Prop :=
  g x (wipe σ vs) H fun σ2 H2 => wipe σ2 vs = wipe σ vs ∧ tt σ2 H2 fun b H3 => if b = true then tk σ2 H3 fun y H4 => tv σ2 H4 fun z H5 => r D y z H5 Nx else Nx H3
def tDcX (o : Addr → HO) (r : RSet) (wi : TI) (g : TG) (tt : TT) (tk tv : TE) (vs : List Nat) : TE := fun σ H Q => wi σ H fun J H1 => ∀ D, H1 D = none → ∃ W : Nat → Nat → Hp → Prop, (∃ m, W 0 m (upd H1 D (o D))) ∧ ∀ i m H, W i m H →
  (J.stop i H ∧ Q (.ref D) H) ∨ (J.go i H ∧ ∃ Nx : Hp → Prop, (∀ H', Nx H' → ∃ m', m' < m ∧ W (i + 1) m' H') ∧ ∀ x H', J.yld i H x H' → tTurn r g tt tk tv vs D σ x H' Nx)
section
variable {X : Cx} {kx vx tg iter : Expr} {ifs : List Expr} {scope : Scope} {own : List (Str × Nat)} {pos : Pos} {wi : TI} {g : TG} {tt : TT} {tk tv : TE} {o : Addr → HO} {r : RSet}
theorem pe_dcX (hd : DNew X o) (hr : DSet X r) (hc : X.calm = true) (hN : X.N.Nodup) (hi : PI X tg iter wi) (ok : BlkOk X.N X.env.scope scope own)
    (hg : ∀ (s : Shared) (H : Hp) (C : Addr) (cl : List (Str × Addr)) (fp : List Addr), PG (X.blk s H scope (compEnvC scope cl C X.env) fp) tg g)
    (ht : ∀ (s : Shared) (H : Hp) (C : Addr) (cl : List (Str × Addr)) (fp : List Addr), PTs (X.blk s H scope (compEnvC scope cl C X.env) fp) ifs tt)
    (hk : ∀ (s : Shared) (H : Hp) (C : Addr) (cl : List (Str × Addr)) (fp : List Addr), PE (X.blk s H scope (compEnvC scope cl C X.env) fp) kx tk)
    (he : ∀ (s : Shared) (H : Hp) (C : Addr) (cl : List (Str × Addr)) (fp : List Addr), PE (X.blk s H scope (compEnvC scope cl C X.env) fp) vx tv) (hs : ∀ x, foldedSetIterable iter X.env x = pure x := by intro _; rfl) :
    PE X (.DictComp kx vx [⟨tg, iter, ifs, 0⟩] scope pos) (tDcX o r wi g tt tk tv (own.map (·.2))) := by
  refine ⟨fun pins s σ H Q I h => ?_⟩
  rw [arm_eval_DictComp]
  have seen : ∀ y ∈ scope.names, y.2 = .free → ∃ c, X.env.cells.lookup y.1 = some c := fun y hy e => I.ok.has _ ((ok.free y hy e).imp id id)
  refine wpAny_comprehension_free (use := none) rfl hs (closure_ok seen) ok.kind (fun y hy e => by rw [ok.uniq y hy, e]) (thn (hi.run pins s σ H _ I h) fun _ s1 hx => thn hx fun _ s2 hx2 => ?_)
  obtain ⟨it, fp, tn, J, H2, rfl, I2, T, at2, f2, q⟩ := hx2
  refine wpAny_newObj_type (newEnv_comp ?_)
  have fresh : H2 s2.heap.objs.size = none := I2.hok.fresh (Nat.le_refl _)
  obtain ⟨W, ⟨m0, w0⟩, turn⟩ := q _ fresh
  -- the heap with the new dict
  have I3 : Inv X pins σ (upd H2 s2.heap.objs.size (o s2.heap.objs.size)) { s2 with heap := s2.heap.push { cls := .type "dict", data := .dict #[] } } :=
    I2.laid (t' := s2.toks) (fun b u e => Heap.get?_push_of_some _ e) (Nat.le_refl _) (hd _ _ I2.big)
  have size3 : (s2.heap.push { cls := .type "dict", data := .dict #[] }).objs.size = s2.heap.objs.size + 1 := Heap.size_push ..
  revert I3 size3 w0 turn
  generalize hD : s2.heap.objs.size = D at fresh ⊢
  generalize hS : ({ s2 with heap := s2.heap.push { cls := .type "dict", data := .dict #[] } } : Shared) = s3
  intro turn w0 I3 size3
  have heap3 : s3.heap = s2.heap.push { cls := .type "dict", data := .dict #[] } := by rw [← hS]
  have at3 : tn 0 s3.heap := T.keep _ _ _ at2 fun b _ u e => by rw [heap3]; exact Heap.get?_push_of_some _ e
  have f3 : ∀ b ∈ fp, FpOk X pins (upd H2 D (o D)) b ∧ b < s3.heap.objs.size := fun b hb => by
    obtain ⟨u, e, _⟩ := T.obj _ _ at2 b hb
    have lt := Heap.lt_size e
    refine ⟨⟨(upd_ne (Nat.ne_of_lt (hD ▸ lt))).trans (f2 b hb).1, (f2 b hb).2⟩, ?_⟩
    rw [heap3, size3]; exact Nat.lt_succ_of_lt (hD ▸ lt)
  have I4 := block_start I3 ok hN f3
  have pg := hg s3 (upd H2 D (o D)) s3.heap.objs.size (cellsFrom (s3.heap.objs.size + 1) scope.names (cloFrom X.env.cells scope.names [])) fp
  have pt := ht s3 (upd H2 D (o D)) s3.heap.objs.size (cellsFrom (s3.heap.objs.size + 1) scope.names (cloFrom X.env.cells scope.names [])) fp
  have pk := hk s3 (upd H2 D (o D)) s3.heap.objs.size (cellsFrom (s3.heap.objs.size + 1) scope.names (cloFrom X.env.cells scope.names [])) fp
  have pv := he s3 (upd H2 D (o D)) s3.heap.objs.size (cellsFrom (s3.heap.objs.size + 1) scope.names (cloFrom X.env.cells scope.names [])) fp
  have nofp : ∀ b ∈ fp, (upd H2 D (o D)) b = none := fun b hb => (f3 b hb).1.1
  show codeAny _ _ (.compStart (.DictComp kx vx [⟨tg, iter, ifs, 0⟩] scope pos) 0 (.ref it) (.ref D) (compEnvC scope (cellsFrom (s3.heap.objs.size + 1) scope.names (cloFrom X.env.cells scope.names [])) s3.heap.objs.size X.env)) (compPost (model X.prog X.w) X.A X.xe none _ (.ref D) s3.heap.objs.size) _
  have locC : (compEnvC scope (cellsFrom (s3.heap.objs.size + 1) scope.names (cloFrom X.env.cells scope.names [])) s3.heap.objs.size X.env).locals = s3.heap.objs.size := rfl
  revert I4 pg pt pk pv locC
  generalize compEnvC scope (cellsFrom (s3.heap.objs.size + 1) scope.names (cloFrom X.env.cells scope.names [])) s3.heap.objs.size X.env = ce
  intro I4 pg pt pk pv locC
  revert I3 I4 pg pt pk pv w0 nofp f3
  generalize upd H2 D (o D) = H3
  intro w0 I3 f3 nofp I4 pg pt pk pv
  revert I4
  generalize hs4 : ({ s3 with heap := pushCells (s3.heap.push { cls := .type "dict", data := .dict #[] }) scope.names } : Shared) = s4
  intro I4
  have at4 : tn 0 s4.heap := T.keep _ _ _ at3 fun b _ u e => by rw [← hs4]; exact pushCells_keeps _ _ _ _ (Heap.get?_push_of_some _ e)
  have foot : ∀ {τ : L2.St} {Ha : Hp} {sa : Shared}, Inv (X.blk s3 H3 scope ce fp) [] τ Ha sa → (∀ b ∈ fp, Ha b = none) → ∀ b ∈ fp, FpOk (X.blk s3 H3 scope ce fp) [] Ha b := fun {τ Ha sa} Ia hn b hb =>
    ⟨hn b hb, (Ia.ok.exf b hb).1, Ia.ok.exfs b hb, .inl hb, fun x c e => (Ia.ok.exf b hb).2 x c e, fun p hp => absurd (show p ∈ ([] : List (Addr × Obj)) ++ [] from hp) (by simp)⟩
  suffices loop : codeAny (model X.prog X.w) X.A (.compLoop (.DictComp kx vx [⟨tg, iter, ifs, 0⟩] scope pos) 0 (.ref it) (.ref D) ce) (compPost (model X.prog X.w) X.A X.xe none (EP X pins σ Q) (.ref D) s3.heap.objs.size) s4 from
    codeAny_compStart_dict loop (T.self X.A 0 _ _ _ at4 loop)
  refine compLoop_anyD (fun m sa => ∃ i Ha, Inv (X.blk s3 H3 scope ce fp) [] (wipe σ (own.map (·.2))) Ha sa ∧ tn i sa.heap ∧ (∀ b ∈ fp, Ha b = none) ∧ W i m Ha) (fun m s5 hyp => ?_) m0 ⟨0, H3, I4, at4, nofp, w0⟩
  obtain ⟨i, H5, I5, at5, n5, w5⟩ := hyp
  rcases turn i m H5 w5 with ⟨stop, qe⟩ | ⟨go, Nx, hNx, step⟩
  · refine thnF (T.done (X.blk s3 H3 scope ce fp) rfl rfl rfl hc i [] s5 _ H5 (fun _ _ => False) I5 (foot I5 n5) at5 stop) fun _ s6 ⟨e6, I6⟩ => ?_
    subst e6
    have I7 : Inv X pins σ H5 s6 := I3.call' (ch := fp) I6.os I6.base I6.hok I6.bare fun b hb => let z := (f3 b hb).1.2; ⟨z.2.2.1, z.1, z.2.2.2.1, z.2.2.2.2⟩
    have noC : H5 s3.heap.objs.size = none := locC ▸ I6.free
    obtain ⟨mm, hn, _⟩ := I6.loc
    have hn' : s6.heap.Ns s3.heap.objs.size mm := locC ▸ hn
    refine ⟨mm, hn', fun h2 sb => ?_⟩
    obtain ⟨k0, k1, k2, k3, k4, k5⟩ := I3.fpOk (Nat.le_refl _) noC
    exact ⟨.ref D, H5, I7.turned (t' := s6.toks) (fun b u hb e => (sb.2 b hb).trans e) k0 k1 k3 k4 k5, rfl, qe⟩
  · refine thnF (T.item (X.blk s3 H3 scope ce fp) rfl rfl rfl hc i [] s5 _ H5 (fun _ _ => False) I5 (foot I5 n5) at5 go) fun _ s6 ⟨u, e6, h6⟩ => ?_
    subst e6
    refine thnF h6 fun _ s7 ⟨x, H7, I7, r7, y7, at7, n7⟩ => ?_
    refine thnF (pg.run _ s7 _ H7 x u _ (I7.pinned (foot I7 n7) (T.obj _ _ at7)) r7 (step x H7 y7)) fun _ s8 ⟨σ8, H8, I8, hw, q8⟩ => ?_
    refine thnF (pt.run _ s8 σ8 H8 _ I8 q8) fun b s9 ⟨H9, I9, q9⟩ => ?_
    have next : ∀ {sa : Shared} {Ha : Hp}, Inv (X.blk s3 H3 scope ce fp) ([] ++ pinsAt fp s7.heap) σ8 Ha sa → Nx Ha → ∃ m', m' < m ∧ ∃ i Hb, Inv (X.blk s3 H3 scope ce fp) [] (wipe σ (own.map (·.2))) Hb sa ∧ tn i sa.heap ∧ (∀ b ∈ fp, Hb b = none) ∧ W i m' Hb := fun {sa Ha} Ia nx => by
      obtain ⟨m', hm, w'⟩ := hNx Ha nx
      have there : ∀ b ∈ fp, ∀ u, s7.heap.get? b = some u → sa.heap.get? b = some u ∧ Ha b = none := fun b hb u e =>
        let z := Ia.pin (b, u) (List.mem_append_right _ (List.mem_append_right _ (mem_pinsAt hb e))); ⟨z.1, z.2.1⟩
      refine ⟨m', hm, i + 1, Ha, (Ia.unpinned (pins := [])).weak (by rw [← hw, wipe_length]) (fun j v e => (wipe_some (hw ▸ e)).1), T.keep _ _ _ at7 fun b hb u e => (there b hb u e).1, fun b hb => ?_, w'⟩
      obtain ⟨u, e, _⟩ := T.obj _ _ at7 b hb
      exact (there b hb u e).2
    cases b with
    | false => exact next I9 q9
    | true =>
      refine thnF (pk.run _ s9 σ8 H9 _ I9 q9) fun ku s10 ⟨yk, H10, I10, r10, q10⟩ => ?_
      refine thnF (pv.run _ s10 σ8 H10 _ I10 q10) fun vu s11 ⟨yv, H11, I11, r11, q11⟩ => ?_
      exact thnF (hr (X.blk s3 H3 scope ce fp) rfl rfl rfl _ s11 σ8 H11 D yk yv ku vu Nx _ I11 r10 r11 q11) fun _ s12 ⟨H12, I12, q12⟩ => next I12 q12
end
end Pd
end

section
set_option Elab.async false
set_option linter.all false
set_option autoImplicit false
set_option maxRecDepth 100000
/-! Pd: dict comprehensions, dict displays with written keys, by values. -/
namespace Pd
open PySem L2 PySem.SeqAt
variable [Wd]

/-! ### two kinds of keys -/
def rSetK : RSet := fun D y z H Q => ∃ kvs k, y = kV k ∧ H D = some (.dK kvs) ∧ kvs.length < sizeLine ∧ Q (upd H D (.dK (putK kvs k z)))
def rSetT : RSet := fun D y z H Q => ∃ b kvs k, y = .ref b ∧ DTG H D kvs ∧ H b = some (.tup (k.map leafV)) ∧ kvs.length < sizeLine ∧ Q (upd H D (dTO D (putT kvs k b z)))
section
variable {X : Cx}
theorem dset_K : DSet X rSetK := fun Y hp hw hA pins s σ H D y z u v Q Z I ry rz h => by
  obtain ⟨kvs, k, rfl, hD, hz, q⟩ := h
  exact d_dictSet I hD hz ry rz fun s' I' => ⟨_, I', q⟩
theorem dset_T (hp0 : X.prog = Wd.P ∧ X.w = Wd.w) (hu : X.A.units + 64 < cLine) : DSet X rSetT := fun Y hp hw hA pins s σ H D y z u v Q Z I ry rz h => by
  obtain ⟨b, kvs, k, rfl, g, hk, hz, q⟩ := h
  cases ry
  have hpY : Y.prog = Wd.P ∧ Y.w = Wd.w := ⟨hp.trans hp0.1, hw.trans hp0.2⟩
  obtain ⟨_, hd, xs, r, m⟩ := dit_at I g
  have hu' : Y.A.units + 1 < cLine := by rw [hA]; omega
  have := wpAny_dictSet_heap (prog := Wd.P) (w := Wd.w) (A := Y.A) (E := Z) (Q := fun _ s' => ∃ H', Inv Y pins σ H' s' ∧ Q H') (knd := tkn) (v := v) (by show Y.A.units < cLine; omega) (key_at I hk) m (fun h' m' hs => ⟨_, by
    obtain ⟨o, es, ep, e1, e2, e3, e4, e5, e6⟩ := m'
    exact I.write (o := dTO D (putT kvs k b z)) (e := D) (by rw [g.1]; exact True.intro) (.inl rfl) (fun b' u' hb hu' => (hs.2 b' hb).trans hu') ⟨o, e1⟩ (dTO_ok ⟨Nat.le_trans (length_putT _ _ _ _) hz, hd, _, r.put k b rz, o, es, ep, e1, e2, e3, e4, e6⟩), q⟩) (by rw [← r.length]; omega)
  rw [hpY.1, hpY.2]; exact this
theorem dnew_K : DNew X (fun _ => .dK []) := fun H h hb => dk_empty h hb
theorem dnew_T : DNew X (fun a => dTO a []) := fun H h hb => dTO_ok ⟨Nat.zero_le _, beq_eq_false_iff_ne.mpr (Ne.symm (Nat.ne_of_lt hb)), [], .nil, _, #[], 0, Heap.get?_push_size _ rfl, ⟨rfl, rfl, rfl⟩, rfl, rfl, List.nodup_nil⟩
end
abbrev KVs := List (PyData × PyData)
/-- keys of a kind: how one is stored; what stands for the entries -/
structure KK where
  put : KVs → PyData → PyData → Option KVs
  new0 : Addr → HO
  set : RSet
  rel : Addr → Hp → HO → KVs → Prop
structure KKOk (X : Cx) (k : KK) : Prop where
  new : DNew X k.new0
  set : DSet X k.set
  nil : ∀ D G, k.rel D G (k.new0 D) []
  sub : ∀ {D G G' u kvs}, Sub G G' → k.rel D G u kvs → k.rel D G' u kvs
  step : ∀ {D : Addr} {G H : Hp} {u : HO} {kvs kvs' : KVs} {y z : V} {d e : PyData}, Sam G H → k.rel D G u kvs → H D = some u → Rp G y d → Rp G z e → k.put kvs d e = some kvs' → ∃ u', k.rel D G u' kvs' ∧ ∀ Q : Hp → Prop, Q (upd H D u') → k.set D y z H Q
def dputK : KVs → PyData → PyData → Option KVs := fun kvs d e => match keyOf d with | some k => if kvs.length < sizeLine then some (dPut kvs k e) else none | none => none
def dputT : KVs → PyData → PyData → Option KVs := fun kvs d e => match tkOf d with | some k => if kvs.length < sizeLine then some (tPut kvs k e) else none | none => none
def kkK : KK := ⟨dputK, fun _ => .dK [], rSetK, fun _ G u kvs => ∃ xs, u = .dK xs ∧ Rkv G xs kvs⟩
def kkT : KK := ⟨dputT, fun a => dTO a [], rSetT, fun D G u kvs => ∃ xs, u = dTO D xs ∧ Rtv G xs kvs⟩
theorem keyOf_rp' {G : Hp} {y : V} {d : PyData} {k : Key} (r : Rp G y d) (h : keyOf d = some k) : y = kV k := by
  cases r <;> simp [keyOf] at h <;> subst h <;> rfl
theorem tkOf_rp {G : Hp} {y : V} {d : PyData} {k : List Leaf} (r : Rp G y d) (h : tkOf d = some k) : ∃ b, y = .ref b ∧ G b = some (.tup (k.map leafV)) := by
  cases r with
  | tup h1 z r1 => exact ⟨_, rfl, by rw [h1, leafsOf_rp r1 h]⟩
  | _ => simp [tkOf] at h
theorem kkK_ok {X : Cx} : KKOk X kkK where
  new := dnew_K
  set := dset_K
  nil := fun _ _ => ⟨[], rfl, .nil⟩
  sub := fun s ⟨xs, e, r⟩ => ⟨xs, e, r.sub s⟩
  step := fun {D G H u kvs kvs' y z d e} s ⟨xs, eu, r⟩ hD ry rz h => by
    subst eu
    simp only [kkK, dputK] at h
    split at h
    · rename_i k hk
      split at h
      · rename_i hl
        cases h
        have := keyOf_rp' ry hk
        subst this
        exact ⟨_, ⟨_, rfl, r.put rz⟩, fun Q q => ⟨xs, k, rfl, hD, by rw [r.length]; exact hl, q⟩⟩
      · cases h
    · cases h
theorem kkT_ok {X : Cx} (hp0 : X.prog = Wd.P ∧ X.w = Wd.w) (hu : X.A.units + 64 < cLine) : KKOk X kkT where
  new := dnew_T
  set := dset_T hp0 hu
  nil := fun _ _ => ⟨[], rfl, .nil⟩
  sub := fun s ⟨xs, e, r⟩ => ⟨xs, e, r.sub s⟩
  step := fun {D G H u kvs kvs' y z d e} s ⟨xs, eu, r⟩ hD ry rz h => by
    subst eu
    simp only [kkT, dputT] at h
    split at h
    · rename_i k hk
      split at h
      · rename_i hl
        cases h
        obtain ⟨b, rfl, hb⟩ := tkOf_rp ry hk
        exact ⟨_, ⟨_, rfl, r.put hb rz⟩, fun Q q => ⟨b, xs, k, rfl, ⟨hD, fun e he => tup_of s (r.keys e he)⟩, tup_of s hb, by rw [r.length]; exact hl, q⟩⟩
      · cases h
    · cases h

/-! ### the comprehension -/
def dcL (put : KVs → PyData → PyData → Option KVs) (tg : SemG) (c : SemT) (ek ev : SemE) (en : En) : List PyData → KVs → Sto → Res KVs
  | [], acc, st => .ok acc st
  | d :: ds, acc, st => (noX (tg (.p d) en st)).bind fun en1 st => (noX (c en1 st)).bind fun b st => if b = true then (noX (ek en1 st)).bind fun w st => (noX (ev en1 st)).bind fun v st => match w, v with
      | .p x, .p e => match put acc x e with
        | some acc' => dcL put tg c ek ev en ds acc' st
        | none => .bad
      | _, _ => .bad
    else dcL put tg c ek ev en ds acc st
def keepDO (kvs : KVs) (st : Sto) : Res W := .ok (.o st.length) (st ++ [.dic kvs])
def keepTO (kvs : KVs) (st : Sto) : Res W := .ok (.o st.length) (st ++ [.dit kvs])
def sDc (put : KVs → PyData → PyData → Option KVs) (s : SemI) (tg : SemG) (c : SemT) (ek ev : SemE) (vs : List Nat) (kp : KVs → Sto → Res W) : SemE := fun en st => (s en st).bind fun ds st => (dcL put tg c ek ev (wipeE en vs) ds [] st).bind kp
def KeepD (X : Cx) (k : KK) (kp : KVs → Sto → Res W) : Prop := ∀ (E : XK) (F G : Hp) (al : Al) (st : Sto) (H : Hp) (D : Addr) (u : HO) (kvs : KVs) (Q : VK), RelS (bx X F) G al st H → H D = some u → D ∉ al → G D = none → F D = none →
  k.rel D G u kvs → Post (bx X F) E G al (PQ (bx X F) Q) (kp kvs st) → Q (.ref D) H
section
variable {X : Cx} {E : XK}
theorem keepDO_ok : KeepD X kkK keepDO := fun E F G al st H D u kvs Q R hD ha hg hf ⟨xs, e, r⟩ p => by
  subst e
  obtain ⟨g, R'⟩ := R.add (c := .dic kvs) ha hf hD ⟨hg, xs, hD, r⟩
  exact p G _ H g R' _ ⟨D, by rw [← R.len]; exact List.getElem?_concat_length, rfl⟩
theorem keepTO_ok : KeepD X kkT keepTO := fun E F G al st H D u kvs Q R hD ha hg hf ⟨xs, e, r⟩ p => by
  subst e
  obtain ⟨g, R'⟩ := R.add (c := .dit kvs) ha hf hD ⟨hg, xs, hD, r⟩
  exact p G _ H g R' _ ⟨D, by rw [← R.len]; exact List.getElem?_concat_length, rfl⟩
theorem dc_ok {k : KK} {s : SemI} {g : TG} {sg : SemG} {c : SemT} {ek ev : SemE} {vs : List Nat} {kp : KVs → Sto → Res W} (ok : KKOk X k) (hk : KeepD X k kp) (hg : GW X g sg vs) {σ : L2.St} {H : Hp} {Q : VK}
    (h : tD (bx X) E (sDc k.put s sg c ek ev vs kp) σ H Q) : tDcX k.new0 k.set (iD (bx X) E s) g (tDT (bx X) E0 c) (tD (bx X) E0 ek) (tD (bx X) E0 ev) vs σ H Q := by
  obtain ⟨F, G, al, en, st, R, p⟩ := h
  refine ⟨F, G, al, en, st, R, (Post.bind p).imp fun ds G1 al1 st1 H1 g1 rs1 q J hz wk D hD => ?_⟩
  have hF : F D = none := rs1.noF hD
  obtain ⟨hG, hA⟩ := rs1.free hD
  have en1 : EnvOk (bx X F) G1 al1 (wipeE en vs) (L2.wipe σ vs) := ((EnvOk.of R).gr g1).wipe vs
  refine ⟨fun i m H => m = ds.length - i ∧ i ≤ ds.length ∧ ∃ G al st u kvs, Gr G1 al1 G al ∧ RelS (bx X (upd F D u)) G al st H ∧ k.rel D G u kvs ∧ Post (bx X F) E G al (PQ (bx X F) Q) ((dcL k.put sg c ek ev (wipeE en vs) (ds.drop i) kvs st).bind kp),
    ⟨ds.length, by simp, Nat.zero_le _, G1, al1, st1, k.new0 D, [], .refl _ _, (rs1.beside hD).frame upd_same hA hG, ok.nil D G1, q⟩, ?_⟩
  rintro i m H2 ⟨rfl, hle, G2, al2, st2, u, kvs, g2, rs2, ra, q2⟩
  obtain ⟨go, stop⟩ := wk (upd F D u) i G2 al2 st2 H2 g2 rs2
  cases hd : ds[i]? with
  | none =>
    refine .inl ⟨stop hd, ?_⟩
    have e : ds.drop i = [] := List.drop_eq_nil_of_le (List.getElem?_eq_none_iff.mp hd)
    rw [e] at q2
    obtain ⟨f1, f2, f3⟩ := rs2.frameAt
    exact hk E F G2 al2 st2 H2 D u kvs Q (rs2.unframe hF) f1 f2 f3 hF ra q2
  | some d =>
    have hlt : i < ds.length := (List.getElem?_eq_some_iff.mp hd).1
    rw [drop_get hd] at q2
    obtain ⟨hgo, hy⟩ := go d hd
    refine .inr ⟨hgo, fun H' => ∃ G al st u kvs, Gr G1 al1 G al ∧ RelS (bx X (upd F D u)) G al st H' ∧ k.rel D G u kvs ∧ Post (bx X F) E G al (PQ (bx X F) Q) ((dcL k.put sg c ek ev (wipeE en vs) (ds.drop (i + 1)) kvs st).bind kp),
      fun H' h => ⟨ds.length - (i + 1), by omega, rfl, hlt, h⟩, fun x H3 y => ?_⟩
    obtain ⟨G3, g3, rs3, rx⟩ := hy x H3 y
    have q3 := Post.gr q2 g3
    have g13 := g2.trans g3
    have q4 : Post (bx X F) E G3 al2 (PQ (bx X F) Q) ((noX (sg (.p d) (wipeE en vs) st2)).bind fun en1 st => (((noX (c en1 st)).bind fun b st => if b = true then (noX (ek en1 st)).bind fun w st => (noX (ev en1 st)).bind fun v st => match w, v with
        | .p x, .p e => match k.put kvs x e with
          | some acc' => dcL k.put sg c ek ev (wipeE en vs) (ds.drop (i + 1)) acc' st
          | none => .bad
        | _, _ => .bad
      else dcL k.put sg c ek ev (wipeE en vs) (ds.drop (i + 1)) kvs st)).bind kp) := by
      rw [← Res.bind_assoc]; exact q3
    show tTurn _ _ _ _ _ _ _ _ _ _ _
    refine hg (upd F D u) G3 al2 (wipeE en vs) st2 (L2.wipe σ vs) H3 x (.p d) E0 _ ⟨rs3, (en1.gr g13).1, (en1.gr g13).2⟩ rx ((Post.bindF q4).imp fun en4 G4 al4 st4 H4 g4 rs4 q5 σ4 hw e4 => ⟨hw.trans (wipe_wipe vs), ?_⟩)
    rw [Res.bind_assoc] at q5
    refine ⟨upd F D u, G4, al4, en4, st4, Rel.env rs4 e4, (Post.bindF q5).imp fun b G5 al5 st5 H5 g5 rs5 q6 => ?_⟩
    cases b with
    | false =>
      rw [if_neg Bool.false_ne_true] at q6
      refine iteF ?_
      exact ⟨G5, al5, st5, u, kvs, g2.trans (g3.trans (g4.trans g5)), rs5, ok.sub (g3.trans (g4.trans g5)).sub ra, q6⟩
    | true =>
      rw [if_pos rfl, Res.bind_assoc] at q6
      refine iteT ?_
      refine ⟨upd F D u, G5, al5, en4, st5, ⟨rs5, (e4.gr g5).1, (e4.gr g5).2⟩, (Post.bindF q6).imp fun w G6 al6 st6 H6 g6 rs6 q7 y6 ry => ?_⟩
      rw [Res.bind_assoc] at q7
      refine ⟨upd F D u, G6, al6, en4, st6, ⟨rs6, (e4.gr (g5.trans g6)).1, (e4.gr (g5.trans g6)).2⟩, (Post.bindF q7).imp fun v G7 al7 st7 H7 g7 rs7 q8 z7 rz => ?_⟩
      have ry7 := ry.gr g7
      obtain ⟨f1, f2, f3⟩ := rs7.frameAt
      cases w with
      | o n => exact q8.elim
      | s ns => exact q8.elim
      | p xk =>
        cases v with
        | o n => exact q8.elim
        | s ns => exact q8.elim
        | p xe =>
          have gg := g3.trans (g4.trans (g5.trans (g6.trans g7)))
          simp only at q8
          cases hp : k.put kvs xk xe with
          | none => rw [hp] at q8; exact q8.elim
          | some kvs' =>
            rw [hp] at q8
            obtain ⟨u', ru, st8⟩ := ok.step rs7.sam (ok.sub gg.sub ra) f1 ry7 rz hp
            exact st8 _ ⟨G7, al7, st7, u', kvs', g2.trans gg, rs7.frameSet hF, ru, q8⟩
variable {kx vx tg iter : Expr} {ifs : List Expr} {scope : Scope} {own : List (Str × Nat)} {pos : Pos} {s : SemI} {g : TG} {sg : SemG} {c : SemT} {ek ev : SemE}
theorem se_dc {k : KK} {kp : KVs → Sto → Res W} (kk : KKOk X k) (hk : KeepD X k kp) (hc : X.calm = true) (hN : X.N.Nodup) (hi : SI X E tg iter s) (ok : BlkOk X.N X.env.scope scope own)
    (hg : ∀ (s : Shared) (H : Hp) (C : Addr) (cl : List (Str × Addr)) (fp : List Addr), PG (X.blk s H scope (compEnvC scope cl C X.env) fp) tg g) (gw : GW X g sg (own.map (·.2)))
    (ht : ∀ (s : Shared) (H : Hp) (C : Addr) (cl : List (Str × Addr)) (fp : List Addr), PTs (X.blk s H scope (compEnvC scope cl C X.env) fp) ifs (tDT (bx X) E0 c))
    (hkx : ∀ (s : Shared) (H : Hp) (C : Addr) (cl : List (Str × Addr)) (fp : List Addr), SE (X.blk s H scope (compEnvC scope cl C X.env) fp) E0 kx ek)
    (hvx : ∀ (s : Shared) (H : Hp) (C : Addr) (cl : List (Str × Addr)) (fp : List Addr), SE (X.blk s H scope (compEnvC scope cl C X.env) fp) E0 vx ev) (hs : ∀ x, foldedSetIterable iter X.env x = pure x := by intro _; rfl) :
    SE X E (.DictComp kx vx [⟨tg, iter, ifs, 0⟩] scope pos) (sDc k.put s sg c ek ev (own.map (·.2)) kp) := (pe_dcX kk.new kk.set hc hN hi ok hg ht hkx hvx hs).weak fun _ _ _ h => dc_ok kk hk gw h

theorem se_dcK (hc : X.calm = true) (hN : X.N.Nodup) (hi : SI X E tg iter s) (ok : BlkOk X.N X.env.scope scope own)
    (hg : ∀ (s : Shared) (H : Hp) (C : Addr) (cl : List (Str × Addr)) (fp : List Addr), PG (X.blk s H scope (compEnvC scope cl C X.env) fp) tg g) (gw : GW X g sg (own.map (·.2)))
    (ht : ∀ (s : Shared) (H : Hp) (C : Addr) (cl : List (Str × Addr)) (fp : List Addr), PTs (X.blk s H scope (compEnvC scope cl C X.env) fp) ifs (tDT (bx X) E0 c))
    (hkx : ∀ (s : Shared) (H : Hp) (C : Addr) (cl : List (Str × Addr)) (fp : List Addr), SE (X.blk s H scope (compEnvC scope cl C X.env) fp) E0 kx ek)
    (hvx : ∀ (s : Shared) (H : Hp) (C : Addr) (cl : List (Str × Addr)) (fp : List Addr), SE (X.blk s H scope (compEnvC scope cl C X.env) fp) E0 vx ev) (hs : ∀ x, foldedSetIterable iter X.env x = pure x := by intro _; rfl) :
    SE X E (.DictComp kx vx [⟨tg, iter, ifs, 0⟩] scope pos) (sDc dputK s sg c ek ev (own.map (·.2)) keepDO) := se_dc kkK_ok keepDO_ok hc hN hi ok hg gw ht hkx hvx hs
theorem se_dcT (hp0 : X.prog = Wd.P ∧ X.w = Wd.w) (hu : X.A.units + 64 < cLine) (hc : X.calm = true) (hN : X.N.Nodup) (hi : SI X E tg iter s) (ok : BlkOk X.N X.env.scope scope own)
    (hg : ∀ (s : Shared) (H : Hp) (C : Addr) (cl : List (Str × Addr)) (fp : List Addr), PG (X.blk s H scope (compEnvC scope cl C X.env) fp) tg g) (gw : GW X g sg (own.map (·.2)))
    (ht : ∀ (s : Shared) (H : Hp) (C : Addr) (cl : List (Str × Addr)) (fp : List Addr), PTs (X.blk s H scope (compEnvC scope cl C X.env) fp) ifs (tDT (bx X) E0 c))
    (hkx : ∀ (s : Shared) (H : Hp) (C : Addr) (cl : List (Str × Addr)) (fp : List Addr), SE (X.blk s H scope (compEnvC scope cl C X.env) fp) E0 kx ek)
    (hvx : ∀ (s : Shared) (H : Hp) (C : Addr) (cl : List (Str × Addr)) (fp : List Addr), SE (X.blk s H scope (compEnvC scope cl C X.env) fp) E0 vx ev) (hs : ∀ x, foldedSetIterable iter X.env x = pure x := by intro _; rfl) :
    SE X E (.DictComp kx vx [⟨tg, iter, ifs, 0⟩] scope pos) (sDc dputT s sg c ek ev (own.map (·.2)) keepTO) := se_dc (kkT_ok hp0 hu) keepTO_ok hc hN hi ok hg gw ht hkx hvx hs

/-! ### {"a": e, ..} -/
def rcdOf : List Str → List W → List (Str × W) → Option (List (Str × W))
  | k :: ks, w :: ws, acc => rcdOf ks ws (putR acc k w)
  | [], [], acc => some acc
  | _, _, _ => none
def sRcd (ks : List Str) (t : SemA) : SemE := fun en st => (noX (t en st)).bind fun ws st => match rcdOf ks ws [] with
  | some kvs => .ok (.o st.length) (st ++ [.rcd kvs])
  | none => .bad
/-- the parts of such a display -/
def SPs (X : Cx) (E : XK) (pos : Pos) (keys : List (Option Expr)) (values : List Expr) (ks : List Str) (t : SemA) : Prop := ∃ trs, PPs X pos keys values trs ∧ ∀ σ H (Q : List (V × V) → Hp → Prop), tDA (bx X) E t σ H (fun ys H' => Q ((ks.map V.str).zip ys) H') → tPairs trs σ H Q
theorem sps_nil : SPs X E pos [] [] [] sNil := ⟨[], pps_nil, fun σ H Q ⟨F, G, al, en, st, R, p⟩ => p G al H (.refl _ _) R.s [] .nil⟩
theorem sps_cons {k : Str} {j : Nat} {kp : Pos} {v : Expr} {keys : List (Option Expr)} {vs : List Expr} {ks : List Str} {sv : SemE} {t : SemA} (hv : SE X E v sv) (h : SPs X E pos keys vs ks t) :
    SPs X E pos (some (.Constant (.str k) j kp) :: keys) (v :: vs) (k :: ks) (sCons sv t) := by
  obtain ⟨trs, h1, h2⟩ := h
  refine ⟨_, pps_cons pe_str hv h1, fun σ H Q ⟨F, G, al, en, st, R, p⟩ => ?_⟩
  show tD (bx X) E sv σ H _
  exact tD_bind (sa := sv) (k := fun w en st => (t en st).bind fun ws st => .ok (w :: ws) st) (Q := PQs (bx X F) fun ys H' => Q (((k :: ks).map V.str).zip ys) H') R p fun x H1 G1 al1 st1 w R1 r1 p1 _ => h2 σ H1 _
    (tDA_bind (sa := t) (k := fun ws _ st => .ok (w :: ws) st) (Q := PQs (bx X F) fun ys H' => Q (((k :: ks).map V.str).zip ys) H') R1 p1 fun xs H2 G2 al2 st2 ws R2 r2 p2 g2 => p2 G2 al2 H2 (.refl _ _) R2.s (x :: xs) (.cons (r1.gr g2) r2))
theorem rcd_rel {B : Bx} {G : Hp} {al : Al} : ∀ {ks : List Str} {ys : List V} {ws : List W} {a0 : List (Key × V)} {acc kvs : List (Str × W)}, Rws B G al ys ws → Rrs B G al a0 acc → rcdOf ks ws acc = some kvs →
    ∃ ms : List (Key × V), (ks.map V.str).zip ys = ms.map (fun kv => (kV kv.1, kv.2)) ∧ ms.length = ks.length ∧ Rrs B G al (mergeK a0 ms) kvs
  | [], _, _, a0, acc, kvs, .nil, ra, h => by simp [rcdOf] at h; subst h; exact ⟨[], rfl, rfl, ra⟩
  | [], _, _, a0, acc, kvs, .cons _ _, ra, h => by simp [rcdOf] at h
  | k :: ks, _, _, a0, acc, kvs, .nil, ra, h => by simp [rcdOf] at h
  | k :: ks, _, _, a0, acc, kvs, .cons (a := y) hr t, ra, h => by
    simp only [rcdOf] at h
    obtain ⟨ms, e1, e2, r⟩ := rcd_rel t (Rrs.put (k := k) ra hr) h
    exact ⟨(.inr k, y) :: ms, by rw [List.map_cons, List.zip_cons_cons, e1]; rfl, by simp [e2], r⟩
theorem se_rcd {keys : List (Option Expr)} {values : List Expr} {ks : List Str} {t : SemA} (h : SPs X E0 pos keys values ks t) (hall : keys.all (·.isSome) = true) (hl : keys.length = values.length) (h0 : keys ≠ []) (h15 : keys.length ≤ 15) (hks : ks.length ≤ 15) :
    SE X E (.Dict keys values pos) (sRcd ks t) := by
  obtain ⟨trs, h1, h2⟩ := h
  refine (pe_disp h1 hall hl h0 h15).weak fun σ H Q ⟨F, G, al, en, st, R, p⟩ D hD => h2 σ _ _ ?_
  have hF : F D = none := R.s.noF hD
  obtain ⟨hG, hA⟩ := R.s.free hD
  refine ⟨upd F D (.dK []), G, al, en, st, ⟨(R.s.beside hD).frame upd_same hA hG, R.len, R.loc⟩, (Post.bindF p).imp fun ws G1 al1 st1 H1 g1 rs1 q ys rys => ?_⟩
  obtain ⟨f1, f2, f3⟩ := rs1.frameAt
  refine ⟨f1, ?_⟩
  cases hr : rcdOf ks ws [] with
  | none => rw [hr] at q; exact q.elim
  | some kvs =>
    rw [hr] at q
    obtain ⟨ms, e1, e2, r⟩ := rcd_rel (a0 := []) rys .nil hr
    refine ⟨ms, e1, by omega, ?_⟩
    have R2 := rs1.frameSet (v := .dK (mergeK [] ms)) hF
    obtain ⟨k1, k2, k3⟩ := R2.frameAt
    have R3 := R2.unframe hF
    obtain ⟨g, R4⟩ := R3.add (c := .rcd kvs) f2 hF k1 ⟨f3, _, k1, Rrs.gr ⟨Sub.refl _, fun n a e => by
      have hl : n < al1.length := (List.getElem?_eq_some_iff.mp e).1
      rw [List.getElem?_append_left hl]; exact e⟩ r⟩
    exact q G1 _ _ g R4 _ ⟨D, by rw [← R3.len]; exact List.getElem?_concat_length, rfl⟩
end
end Pd
end

section
set_option Elab.async false
set_option linter.all false
set_option autoImplicit false
set_option maxRecDepth 100000
/-! Pd: list(..) of anything, join, xs[::-1], remove, dict of pairs, loops over lists that are open. -/
namespace Pd
open PySem L2 PySem.SeqAt
variable [Wd]
section
variable {X : Cx} {E : XK} {x : Str} {p pos apos cpos : Pos} {e o a b c : Expr} {es : List Expr} {t : SemA} {s so si sv : SemE}

/-! ### list(..) -/
def rListT : List V → Hp → VK → Prop := fun xs H Q => ∃ (d : Addr) (kvs : List TE3), xs = [.ref d] ∧ DTG H d kvs ∧ ∀ p, H p = none → Q (.ref p) (upd H p (.lst (kvs.map fun e => V.ref e.2.1)))
theorem refs_rel : ∀ l : List Addr, Vals (l.map V.ref) (l.map Value.ref)
  | [] => .nil
  | _ :: l => .cons rfl (refs_rel l)
theorem call_listT (hc : X.calm = true) : CallR X (.type "list") rListT := by
  intro pins st σ H xs us Q I r h
  obtain ⟨d, kvs, rfl, g, q⟩ := h
  rw [Vals.ref1 r]
  obtain ⟨z, hs, ys, r3, o, es, ep, e1, e2, e3, e4, e5, e6⟩ := dit_at I g
  have hsz : es.size = ys.length := by
    have := congrArg List.length e4
    simpa using this
  have hl : kvs.length = ys.length := r3.length
  have hmap : kvs.map (fun e => e.2.1) = ys.map fun y => y.2.1 := by
    clear q z e4 e5 e6 hsz hl g
    induction r3 with
    | nil => rfl
    | cons h t ih => rw [List.map_cons, List.map_cons, ih, h.2.1]
  refine PySem.W.kdl_call (kdl_raw hs e2 e3) (I.ok.hd hc) e1 (by omega) fun h' tk acc c' kp ea it => ?_
  have hacc : acc.toList = (kvs.map fun e => e.2.1).map Value.ref := by
    rw [hmap]
    apply List.ext_getElem?
    intro j
    cases hj : acc.toList[j]? with
    | none =>
      have h1 := List.getElem?_eq_none_iff.mp hj
      rw [Array.length_toList, it.1] at h1
      rw [List.getElem?_eq_none (by simpa [hsz] using h1)]
    | some v =>
      obtain ⟨en, hen, hv⟩ := it.2 j v (by rw [← Array.getElem?_toList]; exact hj)
      rw [← Array.getElem?_toList, e4, List.getElem?_map] at hen
      rw [List.getElem?_map, List.getElem?_map]
      cases hy : ys[j]? with
      | none => rw [hy] at hen; cases hen
      | some y =>
        rw [hy] at hen
        have := Option.some.inj hen
        rw [hv, ← this]; rfl
  refine ⟨.ref st.heap.objs.size, _, I.laid (t' := tk) (o := .lst (kvs.map fun e => V.ref e.2.1)) kp (Nat.le_refl _) ⟨by rw [List.length_map]; exact z, acc.toList, c', ?_, by rw [Array.toArray_toList]; exact ea⟩, rfl, q _ (I.hok.fresh (Nat.le_refl _))⟩
  rw [hacc]
  have := refs_rel (kvs.map fun e => e.2.1)
  rw [List.map_map] at this
  exact this
def rListA (K : PySem.W.Frag) : List V → Hp → VK → Prop := fun xs H Q => (∃ p ys, xs = [.ref p] ∧ (SqL K H p ys ∨ SqT K H p ys) ∧ ∀ l, H l = none → Q (.ref l) (upd H l (.lst ys))) ∨
  ((∃ (a : Addr) (kvs : List (Key × V)), xs = [.ref a] ∧ Rd H a (.dK kvs) ∧ ∀ p, H p = none → Q (.ref p) (upd H p (.lst (kvs.map fun kv => kV kv.1)))) ∨ rListT xs H Q)
theorem call_listA (hc : X.calm = true) : CallR X (.type "list") (rListA X.K) := fun pins st σ H xs us Q I r h => by
  rcases h with h | h | h
  · exact call_list_of pins st σ H xs us Q I r h
  · exact call_listD hc pins st σ H xs us Q I r h
  · exact call_listT hc pins st σ H xs us Q I r h
def cListA (mk : Mk1) : OpC := fun ws st => match ws with
  | [.s ns] => mk (ns.map .int) st
  | [w] => match val st w with
    | some (.list ds) => mk ds st
    | some (.tuple ds) => mk ds st
    | some (.dict kvs) => if (kvs.all fun kv => (keyOf kv.1).isSome) = true then mk (kvs.map (·.1)) st else .bad
    | _ => match ditOf st w with
      | some kvs => mk (kvs.map (·.1)) st
      | none => .bad
  | _ => .bad
theorem rkv_keys {G : Hp} : ∀ {kvs : List (Key × V)} {ds : KVs}, Rkv G kvs ds → Rps G (kvs.map fun kv => kV kv.1) (ds.map (·.1))
  | _, _, .nil => .nil
  | _, _, .cons (k := k) h r => .cons (rp_keyD k) (rkv_keys r)
theorem leafs_rps {G : Hp} : ∀ ks : List Leaf, Rps G (ks.map leafV) (ks.map leafD)
  | [] => .nil
  | k :: ks => .cons (by cases k <;> constructor) (leafs_rps ks)
theorem rtv_keys {G : Hp} : ∀ {kvs : List TE3} {ds : KVs}, Rtv G kvs ds → (∀ e ∈ kvs, e.1.length ≤ sizeLine) → Rps G (kvs.map fun e => V.ref e.2.1) (ds.map (·.1))
  | _, _, .nil, _ => .nil
  | _, _, .cons (ks := ks) h g r, z => .cons (.tup h (by rw [List.length_map]; exact z _ List.mem_cons_self) (leafs_rps ks)) (rtv_keys r fun e he => z e (List.mem_cons_of_mem _ he))
theorem leafsOf_len : ∀ {ds : List PyData} {ks : List Leaf}, leafsOf ds = some ks → ks.length = ds.length
  | [], ks, h => by simp [leafsOf] at h; subst h; rfl
  | d :: ds, ks, h => by
    unfold leafsOf at h
    split at h
    · rename_i k ks' h1 h2
      cases h
      rw [List.length_cons, List.length_cons, leafsOf_len h2]
    · cases h
def tupsShort (kvs : KVs) : Bool := kvs.all fun kv => match kv.1 with
  | .tuple ds => decide (ds.length ≤ sizeLine)
  | _ => false
theorem rtv_short {G : Hp} : ∀ {kvs : List TE3} {ds : KVs}, Rtv G kvs ds → tupsShort ds = true → ∀ e ∈ kvs, e.1.length ≤ sizeLine
  | _, _, .nil, _, e, he => by cases he
  | _, _, .cons (ks := ks) h g r, hs, e, he => by
    unfold tupsShort at hs
    rw [List.all_cons, Bool.and_eq_true] at hs
    rcases List.mem_cons.mp he with rfl | he
    · simpa using hs.1
    · exact rtv_short r hs.2 e he
def cListB (mk : Mk1) : OpC := fun ws st => match ws with
  | [w] => match ditOf st w with
      | some kvs => if tupsShort kvs = true then mk (kvs.map (·.1)) st else .bad
      | none => cListA mk ws st
  | _ => .bad
theorem pr_listA {mk : Mk1} (hk : MkLOk X E mk) : PrimC (bx X) E (cListB mk) (rListA X.K) := by
  intro F G al st H xs ws Q R r p
  unfold cListB at p
  split at p
  · rename_i w
    split at p
    · rename_i kvs hd
      split at p
      · rename_i hs
        obtain ⟨v, rfl, rv⟩ := one_arg r
        obtain ⟨d, es, rfl, g, rt⟩ := ditOf_ok R rv hd
        exact .inr (.inr ⟨d, es, rfl, g, (hk R (rtv_keys rt (rtv_short rt hs)) p).2⟩)
      · exact p.elim
    · rename_i hd
      unfold cListA at p
      split at p
      · rename_i ns he
        cases he
        obtain ⟨v, rfl, rv⟩ := one_arg r
        obtain ⟨a, rfl, hq⟩ := rv
        exact .inl ⟨a, _, rfl, .inl (scr_at R hq), (hk R (rps_ints ns) p).2⟩
      · rename_i w' _ he
        cases he
        obtain ⟨v, rfl, rv⟩ := one_arg r
        split at p
        · rename_i ds e1
          cases val_rv R rv e1 with
          | lst h z r2 => exact .inl ⟨_, _, rfl, .inl (SqL.of h), (hk R r2 p).2⟩
        · rename_i ds e1
          cases val_rv R rv e1 with
          | tup h z r2 => exact .inl ⟨_, _, rfl, .inr (SqT.of h), (hk R r2 p).2⟩
        · rename_i ds e1
          split at p
          · cases val_rv R rv e1 with
            | dic h r2 => exact .inr (.inl ⟨_, _, rfl, h, (hk R (rkv_keys r2) p).2⟩)
          · exact p.elim
        · rw [hd] at p; exact p.elim
      · exact p.elim
  · exact p.elim

/-! ### sep.join(xs) -/
def sJoin (so s : SemE) : SemE := fun en st => (so en st).bind fun w st => match w with
  | .p (.str z) => (s en st).bind fun u st => match val st u with
    | some (.list ds) => match strsOf ds with
      | some ys => if (ys.map (·.length)).sum + ys.length * z.length ≤ 16777216 then retS (Txt.join z ys) st else .bad
      | none => .bad
    | _ => .bad
  | _ => .bad
theorem se_join (ho : SE X E o so) (he : SE X E e s) (hs : starEach [e] X.env = [(false, eval e X.env)] := by rfl) (hbase : attributeBase o "join" X.env (eval o X.env) = eval o X.env := by rfl) (hline : (apos.endLine == pos.line) = true := by rfl) :
    SE X E (.Call (.Attribute o "join" apos) [e] [] pos) (sJoin so s) := (pe_join ho he hs hbase hline).weak fun σ H Q ⟨F, G, al, en, st, R, p⟩ => by
  refine tD_bind (sa := so) (k := fun w en st => match w with
    | .p (.str z) => (s en st).bind fun u st => match val st u with
      | some (.list ds) => match strsOf ds with
        | some ys => if (ys.map (·.length)).sum + ys.length * z.length ≤ 16777216 then retS (Txt.join z ys) st else .bad
        | none => .bad
      | _ => .bad
    | _ => .bad) R p fun v H1 G1 al1 st1 w R1 r1 p1 _ => ?_
  split at p1
  · rename_i z
    cases r1
    refine ⟨⟨z, rfl⟩, tD_bind (sa := s) (k := fun u _ st => match val st u with
      | some (.list ds) => match strsOf ds with
        | some ys => if (ys.map (·.length)).sum + ys.length * z.length ≤ 16777216 then retS (Txt.join z ys) st else .bad
        | none => .bad
      | _ => .bad) R1 p1 fun v2 H2 G2 al2 st2 u R2 r2 p2 _ => ?_⟩
    split at p2
    · rename_i ds e1
      split at p2
      · rename_i ys hy
        split at p2
        · rename_i hz
          cases val_rv R2.s r2 e1 with
          | lst h zz rr =>
            rw [strsOf_ok rr hy] at h
            exact ⟨z, _, ys, rfl, rfl, .inl (SqL.of h), hz, retS_ok R2.s p2⟩
        · exact p2.elim
      · exact p2.elim
    · exact p2.elim
  · exact p1.elim

/-! ### xs[::-1] -/
def sRev (mk : Mk1) (s : SemE) : SemE := fun en st => (s en st).bind fun w st => match val st w with
  | some (.list ds) => mk ds.reverse st
  | _ => .bad
theorem se_rev {mk : Mk1} {k : Nat} {p1 p2 p3 : Pos} (hk : MkLOk X E mk) (he : SE X E e s) : SE X E (.Subscript e (.Slice none none (some (.UnaryOp .USub (.Constant (.int 1) k p1) p2)) p3) pos) (sRev mk s) := (pe_revL he).weak fun σ H Q ⟨F, G, al, en, st, R, p⟩ =>
  tD_bind (sa := s) (k := fun w _ st => match val st w with
    | some (.list ds) => mk ds.reverse st
    | _ => .bad) R p fun v H1 G1 al1 st1 w R1 r1 p1 _ => by
    split at p1
    · rename_i ds e1
      cases val_rv R1.s r1 e1 with
      | lst h z rr => exact ⟨_, _, rfl, SqL.of h, (hk R1.s rr.reverse p1).2⟩
    · exact p1.elim

/-! ### xs.remove(y) -/
def rRemD (K : PySem.W.Frag) : V → List V → Hp → VK → Prop := fun x vs H Q => ∃ (l : Addr) (xs : List V) (ds : List PyData) (y : V) (d : PyData) (j : Nat), x = .ref l ∧ vs = [y] ∧ H l = some (.lst xs) ∧ DpAll K H xs ds ∧ Dp K H y d ∧ PyData.plainAll ds = true ∧ d.plain = true ∧ d.depth ≤ 60 ∧
  dataPlace ds d = some j ∧ Q .non (upd H l (.lst (xs.eraseIdx j)))
theorem mt_removeD (hu : X.A.units + 64 < cLine) : MtR X "list.remove" (rRemD X.K) := by
  intro pins st σ H x vs v us Q I rx rv h
  obtain ⟨l, xs, ds, y, d, j, rfl, rfl, hH, hds, hy, h1, h2, h3, hj, q⟩ := h
  cases rx
  cases rv with
  | cons ry rt =>
    cases rt
    obtain ⟨z, its, n, r, hl, e⟩ := I.lstM hH
    obtain ⟨as, ra⟩ := Dp.readsAll I ds xs its hds r
    obtain ⟨bs, rb⟩ := Dp.reads I d y _ hy ry
    have hz : its.toArray.size ≤ sizeLine := by rw [List.size_toArray]; omega
    refine remove_list_data (vs := its.toArray) ⟨_, e, rfl, n, rfl⟩ ra rb h1 h2 (by have := Nat.min_le_right (PyData.depthAll ds) d.depth; omega) hj hz ?_
    have eI : (its.toArray.eraseIdxIfInBounds j) = (its.eraseIdx j).toArray := by simp
    refine ⟨.non, _, I.lset (t' := st.toks) (its' := its.eraseIdx j) hH e (List.eraseIdxIfInBounds_toArray ..) (r.eraseIdx j) (Nat.le_trans (len_erase xs j) z), rfl, q⟩
def dPlace (ds : List PyData) (d : PyData) : Option Nat := dataPlace ds d
def mRemove : OpM := fun w ws st => match w, ws with
  | .o n, [u] => match st[n]?, val st u with
    | some (.lst ds), some d => if PyData.plainAll ds && d.plain && decide (d.depth ≤ 60) then (match dPlace ds d with
      | some j => .ok (.p .none) (st.set n (.lst (ds.eraseIdx j)))
      | none => .bad) else .bad
    | _, _ => .bad
  | _, _ => .bad
theorem pr_remove : PrimM X E mRemove (rRemD X.K) := by
  intro F G al st H x xs w ws Q R rx rxs p
  unfold mRemove at p
  split at p
  · rename_i n u
    obtain ⟨v, rfl, rv⟩ := one_arg rxs
    obtain ⟨a, ha, rfl⟩ := rx
    split at p
    · rename_i ds d hc hd
      split at p
      · rename_i hh
        simp only [Bool.and_eq_true, decide_eq_true_eq] at hh
        split at p
        · rename_i j hj
          obtain ⟨g0, ys, e1, z, rr⟩ := R.cel n a _ ha hc
          refine ⟨a, ys, ds, v, d, j, rfl, rfl, e1, Rps.dp R.sam rr hh.1.1, (val_rv R rv hd).dp R.sam hh.1.2, hh.1.1, hh.1.2, hh.2, hj, ?_⟩
          have R2 := R.write (u := .lst (ys.eraseIdx j)) (c := .lst (ds.eraseIdx j)) ha g0 ⟨g0, _, upd_same, Nat.le_trans (len_erase ys j) z, rr.erase j⟩
          exact p G al _ (.refl _ _) R2 _ .non
        · exact p.elim
      · exact p.elim
    · exact p.elim
  · exact p.elim
theorem se_remove (hu : X.A.units + 64 < cLine) (ho : SE X E o so) (ha : SA X E (e :: es) t) (hbase : attributeBase o "remove" X.env (eval o X.env) = eval o X.env := by rfl)
    (hfew : ((backTo cpos (starEach (e :: es) X.env)).all (fun x => !x.1) && (backToKw cpos (keywordEach [] X.env)).all (fun x => x.1.isSome) && decide ((e :: es).length + ([] : List Keyword).length + (if ([] : List Keyword).isEmpty then 0 else 1) < 30)) = true := by rfl)
    (hline : (apos.endLine == cpos.line) = true := by rfl) (hs : starEach (e :: es) X.env = (false, eval e X.env) :: starEach es X.env := by rfl) (hplain : (backTo cpos (starEach es X.env)).any (·.1) = false := by rfl) :
    SE X E (.Call (.Attribute o "remove" apos) (e :: es) [] cpos) (sBm mRemove so t) :=
  (pe_bm PySem.F.plainAttrs_list PySem.F.slot_list_remove PySem.F.type_list_remove (mt_removeD hu) ho ha hbase hfew hline hs hplain).weak fun _ _ _ h => bm_go pr_remove h

/-! ### dict([(k, v), ..]) -/
def pairsOf : List PyData → Option KVs
  | [] => some []
  | .tuple [k, v] :: ds => match keyOf k, pairsOf ds with
    | some _, some r => some ((k, v) :: r)
    | _, _ => none
  | _ => none
def dMerge (ps : KVs) : KVs := ps.foldl (fun acc kv => match keyOf kv.1 with | some k => dPut acc k kv.2 | none => acc) []
/-- open -/
def cDictP : OpC := fun ws st => match ws with
  | [w] => match val st w with
    | some (.list ds) => match pairsOf ds with
      | some ps => if ps.length ≤ sizeLine then .ok (.o st.length) (st ++ [.dic (dMerge ps)]) else .bad
      | none => .bad
    | _ => .bad
  | _ => .bad
theorem rkv_merge {G : Hp} : ∀ {ms : List (Key × V)} {ps : KVs}, Rkv G ms ps → ∀ {kvs : List (Key × V)} {acc : KVs}, Rkv G kvs acc → Rkv G (mergeK kvs ms) (ps.foldl (fun acc kv => match keyOf kv.1 with | some k => dPut acc k kv.2 | none => acc) acc)
  | _, _, .nil, _, _, r => r
  | _, _, .cons (k := k) h t, _, _, r => by
    rw [List.foldl_cons]
    simp only [keyOf_keyD]
    exact rkv_merge t (r.put h)
theorem keyD_of {d : PyData} {k : Key} (h : keyOf d = some k) : keyD k = d := by
  cases d <;> simp [keyOf] at h <;> subst h <;> rfl
theorem pairs_rel {K : PySem.W.Frag} {G H : Hp} (s : Sam G H) : ∀ {ds : List PyData} {xs : List V} {ps : KVs}, Rps G xs ds → pairsOf ds = some ps →
    ∃ (as : List Addr) (ms : List (Key × V)), xs = as.map V.ref ∧ Paired (fun p kv => SqT K H p [kV kv.1, kv.2]) as ms ∧ Rkv G ms ps
  | [], _, ps, .nil, h => by simp [pairsOf] at h; subst h; exact ⟨[], [], rfl, .nil, .nil⟩
  | d :: ds, _, ps, .cons hd t, h => by
    cases hd with
    | tup h1 z r =>
      cases r with
      | nil => simp [pairsOf] at h
      | cons rk r2 =>
        cases r2 with
        | nil => simp [pairsOf] at h
        | cons rv r3 =>
          cases r3 with
          | cons _ _ => simp [pairsOf] at h
          | nil =>
            simp only [pairsOf] at h
            split at h
            · rename_i k r' hk hr
              cases h
              obtain ⟨as, ms, e1, e2, e3⟩ := pairs_rel s t hr
              have ek := keyOf_rp' rk hk
              subst ek
              have ed := keyD_of hk
              refine ⟨_ :: as, (k, _) :: ms, by rw [List.map_cons, e1], .cons (SqT.of (tup_of s h1)) e2, ?_⟩
              rw [← ed]
              exact .cons rv e3
            · cases h
    | _ => simp [pairsOf] at h
theorem pr_dictP : PrimC (bx X) E cDictP (fun xs H Q => ∃ (a : Addr) (ps : List Addr) (kvs : List (Key × V)), xs = [.ref a] ∧ SqL X.K H a (ps.map V.ref) ∧ Paired (fun p kv => SqT X.K H p [kV kv.1, kv.2]) ps kvs ∧
    ∀ p, H p = none → Q (.ref p) (upd H p (.dK (mergeK [] kvs)))) := by
  intro F G al st H xs ws Q R r p
  unfold cDictP at p
  split at p
  · rename_i w
    obtain ⟨v, rfl, rv⟩ := one_arg r
    split at p
    · rename_i ds e1
      split at p
      · rename_i ps hp
        split at p
        · cases val_rv R rv e1 with
          | lst h z rr =>
            obtain ⟨as, ms, e2, e3, e4⟩ := pairs_rel (K := X.K) R.sam rr hp
            refine ⟨_, as, ms, rfl, by rw [← e2]; exact SqL.of h, e3, fun q hq => ?_⟩
            obtain ⟨g, R'⟩ := R.open (u := .dK (mergeK [] ms)) (c := .dic (dMerge ps)) hq ⟨(R.free hq).1, _, upd_same, rkv_merge e4 .nil⟩
            exact p G _ _ g R' _ ⟨q, by rw [← R.len]; exact List.getElem?_concat_length, rfl⟩
        · exact p.elim
      · exact p.elim
    · exact p.elim
  · exact p.elim
end
end Pd
end

section
set_option Elab.async false
set_option linter.all false
set_option autoImplicit false
set_option maxRecDepth 100000
/-! Pd: loops over open lists, comprehensions of two clauses, three names at once, name += e. -/
namespace Pd
open PySem L2 PySem.SeqAt
variable [Wd]
section
variable {X : Cx} {E : XK} {p pos apos cpos : Pos} {e o : Expr} {s so si sv : SemE}

/-! ### for x in xs, xs open -/
def lstAt (st : Sto) (n : Nat) : Option (List PyData) := match st[n]? with
  | some (.lst ds) => some ds
  | some (.frz (.list ds)) => some ds
  | _ => none
def forO (tg : SemG) (b : SemS) (n : Nat) : Nat → Nat → SemS
  | 0, _ => fun _ _ => .bad
  | f + 1, i => fun en st => match lstAt st n with
    | none => .bad
    | some ds => match ds[i]? with
      | none => .ok (.nx en) st
      | some d => (tg (.p d) en st).bind fun en st => (b en st).bind fun fl st => match fl with
        | .nx en => forO tg b n f (i + 1) en st
        | .ct en => forO tg b n f (i + 1) en st
        | .bk en => .ok (.nx en) st
        | .rt w => .ok (.rt w) st
def sForO (s : SemE) (tg : SemG) (b : SemS) (fuel : Nat) : SemS := fun en st => (s en st).bind fun w st => match w with
  | .o n => forO tg b n fuel 0 en st
  | _ => .bad
theorem lstAt_ok {F G : Hp} {al : Al} {st : Sto} {H : Hp} {n : Nat} {a : Addr} {ds : List PyData} (R : RelS (bx X F) G al st H) (ha : al[n]? = some a) (h : lstAt st n = some ds) : ∃ xs, H a = some (.lst xs) ∧ Rps G xs ds := by
  obtain ⟨c, hc, ok⟩ := R.get ha
  unfold lstAt at h
  rw [hc] at h
  cases c with
  | lst ds' => cases h; obtain ⟨_, xs, e, _, r⟩ := ok; exact ⟨xs, e, r⟩
  | frz d =>
    cases d with
    | list ds' =>
      cases h
      cases ok with
      | lst h1 z r =>
        rcases R.sam _ _ h1 with e | ⟨⟨_, e⟩, _⟩
        · exact ⟨_, e, r⟩
        · cases e
    | _ => cases h
  | _ => cases h
theorem ss_forO (fuel : Nat) {tg : Expr} {body : List Stmt} {g : SemG} {b : SemS} (hp : PassesOwn (model X.prog X.w) X.A X.env X.xe) (hc : X.calm = true) (he : SE X E e s) (hg : SG X E tg g) (hb : SSs X E body b)
    (hs : ∀ x, foldedSetIterable e X.env x = pure x := by intro _; rfl) : SS X E (.For tg e body [] pos) (sForO s g b fuel) :=
  (ps_for hp hc (pi_seq he) hg hb hs).weak fun D σ H ⟨F, G, al, en, st, R, p⟩ => by
    refine tD_bind (sa := s) (k := fun w en st => match w with | .o n => forO g b n fuel 0 en st | _ => .bad) (Q := PF (bx X F) D) R p fun x H1 G1 al1 st1 w R1 r1 p1 _ => ?_
    cases w with
    | p d => exact p1.elim
    | s ns => exact p1.elim
    | o n =>
      obtain ⟨a, ha, rfl⟩ := r1
      have p1 : Post (bx X F) E G1 al1 (PF (bx X F) D) (forO g b n fuel 0 en st1) := p1
      cases fuel with
      | zero => exact p1.elim
      | succ fuel =>
        have first : ∃ ds, lstAt st1 n = some ds := by
          cases hl : lstAt st1 n with
          | none => unfold forO at p1; rw [hl] at p1; exact p1.elim
          | some ds => exact ⟨ds, rfl⟩
        obtain ⟨ds, hl⟩ := first
        obtain ⟨xs, hx, _⟩ := lstAt_ok R1.s ha hl
        refine .inl ⟨a, rfl, .inl ⟨⟨xs, SqL.of hx⟩, ?_⟩⟩
        refine ⟨fun i m σ H => ∃ G al en st, al[n]? = some a ∧ Rel (bx X F) G al en st σ H ∧ Post (bx X F) E G al (PF (bx X F) D) (forO g b n m i en st), ⟨fuel + 1, G1, al1, en, st1, ha, R1, p1⟩, ?_⟩
        rintro i m σ H ⟨G2, al2, en2, st2, ha2, R2, q2⟩
        cases m with
        | zero => exact q2.elim
        | succ m =>
          unfold forO at q2
          cases hl2 : lstAt st2 n with
          | none => rw [hl2] at q2; exact q2.elim
          | some ds =>
            rw [hl2] at q2
            obtain ⟨xs, hx, rx⟩ := lstAt_ok R2.s ha2 hl2
            simp only at q2
            cases hd : ds[i]? with
            | none =>
              rw [hd] at q2
              refine .inl ⟨⟨xs, SqL.of hx, by rw [rx.length]; exact List.getElem?_eq_none_iff.mp hd⟩, q2 G2 al2 H (.refl _ _) R2.s σ (EnvOk.of R2)⟩
            | some d =>
              rw [hd] at q2
              obtain ⟨v, hv, rv⟩ := rx.get hd
              refine .inr ⟨⟨xs, v, SqL.of hx, hv⟩, fun σ' H' => ∃ G al en st, al[n]? = some a ∧ Rel (bx X F) G al en st σ' H' ∧ Post (bx X F) E G al (PF (bx X F) D) (forO g b n m (i + 1) en st),
                fun σ' H' h => ⟨m, Nat.lt_succ_self m, h⟩, fun y H3 ⟨e3, yv⟩ => ?_⟩
              subst e3
              have := yv xs (SqL.of hx)
              rw [hv] at this; cases this
              refine ⟨F, G2, al2, en2, st2, .p d, R2, rv, (Post.bind q2).imp fun en4 G4 al4 st4 H4 g4 rs4 q4 σ4 e4 => ?_⟩
              refine tDS_bind (Rel.env rs4 e4) q4 fun f G5 al5 st5 H5 g5 rs5 q5 => ?_
              have ha5 := (g4.trans g5).pre _ _ ha2
              cases f with
              | nx en5 => exact fun σ' e5 => ⟨G5, al5, en5, st5, ha5, Rel.env rs5 e5, q5⟩
              | ct en5 => exact fun σ' e5 => ⟨G5, al5, en5, st5, ha5, Rel.env rs5 e5, q5⟩
              | bk en5 => exact fun σ' e5 => q5 G5 al5 H5 (.refl _ _) rs5 σ' e5
              | rt w => exact fun v r => q5 G5 al5 H5 (.refl _ _) rs5 v r

/-! ### [elt for .. in .. for .. in ..] -/
def lc2L (tg : SemG) (c : SemT) (s1 : SemI) (tg1 : SemG) (c1 : SemT) (el : SemE) (vs1 : List Nat) (en : En) : List PyData → List PyData → Sto → Res (List PyData)
  | [], acc, st => .ok acc st
  | d :: ds, acc, st => (noX (tg (.p d) en st)).bind fun en1 st => (noX (c en1 st)).bind fun b st => if b = true then
      (noX (s1 en1 st)).bind fun ds1 st => (lcL tg1 c1 el (wipeE en1 vs1) ds1 acc st).bind fun acc st => if acc.length ≤ sizeLine then lc2L tg c s1 tg1 c1 el vs1 en ds acc st else .bad
    else lc2L tg c s1 tg1 c1 el vs1 en ds acc st
def sLc2 (s : SemI) (tg : SemG) (c : SemT) (s1 : SemI) (tg1 : SemG) (c1 : SemT) (el : SemE) (vs vs1 : List Nat) (kp : List PyData → Sto → Res W) : SemE := fun en st => (s en st).bind fun ds st => (lc2L tg c s1 tg1 c1 el vs1 (wipeE en vs) ds [] st).bind kp
theorem lc_len {tg : SemG} {c : SemT} {el : SemE} {en : En} : ∀ {ds acc out : List PyData} {st st' : Sto}, lcL tg c el en ds acc st = .ok out st' → acc.length ≤ out.length
  | [], acc, out, st, st', h => by unfold lcL at h; cases h; exact Nat.le_refl _
  | d :: ds, acc, out, st, st', h => by
    unfold lcL at h
    cases h1 : noX (tg (.p d) en st) with
    | bad => rw [h1] at h; cases h
    | exc x s => rw [h1] at h; cases h
    | ok en1 st1 =>
      rw [h1] at h
      change (noX (c en1 st1)).bind _ = _ at h
      cases h2 : noX (c en1 st1) with
      | bad => rw [h2] at h; cases h
      | exc x s => rw [h2] at h; cases h
      | ok b st2 =>
        rw [h2] at h
        change (if b = true then _ else _) = _ at h
        split at h
        · cases h3 : noX (el en1 st2) with
          | bad => rw [h3] at h; cases h
          | exc x s => rw [h3] at h; cases h
          | ok w st3 =>
            rw [h3] at h
            change (match w with | .p e => lcL tg c el en ds (acc ++ [e]) st3 | _ => .bad) = _ at h
            split at h
            · have := lc_len h
              rw [List.length_append] at this
              exact Nat.le_trans (Nat.le_add_right _ _) this
            · cases h
        · exact lc_len h
theorem noX_exc {α : Type} {r : Res α} {x : Exn} {st : Sto} (h : noX r = .exc x st) : False := by
  cases r <;> simp [noX] at h
theorem lc_noexc {tg : SemG} {c : SemT} {el : SemE} {en : En} {x : Exn} {st' : Sto} : ∀ {ds acc : List PyData} {st : Sto}, lcL tg c el en ds acc st = .exc x st' → False
  | [], acc, st, h => by unfold lcL at h; cases h
  | d :: ds, acc, st, h => by
    unfold lcL at h
    cases h1 : noX (tg (.p d) en st) with
    | bad => rw [h1] at h; cases h
    | exc x s => exact noX_exc h1
    | ok en1 st1 =>
      rw [h1] at h
      change (noX (c en1 st1)).bind _ = _ at h
      cases h2 : noX (c en1 st1) with
      | bad => rw [h2] at h; cases h
      | exc x s => exact noX_exc h2
      | ok b st2 =>
        rw [h2] at h
        change (if b = true then _ else _) = _ at h
        split at h
        · cases h3 : noX (el en1 st2) with
          | bad => rw [h3] at h; cases h
          | exc x s => exact noX_exc h3
          | ok w st3 =>
            rw [h3] at h
            change (match w with | .p e => lcL tg c el en ds (acc ++ [e]) st3 | _ => .bad) = _ at h
            split at h
            · exact lc_noexc h
            · cases h
        · exact lc_noexc h
theorem lc2_ok {s : SemI} {g g1 : TG} {sg sg1 : SemG} {c c1 : SemT} {s1 : SemI} {el : SemE} {vs vs1 : List Nat} {kp : List PyData → Sto → Res W} (hk : KeepOk X kp) (hg : GW X g sg vs) (hg1 : GW X g1 sg1 vs1) {σ : St} {H : Hp} {Q : VK}
    (h : tD (bx X) E (sLc2 s sg c s1 sg1 c1 el vs vs1 kp) σ H Q) : tLc2 (iD (bx X) E s) g (tDT (bx X) E0 c) (iD (bx X) E0 s1) g1 (tDT (bx X) E0 c1) (tD (bx X) E0 el) vs vs1 σ H Q := by
  obtain ⟨F, G, al, en, st, R, p⟩ := h
  refine ⟨F, G, al, en, st, R, (Post.bind p).imp fun ds G1 al1 st1 H1 g1' rs1 q J hz wk D hD => ?_⟩
  have hF : F D = none := rs1.noF hD
  obtain ⟨hG, hA⟩ := rs1.free hD
  have en1 : EnvOk (bx X F) G1 al1 (wipeE en vs) (L2.wipe σ vs) := ((EnvOk.of R).gr g1').wipe vs
  refine ⟨fun i m H => m = ds.length - i ∧ i ≤ ds.length ∧ ∃ G al st acc out, Gr G1 al1 G al ∧ RelS (bx X (upd F D (.lst acc))) G al st H ∧ Rps G acc out ∧ acc.length ≤ sizeLine ∧ Post (bx X F) E G al (PQ (bx X F) Q) ((lc2L sg c s1 sg1 c1 el vs1 (wipeE en vs) (ds.drop i) out st).bind kp),
    ⟨ds.length, by simp, Nat.zero_le _, G1, al1, st1, [], [], .refl _ _, (rs1.beside hD).frame upd_same hA hG, .nil, Nat.zero_le _, q⟩, ?_⟩
  rintro i m H2 ⟨rfl, hle, G2, al2, st2, acc, out, g2, rs2, ra, hl, q2⟩
  obtain ⟨go, stop⟩ := wk (upd F D (.lst acc)) i G2 al2 st2 H2 g2 rs2
  cases hd : ds[i]? with
  | none =>
    refine .inl ⟨stop hd, ?_⟩
    have e : ds.drop i = [] := List.drop_eq_nil_of_le (List.getElem?_eq_none_iff.mp hd)
    rw [e] at q2
    obtain ⟨f1, f2, f3⟩ := rs2.frameAt
    exact hk E F G2 al2 st2 H2 D acc out Q (rs2.unframe hF) f1 f2 f3 hF hl ra q2
  | some d =>
    have hlt : i < ds.length := (List.getElem?_eq_some_iff.mp hd).1
    rw [drop_get hd] at q2
    obtain ⟨hgo, hy⟩ := go d hd
    refine .inr ⟨hgo, fun H' => ∃ G al st acc out, Gr G1 al1 G al ∧ RelS (bx X (upd F D (.lst acc))) G al st H' ∧ Rps G acc out ∧ acc.length ≤ sizeLine ∧ Post (bx X F) E G al (PQ (bx X F) Q) ((lc2L sg c s1 sg1 c1 el vs1 (wipeE en vs) (ds.drop (i + 1)) out st).bind kp),
      fun H' h => ⟨ds.length - (i + 1), by omega, rfl, hlt, h⟩, fun x H3 y => ?_⟩
    obtain ⟨G3, g3, rs3, rx⟩ := hy x H3 y
    have q3 := Post.gr q2 g3
    have g13 := g2.trans g3
    have q4 : Post (bx X F) E G3 al2 (PQ (bx X F) Q) ((noX (sg (.p d) (wipeE en vs) st2)).bind fun en1 st => (((noX (c en1 st)).bind fun b st => if b = true then
        (noX (s1 en1 st)).bind fun ds1 st => (lcL sg1 c1 el (wipeE en1 vs1) ds1 out st).bind fun acc st => if acc.length ≤ sizeLine then lc2L sg c s1 sg1 c1 el vs1 (wipeE en vs) (ds.drop (i + 1)) acc st else .bad
      else lc2L sg c s1 sg1 c1 el vs1 (wipeE en vs) (ds.drop (i + 1)) out st)).bind kp) := by
      rw [← Res.bind_assoc]; exact q3
    refine hg (upd F D (.lst acc)) G3 al2 (wipeE en vs) st2 (L2.wipe σ vs) H3 x (.p d) E0 _ ⟨rs3, (en1.gr g13).1, (en1.gr g13).2⟩ rx ((Post.bindF q4).imp fun en4 G4 al4 st4 H4 g4 rs4 q5 σ4 hw e4 => ⟨hw.trans (wipe_wipe vs), ?_⟩)
    rw [Res.bind_assoc] at q5
    refine ⟨upd F D (.lst acc), G4, al4, en4, st4, Rel.env rs4 e4, (Post.bindF q5).imp fun b G5 al5 st5 H5 g5 rs5 q6 => ?_⟩
    cases b with
    | false =>
      rw [if_neg Bool.false_ne_true] at q6
      refine iteF ?_
      exact ⟨G5, al5, st5, acc, out, g2.trans (g3.trans (g4.trans g5)), rs5, ra.sub (g3.trans (g4.trans g5)).sub, hl, q6⟩
    | true =>
      rw [if_pos rfl, Res.bind_assoc] at q6
      refine iteT ?_
      refine ⟨upd F D (.lst acc), G5, al5, en4, st5, ⟨rs5, (e4.gr g5).1, (e4.gr g5).2⟩, (Post.bindF q6).imp fun ds1 G6 al6 st6 H6 g6 rs6 q7 J1 hz1 wk1 => ?_⟩
      have en6 : EnvOk (bx X F) G6 al6 (wipeE en4 vs1) (L2.wipe σ4 vs1) := (e4.gr (g5.trans g6)).wipe vs1
      have gg6 := g3.trans (g4.trans (g5.trans g6))
      rw [Res.bind_assoc] at q7
      refine ⟨fun j n H => n = ds1.length - j ∧ j ≤ ds1.length ∧ ∃ G al st acc out, Gr G6 al6 G al ∧ RelS (bx X (upd F D (.lst acc))) G al st H ∧ Rps G acc out ∧
          Post (bx X F) E G al (PQ (bx X F) Q) ((lcL sg1 c1 el (wipeE en4 vs1) (ds1.drop j) out st).bind fun acc st => (if acc.length ≤ sizeLine then lc2L sg c s1 sg1 c1 el vs1 (wipeE en vs) (ds.drop (i + 1)) acc st else .bad).bind kp),
        ⟨ds1.length, by simp, Nat.zero_le _, G6, al6, st6, acc, out, .refl _ _, rs6, ra.sub gg6.sub, q7⟩, ?_⟩
      rintro j n H7 ⟨rfl, hle7, G7, al7, st7, acc7, out7, g7, rs7, ra7, q8⟩
      obtain ⟨go1, stop1⟩ := wk1 (upd F D (.lst acc7)) j G7 al7 st7 H7 g7 rs7
      cases hd1 : ds1[j]? with
      | none =>
        refine .inl ⟨stop1 hd1, ?_⟩
        have e : ds1.drop j = [] := List.drop_eq_nil_of_le (List.getElem?_eq_none_iff.mp hd1)
        rw [e] at q8
        change Post _ _ _ _ _ ((if out7.length ≤ sizeLine then lc2L sg c s1 sg1 c1 el vs1 (wipeE en vs) (ds.drop (i + 1)) out7 st7 else .bad).bind kp) at q8
        by_cases hz7 : out7.length ≤ sizeLine
        · rw [if_pos hz7] at q8
          exact ⟨G7, al7, st7, acc7, out7, g2.trans (gg6.trans g7), rs7, ra7, by rw [ra7.length]; exact hz7, q8⟩
        · rw [if_neg hz7] at q8; exact q8.elim
      | some d1 =>
        have hlt1 : j < ds1.length := (List.getElem?_eq_some_iff.mp hd1).1
        rw [drop_get hd1] at q8
        -- the length never shrinks, and it is small at the end
        have small : acc7.length < sizeLine ∨ ∀ st w, lcL sg1 c1 el (wipeE en4 vs1) (ds1.drop (j + 1)) (out7 ++ [w]) st = .bad ∨ (∀ o st', lcL sg1 c1 el (wipeE en4 vs1) (ds1.drop (j + 1)) (out7 ++ [w]) st = .ok o st' → ¬ o.length ≤ sizeLine) := by
          by_cases hs : acc7.length < sizeLine
          · exact .inl hs
          · refine .inr fun st w => .inr fun o st' ho hz => hs ?_
            have := lc_len ho
            rw [List.length_append, List.length_singleton] at this
            rw [ra7.length]; omega
        obtain ⟨hgo1, hy1⟩ := go1 d1 hd1
        refine .inr ⟨hgo1, fun H' => ∃ G al st acc out, Gr G6 al6 G al ∧ RelS (bx X (upd F D (.lst acc))) G al st H' ∧ Rps G acc out ∧
            Post (bx X F) E G al (PQ (bx X F) Q) ((lcL sg1 c1 el (wipeE en4 vs1) (ds1.drop (j + 1)) out st).bind fun acc st => (if acc.length ≤ sizeLine then lc2L sg c s1 sg1 c1 el vs1 (wipeE en vs) (ds.drop (i + 1)) acc st else .bad).bind kp),
          fun H' h => ⟨ds1.length - (j + 1), by omega, rfl, hlt1, h⟩, fun x8 H8 y8 => ?_⟩
        obtain ⟨G8, g8, rs8, rx8⟩ := hy1 x8 H8 y8
        have q9 := Post.gr q8 g8
        have g68 := g7.trans g8
        have q10 : Post (bx X F) E G8 al7 (PQ (bx X F) Q) ((noX (sg1 (.p d1) (wipeE en4 vs1) st7)).bind fun en1 st => (((noX (c1 en1 st)).bind fun b st => if b = true then (noX (el en1 st)).bind fun w st => match w with
            | .p e => lcL sg1 c1 el (wipeE en4 vs1) (ds1.drop (j + 1)) (out7 ++ [e]) st
            | _ => .bad
          else lcL sg1 c1 el (wipeE en4 vs1) (ds1.drop (j + 1)) out7 st)).bind fun acc st => (if acc.length ≤ sizeLine then lc2L sg c s1 sg1 c1 el vs1 (wipeE en vs) (ds.drop (i + 1)) acc st else .bad).bind kp) := by
          rw [← Res.bind_assoc]; exact q9
        refine hg1 (upd F D (.lst acc7)) G8 al7 (wipeE en4 vs1) st7 (L2.wipe σ4 vs1) H8 x8 (.p d1) E0 _ ⟨rs8, (en6.gr g68).1, (en6.gr g68).2⟩ rx8 ((Post.bindF q10).imp fun en9 G9 al9 st9 H9 g9 rs9 q11 σ9 hw9 e9 => ⟨hw9.trans (wipe_wipe vs1), ?_⟩)
        rw [Res.bind_assoc] at q11
        refine ⟨upd F D (.lst acc7), G9, al9, en9, st9, Rel.env rs9 e9, (Post.bindF q11).imp fun b1 Ga ala sta Ha ga rsa q12 => ?_⟩
        cases b1 with
        | false =>
          rw [if_neg Bool.false_ne_true] at q12
          refine iteF ?_
          exact ⟨Ga, ala, sta, acc7, out7, g7.trans (g8.trans (g9.trans ga)), rsa, ra7.sub (g8.trans (g9.trans ga)).sub, q12⟩
        | true =>
          rw [if_pos rfl, Res.bind_assoc] at q12
          refine iteT ?_
          refine ⟨upd F D (.lst acc7), Ga, ala, en9, sta, ⟨rsa, (e9.gr ga).1, (e9.gr ga).2⟩, (Post.bindF q12).imp fun w Gb alb stb Hb gb rsb q13 v rv => ?_⟩
          obtain ⟨f1, f2, f3⟩ := rsb.frameAt
          cases w with
          | o n => exact q13.elim
          | s ns => exact q13.elim
          | p e =>
            have gg := g8.trans (g9.trans (ga.trans gb))
            have q13 : Post (bx X F) E Gb alb (PQ (bx X F) Q) ((lcL sg1 c1 el (wipeE en4 vs1) (ds1.drop (j + 1)) (out7 ++ [e]) stb).bind fun acc st => (if acc.length ≤ sizeLine then lc2L sg c s1 sg1 c1 el vs1 (wipeE en vs) (ds.drop (i + 1)) acc st else .bad).bind kp) := q13
            refine ⟨acc7, f1, ?_, Gb, alb, stb, acc7 ++ [v], out7 ++ [e], g7.trans gg, rsb.frameSet hF, (ra7.sub gg.sub).append (.cons rv .nil), q13⟩
            rcases small with hs | hs
            · exact hs
            · exfalso
              rcases hs stb e with hb | hb
              · rw [hb] at q13; exact q13.elim
              · cases ho : lcL sg1 c1 el (wipeE en4 vs1) (ds1.drop (j + 1)) (out7 ++ [e]) stb with
                | bad => rw [ho] at q13; exact q13.elim
                | exc x s => exact lc_noexc ho
                | ok o st' =>
                  rw [ho] at q13
                  change Post _ _ _ _ _ ((if o.length ≤ sizeLine then lc2L sg c s1 sg1 c1 el vs1 (wipeE en vs) (ds.drop (i + 1)) o st' else .bad).bind kp) at q13
                  rw [if_neg (hb o st' ho)] at q13
                  exact q13.elim
variable {elt tg iter tg1 iter1 : Expr} {ifs ifs1 : List Expr} {scope : Scope} {own : List (Str × Nat)} {s0 s1 : SemI} {g g1 : TG} {sg sg1 : SemG} {c c1 : SemT} {el : SemE} {vs1 : List Nat}
theorem se_lc2 {kp : List PyData → Sto → Res W} (hk : KeepOk X kp) (hc : X.calm = true) (hN : X.N.Nodup) (hi : SI X E tg iter s0) (ok : BlkOk X.N X.env.scope scope own) (hv : ∀ i ∈ vs1, i ∈ own.map (·.2))
    (hg : ∀ (s : Shared) (H : Hp) (C : Addr) (cl : List (Str × Addr)) (fp : List Addr), PG (X.blk s H scope (compEnvC scope cl C X.env) fp) tg g) (gw : GW X g sg (own.map (·.2)))
    (ht : ∀ (s : Shared) (H : Hp) (C : Addr) (cl : List (Str × Addr)) (fp : List Addr), PTs (X.blk s H scope (compEnvC scope cl C X.env) fp) ifs (tDT (bx X) E0 c))
    (hi1 : ∀ (s : Shared) (H : Hp) (C : Addr) (cl : List (Str × Addr)) (fp : List Addr), SI (X.blk s H scope (compEnvC scope cl C X.env) fp) E0 tg1 iter1 s1)
    (hg1 : ∀ (s : Shared) (H : Hp) (C : Addr) (cl : List (Str × Addr)) (fp : List Addr), PG (X.blk s H scope (compEnvC scope cl C X.env) fp) tg1 g1) (gw1 : GW X g1 sg1 vs1)
    (ht1 : ∀ (s : Shared) (H : Hp) (C : Addr) (cl : List (Str × Addr)) (fp : List Addr), PTs (X.blk s H scope (compEnvC scope cl C X.env) fp) ifs1 (tDT (bx X) E0 c1))
    (he : ∀ (s : Shared) (H : Hp) (C : Addr) (cl : List (Str × Addr)) (fp : List Addr), SE (X.blk s H scope (compEnvC scope cl C X.env) fp) E0 elt el) (hs : ∀ x, foldedSetIterable iter X.env x = pure x := by intro _; rfl) (hs1 : ∀ env x, foldedSetIterable iter1 env x = pure x := by intro _ _; rfl) :
    SE X E (.ListComp elt [⟨tg, iter, ifs, 0⟩, ⟨tg1, iter1, ifs1, 0⟩] scope pos) (sLc2 s0 sg c s1 sg1 c1 el (own.map (·.2)) vs1 kp) := (pe_lc2 hc hN hi ok hv hg ht hi1 hg1 ht1 he hs hs1).weak fun _ _ _ h => lc2_ok hk gw gw1 h

/-! ### a, b, c = x, y, z -/
def sPar3 (i j l : Nat) (t : SemA) : SemS := fun en st => (t en st).bind fun ws st => match ws with
  | [w, u, v] => .ok (.nx (((en.set i (some w)).set j (some u)).set l (some v))) st
  | _ => .bad
theorem ss_par3 {i j l : Nat} {x y z : Str} {a b c : Expr} {t : SemA} {px py pz pt : Pos} {kt k2 pt2} (hc : X.calm = true) (hN : X.N.Nodup) (hi : X.N[i]? = some x) (hj : X.N[j]? = some y) (hl : X.N[l]? = some z) (hij : i ≠ j) (hil : i ≠ l) (hjl : j ≠ l)
    (hx : X.env.scope.names.lookup x = some .local) (hy : X.env.scope.names.lookup y = some .local) (hz : X.env.scope.names.lookup z = some .local) (ha : SA X E [a, b, c] t)
    (hw : swappedStores [.Tuple [.Name x px, .Name y py, .Name z pz] kt pt] (.Tuple [a, b, c] k2 pt2) X.env = pure (some [x, y, z]))
    (hs : swapsWithSole [.Tuple [.Name x px, .Name y py, .Name z pz] kt pt] (.Tuple [a, b, c] k2 pt2) pos.line X.env = pure false := by rfl) :
    SS X E (.Assign [.Tuple [.Name x px, .Name y py, .Name z pz] kt pt] (.Tuple [a, b, c] k2 pt2) pos) (sPar3 i j l t) :=
  (ps_par3 hc hN hi hj hl hij hil hjl hx hy hz ha hw hs).weak fun D σ H ⟨F, G, al, en, st, R, p⟩ => by
    refine tDA_bind (sa := t) (k := fun ws en st => match ws with | [w, u, v] => Res.ok (Fl.nx (((en.set i (some w)).set j (some u)).set l (some v))) st | _ => .bad) (Q := PF (bx X F) D) R p fun xs H1 G1 al1 st1 ws R1 r1 p1 _ => ?_
    match xs, ws, r1, p1 with
    | [v1, v2, v3], [w1, w2, w3], .cons h1 (.cons h2 (.cons h3 .nil)), p1 => exact ⟨v1, v2, v3, rfl, p1 G1 al1 H1 (.refl _ _) R1.s _ ((((EnvOk.of R1).set h1).set h2).set h3)⟩
    | [], [], .nil, p1 => exact p1.elim
    | [v1], [w1], .cons h1 .nil, p1 => exact p1.elim
    | [v1, v2], [w1, w2], .cons h1 (.cons h2 .nil), p1 => exact p1.elim
    | _ :: _ :: _ :: _ :: _, _ :: _ :: _ :: _ :: _, .cons _ (.cons _ (.cons _ (.cons _ _))), p1 => exact p1.elim

/-! ### name += e, ints -/
def sAugI (i : Nat) (f : Int → Int → Int) (s : SemE) : SemS := fun en st => match en[i]? with
  | some (some (.p (.int a))) => (s en st).bind fun w st => match w with
    | .p (.int b) => .ok (.nx (en.set i (some (.p (.int (f a b)))))) st
    | _ => .bad
  | _ => .bad
theorem ss_augI {i : Nat} {x : Str} {f : Int → Int → Int} {op : Operator} {pos' : Pos} (ho : PIp X op (ipI f)) (hN : X.N.Nodup) (hi : X.N[i]? = some x) (hx : Loc X.env.scope x) (he : SE X E e s)
    (hf : X.fn x = true ∨ X.env.scope.names.lookup x = some .local := by first | exact .inl rfl | exact .inr rfl | assumption) : SS X E (.AugAssign (.Name x pos') op e pos) (sAugI i f s) :=
  (ps_aug hN hi hx he ho hf).weak fun D σ H ⟨F, G, al, en, st, R, p⟩ => by
    unfold sAugI at p
    split at p
    · rename_i a ha
      obtain ⟨v, hv, rv⟩ := R.loc i _ ha
      cases rv
      refine ⟨.int a, hv, tD_bind (sa := s) (k := fun w en st => match w with
        | .p (.int b) => Res.ok (Fl.nx (en.set i (some (.p (.int (f a b)))))) st
        | _ => .bad) (Q := PF (bx X F) D) R p fun y H1 G1 al1 st1 w R1 r1 p1 _ => ?_⟩
      split at p1
      · rename_i b
        cases r1
        exact ⟨a, b, rfl, rfl, p1 G1 al1 H1 (.refl _ _) R1.s _ ((EnvOk.of R1).set (.int (f a b)))⟩
      · exact p1.elim
    · exact p.elim
end
end Pd
end

section
set_option Elab.async false
set_option linter.all false
set_option autoImplicit false
set_option maxRecDepth 100000
/-! Pd: calls by keywords alone; repr. -/
namespace Pd
open PySem L2 PySem.SeqAt
variable [Wd]

/-- items at places -/
def pick {α : Type} (is : List Nat) (l : List α) : List α := is.filterMap fun i => l[i]?
theorem pick_rel {α β : Type} {R : α → β → Prop} {l : List α} {m : List β} (r : Paired R l m) : ∀ is : List Nat, Paired R (pick is l) (pick is m)
  | [] => .nil
  | i :: is => by
    have ih := pick_rel r is
    have at_i : (l[i]? = none ∧ m[i]? = none) ∨ ∃ a b, l[i]? = some a ∧ m[i]? = some b ∧ R a b := by
      clear ih
      induction r generalizing i with
      | nil => exact .inl ⟨by simp, by simp⟩
      | cons h t ih =>
        cases i with
        | zero => exact .inr ⟨_, _, by simp, by simp, h⟩
        | succ i => simpa using ih i
    unfold pick at ih ⊢
    rw [List.filterMap_cons, List.filterMap_cons]
    rcases at_i with ⟨e1, e2⟩ | ⟨a, b, e1, e2, h⟩
    · rw [e1, e2]; exact ih
    · rw [e1, e2]; exact .cons h ih
/-- a def that may be called by keywords -/
structure CalK (P : Program) (w : World) (K : PySem.W.Frag) (mg : Str → Option Value) (base : Heap) (x : Str) (k n : Nat) (ks : List Str) (is : List Nat) (f : Fn) : Prop where
  ex : ∃ (a : Addr) (fd : FuncData) (ps : List Str), mg x = some (.ref a) ∧ PySem.W.keepIn K (.ref a) = true ∧ FnOk P w K mg base CX0 k a fd ps (spF (bp P w K mg) n f) ∧ KBn K fd ps 0 ks (fun us ws => pick is (us ++ ws)) (fun us ws => pick is (us ++ ws))
theorem kb0 {K : PySem.W.Frag} {x qual : Str} {params : Arguments} {body : List Stmt} {scope : Scope} {f : Addr} {fd : FuncData} {ps ks : List Str} {is : List Nat} (F : FunD K x qual params body scope [] [] f fd)
    (h : ∀ (kV doc pm : Value) (an : Option Addr) (cdv ct : Value) (ws : List Value), ws.length = ks.length → bindArgs (PySem.W.fnOf x qual params body scope .none kV doc pm an cdv ct) ⟨[], ks.zip ws⟩ = pure (ps.zip (pick is ws))) :
    KBn K fd ps 0 ks (fun us ws => pick is (us ++ ws)) (fun us ws => pick is (us ++ ws)) := by
  obtain ⟨oc, od, dV, kV, doc, pm, an, cdv, ct, osl, rfl, lk, hcd, hD, hK⟩ := F.ex
  rcases hD with ⟨_, rfl⟩ | ⟨e, _⟩
  · refine ⟨fun s us ws X l1 l2 => ?_, fun r1 r2 => pick_rel (r1.append r2) is⟩
    obtain rfl := List.length_eq_zero_iff.mp l1
    exact .of_eq (h kV doc pm an cdv ct ws l2)
  · exact absurd rfl e
def sCallK (m : Nat) (is : List Nat) (f : Fn) (t : SemA) : SemE := fun en st => (t en st).bind fun ws st => if ws.length = m then f (pick is ws) st else .bad
abbrev SK (X : Cx) (E : XK) (kws : List Keyword) (t : SemA) : Prop := PK X kws (tDA (bx X) E t)
section
variable {X : Cx} {E : XK} {x : Str} {p pos kpos : Pos} {e : Expr} {kws : List Keyword} {t : SemA} {s : SemE} {k n : Nat} {ks : List Str} {is : List Nat} {f : Fn} {nm : Option Str}
theorem _root_.L2.PK.weak {X : Cx} {e : List Keyword} {t t' : TA} (h : PK X e t) (i : ∀ σ H Q, t' σ H Q → t σ H Q) : PK X e t' := ⟨fun pos pins s σ H Q I q => h.run pos pins s σ H Q I (i σ H Q q)⟩
theorem sk_nil : SK X E [] sNil := pk_nil.weak fun σ H Q ⟨F, G, al, en, st, R, p⟩ => p G al H (.refl _ _) R.s [] .nil
theorem sk_cons (ha : SE X E e s) (hr : SK X E kws t) : SK X E (⟨nm, e, kpos⟩ :: kws) (sCons s t) :=
  (pk_cons ha hr).weak fun σ H Q ⟨F, G, al, en, st, R, p⟩ =>
    tD_bind (sa := s) (k := fun w en st => (t en st).bind fun ws st => .ok (w :: ws) st) R p fun x H1 G1 al1 st1 w R1 r1 p1 _ =>
      tDA_bind (sa := t) (k := fun ws _ st => .ok (w :: ws) st) R1 p1 fun xs H2 G2 al2 st2 ws R2 r2 p2 g2 => p2 G2 al2 H2 (.refl _ _) R2.s _ (.cons (r1.gr g2) r2)
/-- f(k = v, ..) -/
theorem se_callK (C : CalK X.prog X.w X.K X.mg X.base x k n ks is f) (hr : Room k X.A) (hg : Gl X x) (hn : ∀ ws st, ws.length ≠ n → f ws st = .bad) (hkw : SK X E kws t) (hall : (backToKw pos (keywordEach kws X.env)).all (·.1.isSome) = true := by rfl)
    (hks : (backToKw pos (keywordEach kws X.env)).filterMap (·.1) = ks := by rfl) (hdb : (x == ("__debug__" : Str)) = false := by decide)
    (hpl : ((backTo pos (starEach [] X.env)).any (·.1) || (backToKw pos (keywordEach kws X.env)).any (·.1.isNone)) = false := by rfl) : SE X E (.Call (.Name x p) [] kws pos) (sCallK ks.length is f t) := by
  obtain ⟨a, fd, ps, h1, h2, h3, h4⟩ := C.ex
  refine ⟨fun pins s σ H Q I h => ?_⟩
  obtain ⟨F, G, al, en, st, R, pp⟩ := h
  refine wpAny_Call_Name_kw (ld_glob I hg h1 ?_ hdb)
  refine PySem.W.callWith_KW0 (h₀ := X.base) I.ok.mod.kin h2 hall ?_ hpl
  refine thn (hkw.run pos pins s σ H (fun zs H2 => zs.length = ks.length ∧ spF (bx X) n f (pick is zs) H2 Q E) I ?_) fun ws s2 ⟨zs, H2, I2, rz, l2, q2⟩ => ⟨I2.kIn, ?_⟩
  · refine tDA_bind (sa := t) (k := fun ws _ st => if ws.length = ks.length then f (pick is ws) st else .bad) R pp fun xs H1 G1 al1 st1 ws R1 r1 p1 _ => ?_
    have hl : xs.length = ws.length := Paired.length r1
    split at p1
    · rename_i hw
      refine ⟨by omega, ?_, F, G1, al1, st1, pick is ws, R1.s, pick_rel r1 is, p1⟩
      rw [Paired.length (pick_rel r1 is)]
      by_cases hx : (pick is ws).length = n
      · exact hx
      · have p1' : Post (bx X F) E G1 al1 (PQ (bx X F) Q) (f (pick is ws) st1) := p1
        rw [hn _ st1 hx] at p1'; exact p1'.elim
    · exact p1.elim
  · rw [hks]
    exact run_fnN h3 hr h4 (fun _ _ _ _ _ _ _ h => h.elim) I2 .nil rz rfl l2 q2

end

/-! ### repr -/
/-- numbers, texts, truths, None -/
def scal : PyData → Bool
  | .none => true
  | .bool _ => true
  | .int _ => true
  | .str _ => true
  | _ => false
/-- what repr is asked of -/
def showOk (d : PyData) : Bool := d.showable && decide (d.shown.length ≤ sizeLine) && decide (d.depth ≤ 40) && (d.plain || match d with
  | .dict kvs => kvs.all fun kv => (keyOf kv.1).isSome && scal kv.2
  | _ => false)
mutual
theorem plain_noDict : ∀ d : PyData, d.plain = true → d.hasDict = false
  | .none, _ => rfl
  | .bool _, _ => rfl
  | .int _, _ => rfl
  | .str _, _ => rfl
  | .list xs, h => by simp only [PyData.hasDict]; exact plain_noDicts xs (by simpa [PyData.plain] using h)
  | .tuple xs, h => by simp only [PyData.hasDict]; exact plain_noDicts xs (by simpa [PyData.plain] using h)
  | .dict _, h => by simp [PyData.plain] at h
theorem plain_noDicts : ∀ ds : List PyData, PyData.plainAll ds = true → PyData.hasDictAll ds = false
  | [], _ => rfl
  | d :: ds, h => by
    have h' := Bool.and_eq_true_iff.mp (by simpa [PyData.plainAll] using h)
    simp only [PyData.hasDictAll, plain_noDict d h'.1, plain_noDicts ds h'.2, Bool.or_self]
end
theorem scal_reads {G : Hp} {h : Heap} {v : V} {d : PyData} {u : Value} (r : Rp G v d) (hs : scal d = true) (ru : RelV v u) : Reads h u d [] := by
  cases r with
  | non => cases ru; exact .none
  | bl b => cases ru; exact .bool b
  | int i => obtain ⟨t, rfl⟩ := ru; exact .int i t
  | str x => obtain ⟨t, rfl⟩ := ru; exact .str x t
  | _ => simp [scal] at hs
theorem key_reads {h : Heap} {k : Key} {u : Value} (r : keyIs k u = true) : Reads h u (keyD k) [] := by
  cases k with
  | inl i => obtain ⟨t, rfl⟩ := (show ∃ t, u = Value.int i t from relV_key r); exact .int i t
  | inr x => obtain ⟨t, rfl⟩ := (show ∃ t, u = Value.str x t from relV_key r); exact .str x t
theorem flat_reads {P : Program} {w : World} {G : Hp} {h : Heap} : ∀ {es : List DictEntry} {vs : List (Key × Value)} {kvs : List (Key × V)} {ds : KVs}, Pairs (mixKind P w) es vs → KV kvs vs → Rkv G kvs ds → (ds.all fun kv => (keyOf kv.1).isSome && scal kv.2) = true →
    ReadsAll h (es.map (·.key)) (ds.map (·.1)) [] ∧ ReadsAll h (es.map (·.val)) (ds.map (·.2)) []
  | _, _, _, _, .nil, .nil, .nil, _ => ⟨.nil, .nil⟩
  | _, _, p :: kvs, _, .cons h1 h2 t, .cons hk tk, rr, hs => by
    obtain ⟨k, v⟩ := p
    cases rr with
    | cons hv r =>
    rw [List.all_cons, Bool.and_eq_true, Bool.and_eq_true] at hs
    obtain ⟨i1, i2⟩ := flat_reads (h := h) t tk r hs.2
    obtain ⟨e1, e2⟩ := hk
    refine ⟨?_, ?_⟩
    · rw [List.map_cons, List.map_cons]
      exact ReadsAll.cons (as := []) (bs := []) (key_reads (by simp only at e1; rw [e1]; exact h1)) i1
    · rw [List.map_cons, List.map_cons]
      exact ReadsAll.cons (as := []) (bs := []) (scal_reads hv hs.1.2 (by rw [h2]; exact e2)) i2
section
variable {X : Cx} {E : XK} {x : Str} {p pos : Pos} {e : Expr} {s : SemE}
/-- a value as it is shown -/
def Shows (X : Cx) (H : Hp) (x : V) (d : PyData) : Prop := Dp X.K H x d ∧ d.plain = true ∨ ∃ a kvs G ds, x = .ref a ∧ d = .dict ds ∧ Rd H a (.dK kvs) ∧ Rkv G kvs ds ∧ (ds.all fun kv => (keyOf kv.1).isSome && scal kv.2) = true
theorem shows_reads {pins : List (Addr × Obj)} {σ : L2.St} {H : Hp} {s : Shared} {v : V} {u : Value} {d : PyData} (I : Inv X pins σ H s) (r : RelV v u) (h : Shows X H v d) : ∃ as, Reads s.heap u d as ∧ (d.hasDict = true → sysModules ∉ as) := by
  rcases h with ⟨h, hp⟩ | ⟨a, kvs, G, ds, rfl, rfl, hd, rk, hs⟩
  · obtain ⟨as, q⟩ := Dp.reads I d v u h r
    refine ⟨as, q, fun hh => ?_⟩
    rw [plain_noDict d hp] at hh; cases hh
  · cases r
    obtain ⟨z, hy, vs, rel, o, es, ep, h1, h2, h3, _, h5, _⟩ := dk_rd I.hok hd
    obtain ⟨i1, i2⟩ := flat_reads (h := s.heap) h5 rel rk hs
    exact ⟨_, .dict h1 h2.1 h3 i1 i2, fun _ hm => by
      rcases List.mem_cons.mp hm with e | hm
      · rw [← e] at hy; simp at hy
      · simp at hm⟩
def rRepr (X : Cx) : List V → Hp → VK → Prop := fun xs H Q => ∃ x d, xs = [x] ∧ Shows X H x d ∧ d.showable = true ∧ d.shown.length ≤ sizeLine ∧ d.depth ≤ 40 ∧ Q (.str d.shown) H
theorem cr_repr (hg : X.A.guards = some []) (hu : X.A.units + 64 < cLine) : CallR X (.builtin "repr") (rRepr X) := by
  intro pins st σ H xs us Q I r h
  obtain ⟨x, d, rfl, sh, h1, h2, h3, q⟩ := h
  obtain ⟨u, rfl, ru⟩ := vals1 r
  obtain ⟨as, rd, hsm⟩ := shows_reads I ru sh
  have fin : ∀ (h' : Heap) (t : Tok) (tk : Nat), (∀ b o, st.heap.get? b = some o → h'.get? b = some o) → EP X pins σ Q (.str d.shown t) { st with heap := h', toks := tk } := fun h' t tk k => ⟨.str d.shown, H, I.kept k, ⟨t, rfl⟩, q⟩
  cases rd with
  | none =>
    simp only [PyData.shown] at fin
    exact call_repr_gives (typeIs_none st) F.slot_NoneType_repr F.entry_NoneType_repr (F.args_NoneType_repr_1 _) gives_none_repr (fin st.heap _ _ fun _ _ e => e) (hx := by decide)
  | bool b =>
    simp only [PyData.shown] at fin
    exact call_repr_gives (typeIs_bool st b) F.slot_bool_repr F.entry_bool_repr (F.args_bool_repr_1 _) (gives_bool_repr b) (fin st.heap _ _ fun _ _ e => e) (hx := by cases b <;> decide)
  | int i t =>
    simp only [PyData.shown] at fin
    simp only [PyData.showable, decide_eq_true_eq] at h1
    exact call_repr_gives (typeIs_int st i t) F.slot_int_repr F.entry_int_repr (F.args_int_repr_1 _) (gives_int_repr i t h1) (fin st.heap _ _ fun _ _ e => e) (hx := int_text_fits h1)
  | str x t =>
    simp only [PyData.shown] at fin h2
    exact call_repr_gives (typeIs_str st x t) F.slot_str_repr F.entry_str_repr (F.args_str_repr_1 _) (gives_str_repr x t) (fin st.heap _ _ fun _ _ e => e) (hx := h2)
  | list a1 a2 a3 a4 => exact repr_of_reads' (.list a1 a2 a3 a4) h1 hsm hg (by omega) (fun _ _ e => e) (fun h' u tk k => fin h' u tk k) h2
  | tuple a1 a2 a3 a4 => exact repr_of_reads' (.tuple a1 a2 a3 a4) h1 hsm hg (by omega) (fun _ _ e => e) (fun h' u tk k => fin h' u tk k) h2
  | dict a1 a2 a3 a4 a5 => exact repr_of_reads' (.dict a1 a2 a3 a4 a5) h1 hsm hg (by omega) (fun _ _ e => e) (fun h' u tk k => fin h' u tk k) h2
def cRepr : OpC := fun ws st => match ws with
  | [w] => match val st w with
    | some d => if showOk d = true then retS d.shown st else .bad
    | none => .bad
  | _ => .bad
theorem pr_repr : PrimC (bx X) E cRepr (rRepr X) := by
  intro F G al st H xs ws Q R r p
  unfold cRepr at p
  split at p
  · rename_i w
    obtain ⟨v, rfl, rv⟩ := one_arg r
    split at p
    · rename_i d hd
      split at p
      · rename_i hs
        unfold showOk at hs
        simp only [Bool.and_eq_true, decide_eq_true_eq, Bool.or_eq_true] at hs
        obtain ⟨⟨⟨h1, h2⟩, h3⟩, h4⟩ := hs
        refine ⟨v, d, rfl, ?_, h1, h2, h3, retS_ok R p⟩
        have rr := val_rv R rv hd
        rcases h4 with h4 | h4
        · exact .inl ⟨rr.dp R.sam h4, h4⟩
        · cases rr with
          | dic hd' rk => exact .inr ⟨_, _, G, _, rfl, rfl, hd', rk, h4⟩
          | _ => simp at h4
      · exact p.elim
    · exact p.elim
  · exact p.elim
end
end Pd
end

section
set_option Elab.async false
set_option linter.all false
set_option autoImplicit false
set_option maxRecDepth 100000
set_option maxHeartbeats 2000000
/-! Pd: the law's own def, run from the place that calls it (where nothing is being shown yet). -/
namespace Pd
open PySem L2 PySem.Spec PyProof.Rows PySem.W

/-- what a call may leave behind -/
abbrev Ends0 (P : Program) (w : World) (H : Hp) (s : Shared) (Q : VK) : Result → Shared → Prop := CR CX0 [] P w H s Q E0
section
variable {P : Program} {w : World} {K : PySem.W.Frag} {mg : Str → Option Value} {base : Heap}
/-- a def of one argument, run from the around A, by its body's reading there -/
theorem run_at {x qual y : Str} {params : Arguments} {bod : List Stmt} {scope : Scope} {f : Addr} {fd : FuncData} {N : List Str} {k : Nat} {A : Around} (F : FunD K x qual params bod scope [] [] f fd) (S : FnScope N [y] scope) (hr : Room (k + 1) A)
    {s : Shared} {H : Hp} {Q : VK} {v : V} {u : Value} (e0 : Env0 P w K mg base A [] s H) (hbind : BindsTo s fd ⟨[u], []⟩ [(y, u)]) (r : RelV v u)
    (hb : ∀ cdv : Value, ∃ t, PSs (cxOf CX0 P w K mg base N qual scope f cdv A [] s H E0) bod t ∧ t { nx := fun _ H' => Q .non H', rt := Q } (L2.start N [v]) H) :
    codeAny (model P w) A (.call (.ref f) ⟨[u], []⟩) (Ends0 P w H s Q) s := by
  obtain ⟨oc, od, dV, kV, doc, pm, an, cdv, ct, osl, rfl, lk, hcd, _, _⟩ := F.ex
  have KX : K.In s.heap := e0.mod.kin.keeps fun b o e => (e0.bs b o e).1
  have lim : s.heap.NoLimit := e0.mod.nolimit.keeps fun b o e => (e0.bs b o e).1
  have par := S.par y List.mem_cons_self
  have kinds : ∀ q ∈ [(y, u)], scope.names.lookup q.1 = some .local ∨ (scope.names.lookup q.1 = some .cell ∧ ((cellsFrom (s.heap.objs.size + 1) scope.names []).lookup q.1).isSome = true) := fun q hq => by
    rw [List.mem_singleton.mp hq]
    exact par.imp id fun z => ⟨z, PySem.W.cellsFrom_some _ _ _ (.inl z)⟩
  refine codeAny_call_function hr.depth (KX _ _ lk) rfl S.co S.gen rfl (PySem.W.codeRec_of KX hcd) (hbind _ _ _ _ ?_)
  refine wpAny_newFunctionEnv_cells S.kind kinds fun env he s1 x1 => ?_
  subst he
  refine ⟨lim.keeps x1.toInCall.keep, codeAny_func ?_⟩
  obtain ⟨t, ht, hq⟩ := hb cdv
  have I : Inv (cxOf CX0 P w K mg base N qual scope f cdv A [] s H E0) [] (L2.start N [v]) H s1 := inv_start S hr.hd e0 rfl (.cons r .nil) x1
  have done : ∀ {σ' : L2.St} {H' : Hp} {z : V} {c : Value} {s2 : Shared}, Inv (cxOf CX0 P w K mg base N qual scope f cdv A [] s H E0) [] σ' H' s2 → RelV z c → Q z H' → CE [] P w H s Q c s2 :=
    fun {σ' H' z c s2} J rz q => ⟨z, H', J.os, J.bare, J.base, J.hok, rz, q⟩
  refine wpAny_mono (ht.run [] s1 (L2.start N [v]) H _ I hq) (fun fl s2 hs => ?_) fun e s2 hs => hs
  match fl, hs with
  | .ret c, ⟨z, σ', H', J, rz, q⟩ => exact done J rz q
  | .next, ⟨σ', H', J, q⟩ => exact done (z := V.non) (c := Value.none) J rfl q
  | .brk, ⟨_, _, _, q⟩ => exact q.elim
  | .cont, ⟨_, _, _, q⟩ => exact q.elim
end

/-- the heap without what is tracked: the base of the walk -/
theorem law_end {P : Program} {w : World} {K : PySem.W.Frag} {mg mb : Str → Option Value} {fa a : Addr} {s1 : Shared} {vs : List Value} {ns : List Int}
    (KX : K.In s1.heap) (hns : s1.heap.Ns mainGlobals mg) (hb : s1.heap.Ns builtinsNs mb) (hbb : ∀ x : Str, x ≠ "__name__" → mb x = bootBuiltins x) (hlim : s1.heap.NoLimit) (hg : s1.gens = #[])
    (ha : s1.heap.get? a = some { cls := .type "list", data := .seq vs.toArray }) (hi : IntsAre vs ns) (hl : ns.length ≤ sizeLine)
    (F : ∀ (base : Heap) (H : Hp), K.In base → base.Ns mainGlobals mg → Only H → SqL K H a (ns.map V.int) → Env0 P w K mg base callerA [] s1 H →
      codeAny (model P w) callerA (.call (.ref fa) ⟨[.ref a], []⟩) (Ends0 P w H s1 fun v _ => v = .bl true) s1) :
    codeAny (model P w) callerA (.call (.ref fa) ⟨[.ref a], []⟩) (fun r s' => r = .ok (.ret (.bool true)) ∧ OldK s1.heap s'.heap ∧ s'.os = s1.os ∧ AllBare s'.gens) s1 := by
  have rv := vals_ints hi
  have lenV := hi.length
  suffices go : ∃ H : Hp, Only H ∧ SqL K H a (ns.map V.int) ∧ HOk P w H s1.heap ∧ (∀ b, H b ≠ none → b = a ∧ K.lookup a = none) by
    obtain ⟨H, hO, hS, hok, only⟩ := go
    have free : ∀ {b : Addr} {o : Obj}, s1.heap.get? b = some o → (∀ n, o.data ≠ .seq vs.toArray n) → H b = none := fun {b o} e hd => by
      cases q : H b with
      | none => rfl
      | some u =>
        obtain ⟨rfl, _⟩ := only b (by rw [q]; exact fun z => by cases z)
        rw [ha] at e
        exact absurd (by rw [← Option.some.inj e]) (hd 0)
    have ns_of : ∀ {b : Addr} {m : Str → Option Value}, s1.heap.Ns b m → (hidT s1.heap H).Ns b m := fun {b m} ⟨o, es, ep, e, d, r⟩ => ⟨o, es, ep, hidT_get e (free e fun n z => by rw [d] at z; cases z), d, r⟩
    have kin : K.In (hidT s1.heap H) := fun b o e => hidT_get (KX b o e) (by
      cases q : H b with
      | none => rfl
      | some u =>
        obtain ⟨rfl, k⟩ := only b (by rw [q]; exact fun z => by cases z)
        rw [k] at e; cases e)
    have e0 : Env0 P w K mg (hidT s1.heap H) callerA [] s1 H :=
      ⟨rfl, ⟨kin, ns_of hns, ⟨mb, ns_of hb, hbb⟩, let ⟨mc, h1, h2⟩ := hlim; ⟨mc, ns_of h1, h2⟩⟩, fun b o e => of_hidT e, Nat.le_of_eq (hidT_size _ _), trivial, fun b hb => absurd (show b ∈ ([] : List Addr) from hb) (by simp), hok, .of_eq hg⟩
    refine codeAny_mono (F _ H kin (ns_of hns) hO hS e0) fun r s' h => ?_
    match r, h with
    | .ok (.ret u), ⟨v, H', os, bare, un, hok', r', q⟩ =>
      cases (show v = .bl true from q)
      cases (show u = Value.bool true from r')
      refine ⟨rfl, OldK.of_keep fun b o e => ?_, os, bare⟩
      rcases hO b with z | ⟨ob, xs, z⟩
      · exact un.keep b o e z (fun y => by simp [frs] at y) (by simp)
      · obtain ⟨e1, _⟩ := hok b _ z
        obtain ⟨e2, _⟩ := hok' b _ (un.frzs b ob _ z)
        rw [e] at e1; cases e1
        exact e2
  cases hk : K.lookup a with
  | some o =>
    have e := KX a o hk
    rw [ha] at e
    cases e
    exact ⟨fun _ => none, fun _ => .inl rfl, .inr ⟨_, vs.toArray, _, hk, rfl, rfl, rfl, by rw [List.size_toArray, lenV]; exact hl, by simpa using rv⟩, ⟨fun b u z => (by cases z), fun b z => absurd rfl z⟩⟩
  | none =>
    refine ⟨upd (fun _ => none) a (.frz { cls := .type "list", data := .seq vs.toArray } (.lst (ns.map V.int))), fun b => ?_, .inl (.inr ⟨_, upd_same⟩), fun b u z => ?_, fun b z => ⟨?_, rfl⟩⟩
    · by_cases e : b = a
      · subst e; exact .inr ⟨_, _, upd_same⟩
      · exact .inl (upd_ne e)
    · by_cases e : b = a
      · subst e
        rw [upd_same] at z; cases z
        exact ⟨ha, by rw [List.length_map]; exact hl, vs, _, rv, ha⟩
      · rw [upd_ne e] at z; cases z
    · by_cases e : b = a
      · exact e
      · exact absurd (upd_ne e) z
/-- THE LAW'S END: its def answers True at every script of at most n numbers -/
theorem walk_end {l : PySem.W.OpenLaw} {n k : Nat} {q : Program} {loose : List Str} {XP : (Str → Option Value) → Heap → Prop} {YP : World → Heap → Prop} {d : DefRec} {x qual y : Str} {params : Arguments} {bod : List Stmt} {scope : Scope} {N : List Str} {body : SemS}
    (hn : l.most = some n) (hn2 : n ≤ sizeLine) (hdf : d.params.defaults = []) (hr : Room (k + 1) callerA) (S : FnScope N [y] scope)
    (F : ∀ (w : World) (mg : Str → Option Value) (fa : Addr) (h : Heap), YP w h → h.Ns mainGlobals mg → mg d.name = some (.ref fa) →
      ∃ (K : PySem.W.Frag) (fd : FuncData), K.In h ∧ FunD K x qual params bod scope [] [] fa fd ∧ (∀ (s : Shared) (u : Value), K.In s.heap → BindsTo s fd ⟨[u], []⟩ [(y, u)]) ∧
        ∀ base : Heap, K.In base → base.Ns mainGlobals mg → ∀ (cdv : Value) (s : Shared) (H : Hp), @SSs ⟨l.prog, w⟩ (cxOf CX0 l.prog w K mg base N qual scope fa cdv callerA [] s H E0).nox E0 bod body)
    (ok : ∀ ns : List Int, ns.length ≤ n → ∃ st, runF N.length body [.s ns] [] = .ok (.p (.bool true)) st) :
    PySem.W.WalkO q loose XP YP l.row.toRowW d [] (fun f vs => PySem.call f vs) := by
  refine Att.attach_call hn hdf fun w s0 s1 mg mb fa o pm cd doc a vs ns G Y ho hd hcd hmg hobj hints hlen hg => ?_
  obtain ⟨K, fd, KX, FD, hbind, hF⟩ := F w mg fa _ Y G.T.g hmg
  refine law_end KX G.T.g G.T.b G.T.builtins G.T.nolimit hg hobj hints (Nat.le_trans hlen hn2) fun base H kin hns hO hS e0 => ?_
  refine run_at (k := k) FD S hr e0 (hbind s1 (.ref a) KX) (v := .ref a) rfl fun cdv => ⟨_, (hF base kin hns cdv s1 H).nox, ?_⟩
  obtain ⟨st, hst⟩ := ok ns hlen
  letI : Wd := ⟨l.prog, w⟩
  have R : RelS (bp l.prog w K mg (fun _ => none)) H [] [] H :=
    ⟨⟨rfl, rfl⟩, rfl, List.nodup_nil, fun a u z => .inl z, fun b u z => (by cases z), fun b hb => (by simp at hb), fun n b c z => (by simp at z)⟩
  have env := env_start (B := bp l.prog w K mg (fun _ => none)) (G := H) (al := []) N (vs := [.ref a]) (ws := [.s ns]) (.cons ⟨a, rfl, hS⟩ .nil)
  refine ⟨fun _ => none, H, [], _, [], Rel.env R env, ?_⟩
  unfold runF at hst
  cases hb : body ([W.s ns].map some ++ List.replicate (N.length - [W.s ns].length) none) [] with
  | bad => rw [hb] at hst; cases hst
  | exc x s => rw [hb] at hst; cases hst
  | ok fl s2 =>
    rw [hb] at hst
    intro G1 al1 H1 g rs
    cases fl with
    | nx en => cases hst
    | rt u =>
      cases hst
      intro v rv
      cases rv
      rfl
    | bk en => cases hst
    | ct en => cases hst
end Pd
end

section
set_option Elab.async false
set_option linter.all false
set_option autoImplicit false
set_option maxRecDepth 100000
/-! Pd: what the printed texts use. -/
namespace Pd
open PySem L2 PySem.SeqAt
theorem room64 {k : Nat} {A : Around} (hr : Room k A) : A.units + 64 < cLine := by have := hr.un; omega
variable [Wd]
section
variable {X : Cx} {E : XK} {x : Str} {p pos apos cpos : Pos} {e o : Expr} {s so si sv : SemE}
/-- -i -/
theorem se_neg {i : Int} {j : Nat} {p1 p2 : Pos} : SE X E (.UnaryOp .USub (.Constant (.int i) j p1) p2) (sC (.int (-i))) := (pe_un un_neg pe_int).weak fun σ H Q ⟨F, G, al, en, st, R, p⟩ =>
  ⟨i, rfl, p G al H (.refl _ _) R.s _ (.int (-i))⟩

/-! ### sorted(d) -/
def keyStrs (kvs : KVs) : Option (List Str) := strsOf (kvs.map (·.1))
theorem rkv_strs {G : Hp} : ∀ {kvs : List (Key × V)} {ds : KVs} {ks : List Str}, Rkv G kvs ds → keyStrs ds = some ks → kvs.map (·.1) = ks.map Sum.inr
  | _, _, ks, .nil, h => by simp [keyStrs, strsOf] at h; subst h; rfl
  | _, _, ks, .cons (k := k) hv r, h => by
    cases k with
    | inl i => simp [keyStrs, keyD, strsOf] at h
    | inr y =>
      simp only [keyStrs, keyD, List.map_cons, strsOf, Option.map_eq_some_iff] at h
      obtain ⟨zs, h1, rfl⟩ := h
      rw [List.map_cons, List.map_cons, rkv_strs r h1]
def cSortedA (mk : Mk1) : OpC := fun ws st => match ws with
  | [w] => match val st w with
    | some (.dict kvs) => match keyStrs kvs with
      | some ks => if ks.length < 64 then mk ((srtS ks).map .str) st else .bad
      | none => .bad
    | _ => cSorted mk ws st
  | _ => .bad
theorem rising_pw : ∀ (ys : List Str) (y : Str), PyProof.Rows.risingS y ys = true → (y :: ys).Pairwise fun a b => PySem.W.dataLe false PyData.str a b = true
  | [], y, _ => List.pairwise_singleton _ _
  | z :: ys, y, h => by
    have h' := Bool.and_eq_true_iff.mp (show (!Spec.ltCps z.cps.toList y.cps.toList && PyProof.Rows.risingS z ys) = true from h)
    have ih := rising_pw ys z h'.2
    have yz : PySem.W.dataLe false PyData.str y z = true := by
      rw [leS, ← PySem.W.not_lt_str, ← PyProof.Rows.ltCps_eq]; exact h'.1
    refine List.pairwise_cons.mpr ⟨fun b hb => ?_, ih⟩
    rcases List.mem_cons.mp hb with rfl | hb
    · exact yz
    · exact leS_total.trans _ _ _ yz ((List.pairwise_cons.mp ih).1 b hb)
theorem sortedS_srt {ys ks : List Str} (p : ys.Perm ks) (h : PyProof.Rows.sortedS ys = true) : ys = srtS ks := by
  have hp : ys.Pairwise fun a b => PySem.W.dataLe false PyData.str a b = true := by
    cases ys with
    | nil => exact List.Pairwise.nil
    | cons y ys => exact rising_pw ys y h
  exact List.Perm.eq_of_pairwise (fun a b _ _ h1 h2 => leS_anti h1 h2) hp (PySem.W.sort_pairwise leS_total ks) (p.trans (List.mergeSort_perm _ _).symm)
def rSortA (K : PySem.W.Frag) : List V → Hp → VK → Prop := fun xs H Q => rSortD K xs H Q ∨ ∃ (a : Addr) (kvs : List (Key × V)) (ks : List Str), xs = [.ref a] ∧ Rd H a (.dK kvs) ∧ kvs.map (·.1) = ks.map Sum.inr ∧ ks.length < 64 ∧
  ∀ p, H p = none → Q (.ref p) (upd H p (.lst ((srtS ks).map V.str)))
theorem call_sortA (hc : X.calm = true) (hu : X.A.units + 64 < cLine) : CallR X (.builtin "sorted") (rSortA X.K) := fun pins st σ H xs us Q I r h => by
  rcases h with h | ⟨a, kvs, ks, e1, e2, e3, e4, q⟩
  · exact call_sortD hu pins st σ H xs us Q I r h
  · exact call_sortedD hc pins st σ H xs us Q I r ⟨a, kvs, ks, e1, e2, e3, e4, fun ys p hp hs hn => by rw [sortedS_srt hp hs]; exact q p hn⟩
theorem pr_sortA {mk : Mk1} (hk : MkLOk X E mk) : PrimC (bx X) E (cSortedA mk) (rSortA X.K) := by
  intro F G al st H xs ws Q R r p
  unfold cSortedA at p
  split at p
  · rename_i w
    split at p
    · rename_i kvs e1
      obtain ⟨v, rfl, rv⟩ := one_arg r
      split at p
      · rename_i ks hks
        split at p
        · rename_i hl
          cases val_rv R rv e1 with
          | dic h rr => exact .inr ⟨_, _, ks, rfl, h, rkv_strs rr hks, hl, (hk R (rps_strs _) p).2⟩
        · exact p.elim
      · exact p.elim
    · exact .inl (pr_sorted hk F G al st H xs [w] Q R r p)
  · exact p.elim
end

section
variable {X : Cx} {E : XK} {elt tg iter tg1 iter1 kx vx : Expr} {ifs ifs1 : List Expr} {scope : Scope} {pos : Pos} {s s1 : SemI} {g g1 : TG} {sg sg1 : SemG} {c c1 : SemT} {el ek ev : SemE} {vs vs1 : List Nat} {kp : List PyData → Sto → Res W}
theorem lc_v (own : List (Str × Nat)) (hk : KeepOk X kp) (hc : X.calm = true) (hN : X.N.Nodup) (hi : SI X E tg iter s) (ok : BlkOk X.N X.env.scope scope own) (hv : own.map (·.2) = vs)
    (hg : ∀ (s : Shared) (H : Hp) (C : Addr) (cl : List (Str × Addr)) (fp : List Addr), PG (X.blk s H scope (compEnvC scope cl C X.env) fp) tg g) (gw : GW X g sg vs)
    (ht : ∀ (s : Shared) (H : Hp) (C : Addr) (cl : List (Str × Addr)) (fp : List Addr), PTs (X.blk s H scope (compEnvC scope cl C X.env) fp) ifs (tDT (bx X) E0 c))
    (he : ∀ (s : Shared) (H : Hp) (C : Addr) (cl : List (Str × Addr)) (fp : List Addr), SE (X.blk s H scope (compEnvC scope cl C X.env) fp) E0 elt el) (hs : ∀ x, foldedSetIterable iter X.env x = pure x := by intro _; rfl) :
    SE X E (.ListComp elt [⟨tg, iter, ifs, 0⟩] scope pos) (sLc s sg c el vs kp) := by subst hv; exact se_lc hk hc hN hi ok hg gw ht he hs
theorem set_lc_v (own : List (Str × Nat)) {i : Nat} {y : Str} {py spos : Pos} (hk : KeepOk X kp) (hc : X.calm = true) (hN : X.N.Nodup) (hy : X.N[i]? = some y) (hyl : X.env.scope.names.lookup y = some .local)
    (hsw : swapsWith (.ListComp elt [⟨tg, iter, ifs, 0⟩] scope pos) (some (.Name y py)) spos.line X.env = pure true) (hi : SI X E tg iter s) (ok : BlkOk X.N X.env.scope scope own) (hv : own.map (·.2) = vs)
    (hg : ∀ (s : Shared) (H : Hp) (C : Addr) (cl : List (Str × Addr)) (fp : List Addr), PG (X.blk s H scope (compEnvC scope cl C X.env) fp) tg g) (gw : GW X g sg vs)
    (ht : ∀ (s : Shared) (H : Hp) (C : Addr) (cl : List (Str × Addr)) (fp : List Addr), PTs (X.blk s H scope (compEnvC scope cl C X.env) fp) ifs (tDT (bx X) E0 c))
    (he : ∀ (s : Shared) (H : Hp) (C : Addr) (cl : List (Str × Addr)) (fp : List Addr), SE (X.blk s H scope (compEnvC scope cl C X.env) fp) E0 elt el) (hs : ∀ x, foldedSetIterable iter X.env x = pure x := by intro _; rfl) :
    SS X E (.Assign [.Name y py] (.ListComp elt [⟨tg, iter, ifs, 0⟩] scope pos) spos) (sSet i (sLc s sg c el vs kp)) := by subst hv; exact ss_setLc hk hc hN hy hyl hsw hi ok hg gw ht he hs
theorem lc2_v (own : List (Str × Nat)) (hk : KeepOk X kp) (hc : X.calm = true) (hN : X.N.Nodup) (hi : SI X E tg iter s) (ok : BlkOk X.N X.env.scope scope own) (hv : own.map (·.2) = vs) (hv1 : ∀ i ∈ vs1, i ∈ vs)
    (hg : ∀ (s : Shared) (H : Hp) (C : Addr) (cl : List (Str × Addr)) (fp : List Addr), PG (X.blk s H scope (compEnvC scope cl C X.env) fp) tg g) (gw : GW X g sg vs)
    (ht : ∀ (s : Shared) (H : Hp) (C : Addr) (cl : List (Str × Addr)) (fp : List Addr), PTs (X.blk s H scope (compEnvC scope cl C X.env) fp) ifs (tDT (bx X) E0 c))
    (hi1 : ∀ (s : Shared) (H : Hp) (C : Addr) (cl : List (Str × Addr)) (fp : List Addr), SI (X.blk s H scope (compEnvC scope cl C X.env) fp) E0 tg1 iter1 s1)
    (hg1 : ∀ (s : Shared) (H : Hp) (C : Addr) (cl : List (Str × Addr)) (fp : List Addr), PG (X.blk s H scope (compEnvC scope cl C X.env) fp) tg1 g1) (gw1 : GW X g1 sg1 vs1)
    (ht1 : ∀ (s : Shared) (H : Hp) (C : Addr) (cl : List (Str × Addr)) (fp : List Addr), PTs (X.blk s H scope (compEnvC scope cl C X.env) fp) ifs1 (tDT (bx X) E0 c1))
    (he : ∀ (s : Shared) (H : Hp) (C : Addr) (cl : List (Str × Addr)) (fp : List Addr), SE (X.blk s H scope (compEnvC scope cl C X.env) fp) E0 elt el) (hs : ∀ x, foldedSetIterable iter X.env x = pure x := by intro _; rfl) (hs1 : ∀ env x, foldedSetIterable iter1 env x = pure x := by intro _ _; rfl) :
    SE X E (.ListComp elt [⟨tg, iter, ifs, 0⟩, ⟨tg1, iter1, ifs1, 0⟩] scope pos) (sLc2 s sg c s1 sg1 c1 el vs vs1 kp) := by subst hv; exact se_lc2 hk hc hN hi ok hv1 hg gw ht hi1 hg1 gw1 ht1 he hs hs1
theorem dcK_v (own : List (Str × Nat)) (hc : X.calm = true) (hN : X.N.Nodup) (hi : SI X E tg iter s) (ok : BlkOk X.N X.env.scope scope own) (hv : own.map (·.2) = vs)
    (hg : ∀ (s : Shared) (H : Hp) (C : Addr) (cl : List (Str × Addr)) (fp : List Addr), PG (X.blk s H scope (compEnvC scope cl C X.env) fp) tg g) (gw : GW X g sg vs)
    (ht : ∀ (s : Shared) (H : Hp) (C : Addr) (cl : List (Str × Addr)) (fp : List Addr), PTs (X.blk s H scope (compEnvC scope cl C X.env) fp) ifs (tDT (bx X) E0 c))
    (hkx : ∀ (s : Shared) (H : Hp) (C : Addr) (cl : List (Str × Addr)) (fp : List Addr), SE (X.blk s H scope (compEnvC scope cl C X.env) fp) E0 kx ek)
    (hvx : ∀ (s : Shared) (H : Hp) (C : Addr) (cl : List (Str × Addr)) (fp : List Addr), SE (X.blk s H scope (compEnvC scope cl C X.env) fp) E0 vx ev) (hs : ∀ x, foldedSetIterable iter X.env x = pure x := by intro _; rfl) :
    SE X E (.DictComp kx vx [⟨tg, iter, ifs, 0⟩] scope pos) (sDc dputK s sg c ek ev vs keepDO) := by subst hv; exact se_dcK hc hN hi ok hg gw ht hkx hvx hs
theorem dcT_v (own : List (Str × Nat)) (hp0 : X.prog = Wd.P ∧ X.w = Wd.w) (hu : X.A.units + 64 < cLine) (hc : X.calm = true) (hN : X.N.Nodup) (hi : SI X E tg iter s) (ok : BlkOk X.N X.env.scope scope own) (hv : own.map (·.2) = vs)
    (hg : ∀ (s : Shared) (H : Hp) (C : Addr) (cl : List (Str × Addr)) (fp : List Addr), PG (X.blk s H scope (compEnvC scope cl C X.env) fp) tg g) (gw : GW X g sg vs)
    (ht : ∀ (s : Shared) (H : Hp) (C : Addr) (cl : List (Str × Addr)) (fp : List Addr), PTs (X.blk s H scope (compEnvC scope cl C X.env) fp) ifs (tDT (bx X) E0 c))
    (hkx : ∀ (s : Shared) (H : Hp) (C : Addr) (cl : List (Str × Addr)) (fp : List Addr), SE (X.blk s H scope (compEnvC scope cl C X.env) fp) E0 kx ek)
    (hvx : ∀ (s : Shared) (H : Hp) (C : Addr) (cl : List (Str × Addr)) (fp : List Addr), SE (X.blk s H scope (compEnvC scope cl C X.env) fp) E0 vx ev) (hs : ∀ x, foldedSetIterable iter X.env x = pure x := by intro _; rfl) :
    SE X E (.DictComp kx vx [⟨tg, iter, ifs, 0⟩] scope pos) (sDc dputT s sg c ek ev vs keepTO) := by subst hv; exact se_dcT hp0 hu hc hN hi ok hg gw ht hkx hvx hs
end

section
variable {X : Cx} {E : XK} {x : Str} {p pos : Pos} {kws : List Keyword} {t : SemA} {k n m : Nat} {ks : List Str} {is : List Nat} {f : Fn}
theorem callK_v (C : CalK X.prog X.w X.K X.mg X.base x k n ks is f) (hm : ks.length = m) (hr : Room k X.A) (hg : Gl X x) (hn : ∀ ws st, ws.length ≠ n → f ws st = .bad) (hkw : SK X E kws t) (hall : (backToKw pos (keywordEach kws X.env)).all (·.1.isSome) = true := by rfl)
    (hks : (backToKw pos (keywordEach kws X.env)).filterMap (·.1) = ks := by rfl) (hdb : (x == ("__debug__" : Str)) = false := by decide)
    (hpl : ((backTo pos (starEach [] X.env)).any (·.1) || (backToKw pos (keywordEach kws X.env)).any (·.1.isNone)) = false := by rfl) : SE X E (.Call (.Name x p) [] kws pos) (sCallK m is f t) := by
  subst hm; exact se_callK C hr hg hn hkw hall hks hdb hpl
end
end Pd
namespace Pd
open PySem L2 PySem.SeqAt
variable [Wd]
section
variable {P : Program} {w : World} {K : PySem.W.Frag} {mg : Str → Option Value} {base : Heap} {x qual : Str} {params : Arguments} {bod : List Stmt} {scope : Scope} {dvs : List V} {f : Addr} {fd : FuncData} {N ps : List Str} {k n : Nat} {body : SemS}
/-- nothing is promised -/
theorem fn_bad (hl : ps.length = n) : FnOk P w K mg base CX0 k f fd ps (spF (bp P w K mg) n fun _ _ => .bad) :=
  ⟨fun vs H Q E h => h.1.trans hl.symm, fun A outer s H args us vs Q E _ _ _ _ h => by obtain ⟨_, _, _, _, _, _, _, _, p⟩ := h; exact p.elim⟩
theorem fn_step (F : FunD K x qual params bod scope dvs [] f fd) (S : FnScope N ps scope) (hl : ps.length = n)
    (hb : ∀ (cdv : Value) (A : Around) (outer : List Env) (s : Shared) (H : Hp) (E : XK), Room (k + 1) (A.deeper (PyProof.Rows.envOfC qual scope s.heap.objs.size f cdv)) → SSs (cxOf CX0 P w K mg base N qual scope f cdv A outer s H E).nox E bod body) :
    FnOk P w K mg base CX0 (k + 2) f fd ps (spF (bp P w K mg) n (arity n (runF N.length body))) := by
  subst hl
  exact (fn_ok F S hb).imp fun vs H Q E h => spF_arity h
end
end Pd
end

section
set_option Elab.async false
set_option linter.all false
set_option autoImplicit false
set_option maxRecDepth 100000
namespace Pd
open PySem L2 PySem.Spec PyProof.Rows
set_option maxHeartbeats 2000000
theorem meets_enumerate_newT (l : Addr) (items : Array Value) (n : Nat) (dct : Option Addr) (sl : Array (Option Value)) :
    Meets (Builtin.«enumerate.__new__» ⟨[.type "enumerate", .ref l], []⟩) (fun _ R s => s.heap.get? l = some { cls := .type "tuple", dict := dct, data := .seq items n, slots := sl } ∧
      R (.ok (.ret (.ref (s.heap.push { cls := .type "tuple_iterator", data := .fields #[.ref l, .int 0 0] }).objs.size)))
        { s with heap := (s.heap.push { cls := .type "tuple_iterator", data := .fields #[.ref l, .int 0 0] }).push { cls := .type "enumerate", data := .fields #[.none, .bool false, .ref s.heap.objs.size, rawInt 0, .none, .none] } }) :=
  .of_wp fun prog w A R s h => by
    obtain ⟨hp, g, d, tk, os⟩ := s; obtain ⟨hl, h⟩ := h
    have hsub := sub_enumerate
    have hL : Heap.IsTuple (Shared.heap ⟨hp, g, d, tk, os⟩) l items := ⟨_, hl, rfl, n, rfl⟩
    wp_walk using AutoSeq1.wpAny_loadPart' hl
    refine wpAny_stack_any fun st => wpAny_pure ?_
    split
    · rename_i c _ _ _ _ _
      cases (c == Value.type "enumerate")
      · wp_walk using AutoSeq1.wpAny_loadPart' hl, wpAny_pyIter_tuple hL
        exact ⟨_, rfl, h⟩
      · wp_walk using AutoSeq1.wpAny_loadPart' hl, wpAny_pyIter_tuple hL
        exact ⟨_, rfl, h⟩
    · wp_walk using AutoSeq1.wpAny_loadPart' hl, wpAny_pyIter_tuple hL
      exact ⟨_, rfl, h⟩
section
variable {prog : Program} {w : World} {A : Around} {E : Value → Shared → Prop} {s : Shared}
theorem call_enumerate_tuple {l : Addr} {items : Array Value} {Q : Value → Shared → Prop} (hL : s.heap.IsTuple l items)
    (h : ∀ h', IsEnum h' (s.heap.objs.size + 1) s.heap.objs.size 0 .none → h'.IsTupleIter s.heap.objs.size l 0 → h'.objs.size = s.heap.objs.size + 2 →
      (∀ b o, s.heap.get? b = some o → h'.get? b = some o) → Q (.ref (s.heap.objs.size + 1)) { s with heap := h' }) :
    wpAny (model prog w) A (call (.type "enumerate") [.ref l]) Q E s := by
  obtain ⟨⟨c, dct, dt, sl⟩, hl, hc, n, hd⟩ := hL
  replace hc : c = .type "tuple" := hc
  replace hd : dt = .seq items n := hd
  subst hc hd
  refine callType_new F.called_enumerate (by decide) (F.typeCall_enumerate_1 _) (F.newCall_enumerate_1 _) (fun obj => F.args_object_init_2 obj _) F.entry_enumerate_new
    (meets_enumerate_newT l items n dct sl) ⟨hl, ?_⟩
  have hz : (s.heap.push { cls := .type "tuple_iterator", data := .fields #[.ref l, .int 0 0] }).objs.size = s.heap.objs.size + 1 := Heap.size_push ..
  show _ ∧ _
  rw [hz]
  have he : IsEnum ((s.heap.push { cls := .type "tuple_iterator", data := .fields #[.ref l, .int 0 0] }).push
      { cls := .type "enumerate", data := .fields #[.none, .bool false, .ref s.heap.objs.size, rawInt 0, .none, .none] }) (s.heap.objs.size + 1) s.heap.objs.size 0 .none := by
    have := Heap.get?_push_size (s.heap.push { cls := .type "tuple_iterator", data := .fields #[.ref l, .int 0 0] })
      (o := { cls := .type "enumerate", data := .fields #[.none, .bool false, .ref s.heap.objs.size, rawInt 0, .none, .none] }) rfl
    rw [hz] at this; exact this
  refine ⟨⟨_, he, rfl⟩, h _ he ⟨_, Heap.get?_push_of_some _ (Heap.get?_push_size _ rfl), rfl, rfl⟩ (by rw [Heap.size_push, hz]) fun b o x => Heap.get?_push_of_some _ (Heap.get?_push_of_some _ x)⟩
end
/-- the tuple at a -/
def IteT (K : PySem.W.Frag) (a : Addr) : It :=
  ⟨fun i H => ∃ (xs : List V) (x : V), SqT K H a xs ∧ xs[i]? = some x, fun i H v H' => ∃ T x, v = .ref T ∧ H T = none ∧ H' = upd H T (.tup [.int (i : Nat), x]) ∧ ∀ xs, SqT K H a xs → xs[i]? = some x, fun i H => ∃ xs : List V, SqT K H a xs ∧ xs.length ≤ i⟩
theorem turn_enumT {P : Program} {w : World} {K : PySem.W.Frag} {elts : List Expr} {kk : Nat} {tpos : Pos} (a e it : Addr) (hae : a ≠ e) (hai : a ≠ it) :
    Turn P w K (.Tuple elts kk tpos) (IteT K a) [e, it] e (fun i h => (∃ old, IsEnum h e it ((i : Nat) : Int) old) ∧ h.IsTupleIter it a i ∧ e ≠ it) where
  mem := by simp
  obj := fun i h st b hb => by
    obtain ⟨⟨old, he⟩, ⟨o, ho, hc, hd⟩, _⟩ := st
    have e' : b = e ∨ b = it := by simpa using hb
    rcases e' with z | z
    · rw [z]; exact ⟨_, he, fun v q => nomatch q⟩
    · rw [z]; exact ⟨o, ho, fun v q => by rw [hd] at q; cases q⟩
  keep := fun i h h' st k => let ⟨⟨old, he⟩, hi, hne⟩ := st; ⟨⟨old, k e (by simp) _ he⟩, hi.at fun o q => k it (by simp) o q, hne⟩
  item := by
    intro X hP hw hK hc i pins s σ H E I hf st hg
    subst hP hw hK
    obtain ⟨⟨old, he⟩, hit, hne⟩ := st
    obtain ⟨xs, x, hq, hx⟩ := hg
    obtain ⟨its, rv, p, hz⟩ := I.tuple hq
    obtain ⟨u, hu, ru⟩ := rv.get hx
    have hel : e < s.heap.objs.size := Heap.lt_size he
    have hil : it < s.heap.objs.size := by obtain ⟨_, q, _⟩ := hit; exact Heap.lt_size q
    have hlt : i < its.toArray.size := by
      have := (List.getElem?_eq_some_iff.mp hu).1
      simpa using this
    have D := Draws.tuple (prog := X.prog) (w := X.w) (A := X.A.in1) (I.ok.hd hc) it a hai its.toArray
    refine wpAny_pyNext_enum_itemD D he ⟨hit, p⟩ hlt hne (by simp [hne, Ne.symm hae]) fun x2 h' tk hx2 ho hit' hT hsz hk => ?_
    have ex : x2 = u := by
      have : its.toArray[i]? = some u := by simpa using hu
      rw [this] at hx2; exact (Option.some.inj hx2).symm
    subst ex
    refine ⟨_, rfl, wpAny_letOwnedTupleGo_enum (s := { s with heap := h', toks := tk + 1 }) ho fun h'' he' sb => ?_⟩
    have hT2 : h''.get? s.heap.objs.size = some { cls := .type "tuple", data := .seq #[.int i tk, x2] } := (sb.2 _ (Nat.ne_of_gt hel)).trans hT
    have new : ObjOk X.prog X.w (upd H s.heap.objs.size (.tup [.int (i : Nat), x])) h'' s.heap.objs.size (.tup [.int (i : Nat), x]) :=
      ⟨by show 2 ≤ sizeLine; decide, [.int i tk, x2], .cons ⟨_, rfl⟩ (.cons ru .nil), ⟨_, hT2, rfl, _, rfl⟩⟩
    have I1 : Inv X pins σ (upd H s.heap.objs.size (.tup [.int (i : Nat), x])) { s with heap := h'', toks := tk + 1 } :=
      I.turnedNew (ch := [e, it]) (fun b ob hb q => (sb.2 b (fun z => hb (by simp [z]))).trans (hk b ob (fun z => hb (by simp [z])) (fun z => hb (by simp [z])) q)) hf (Nat.le_refl _) new
    refine ⟨.ref s.heap.objs.size, _, I1, rfl, ⟨_, x, rfl, I.hok.fresh (Nat.le_refl _), rfl, fun ys hy => by rw [I.tuple_inj hy hq]; exact hx⟩, ⟨⟨x2, ?_⟩, hit'.1.at fun o q => (sb.2 it (Ne.symm hne)).trans q, hne⟩, fun b hb => ?_⟩
    · have e1 : ((i + 1 : Nat) : Int) = (i : Int) + 1 := by omega
      rw [e1]; exact he'
    · have hb' : b < s.heap.objs.size := by
        have e' : b = e ∨ b = it := by simpa using hb
        rcases e' with z | z
        · rw [z]; exact hel
        · rw [z]; exact hil
      rw [upd_ne (Nat.ne_of_lt hb')]
      exact (hf b hb).1
  done := by
    intro X hP hw hK hc i pins s σ H E I hf st hg
    subst hP hw hK
    obtain ⟨⟨old, he⟩, hit, hne⟩ := st
    obtain ⟨xs, hq, hx⟩ := hg
    obtain ⟨its, rv, p, hz⟩ := I.tuple hq
    obtain ⟨f0, f1, f2, f3, f4, f5⟩ := hf it (by simp)
    have hl := rv.length
    have hT : s.TypeIs (.ref e) "enumerate" := ⟨_, he, rfl⟩
    unfold pyNext
    refine wpAny_bind (wpAny_attempt (wpAny_callSpecial?_slot (name := Str.ofString "__next__") hT F.slot_enumerate_next
      (wpAny_call_entry F.slot_enumerate_next hT F.entry_enumerate_next ?_ (F.args_enumerate_next_1 _))))
    show wpAny _ _ (field (.ref e) 2 >>= _) _ _ _
    refine wpAny_bind (wpAny_field he rfl (x := .ref it) rfl ?_)
    refine wpAny_bind (wpAny_nextOf_tuple_end (I.ok.hd hc) hit (show s.heap.IsTuple a its.toArray from p) (by simp; omega) fun h' x he' hx' => ?_)
    obtain ⟨o, ho, hc'⟩ := hx'
    refine wpAny_bind (wpAny_isInstance (T := "StopIteration") (b := true) ⟨o, ho, hc'⟩ isSubtype_stop ?_)
    exact wpAny_pure ⟨rfl, I.turned (t' := s.toks) (fun b o hb q => he' b o hb q) f0 f1 f3 f4 f5⟩
  self := fun A i s Q E st h => let ⟨⟨_, he⟩, _⟩ := st; wpAny_pyIter_enum he h
def iEnumA (K : PySem.W.Frag) (ta : TA) : TI := fun σ H R => ta σ H fun vs H1 => ∃ a xs, vs = [.ref a] ∧ ((SqL K H1 a xs ∧ R (Ite K a) H1) ∨ (SqT K H1 a xs ∧ R (IteT K a) H1))
theorem pi_enumA {X : Cx} {e : Expr} {ta : TA} {p pos tpos : Pos} {elts : List Expr} {kk : Nat} (hg : Gl X "enumerate") (hm : X.mg "enumerate" = none) (ha : PA X [e] ta) (hs : starEach [e] X.env = [(false, eval e X.env)] := by rfl) :
    PI X (.Tuple elts kk tpos) (.Call (.Name "enumerate" p) [e] [] pos) (iEnumA X.K ta) := by
  refine ⟨fun pins s σ H R I h => ?_⟩
  refine Call_ (ld_blt I hg hm boot_enumerate (PyProof.Rows.callWith_type1 (thn (ha.run pos pins s σ H _ I h) fun us s1 ⟨vs, H1, I1, r1, q1⟩ => ?_) hs rfl))
  obtain ⟨a, xs, ex, q⟩ := q1
  subst ex
  cases r1 with
  | cons r rr =>
    cases rr
    cases r
    rcases q with ⟨hq, q⟩ | ⟨hq, q⟩
    · obtain ⟨its, rv, p', hz⟩ := I1.list hq
      refine call_enumerate_list p'.isList fun h' he hit hsz hk => wpAny_pyIter_enum he ?_
      have I2 : Inv X pins σ H1 { s1 with heap := h' } := I1.kept (t' := s1.toks) hk
      refine ⟨s1.heap.objs.size + 1, [s1.heap.objs.size + 1, s1.heap.objs.size], _, _, H1, rfl, I2, turn_enum a (s1.heap.objs.size + 1) s1.heap.objs.size, ⟨⟨.none, he⟩, hit, Nat.succ_ne_self _⟩, fun b hb => ?_, q⟩
      have e' : b = s1.heap.objs.size + 1 ∨ b = s1.heap.objs.size := by simpa using hb
      have hle : s1.heap.objs.size ≤ b := by
        rcases e' with z | z
        · rw [z]; exact Nat.le_add_right _ _
        · rw [z]; exact Nat.le_refl _
      exact I1.fpOk hle (I1.hok.fresh hle)
    · obtain ⟨its, rv, p', hz⟩ := I1.tuple hq
      have hal : a < s1.heap.objs.size := by obtain ⟨_, q, _⟩ := p'; exact Heap.lt_size q
      refine call_enumerate_tuple (show s1.heap.IsTuple a its.toArray from p') fun h' he hit hsz hk => wpAny_pyIter_enum he ?_
      have I2 : Inv X pins σ H1 { s1 with heap := h' } := I1.kept (t' := s1.toks) hk
      refine ⟨s1.heap.objs.size + 1, [s1.heap.objs.size + 1, s1.heap.objs.size], _, _, H1, rfl, I2, turn_enumT a (s1.heap.objs.size + 1) s1.heap.objs.size (Nat.ne_of_lt (Nat.lt_succ_of_lt hal)) (Nat.ne_of_lt hal), ⟨⟨.none, he⟩, hit, Nat.succ_ne_self _⟩, fun b hb => ?_, q⟩
      have e' : b = s1.heap.objs.size + 1 ∨ b = s1.heap.objs.size := by simpa using hb
      have hle : s1.heap.objs.size ≤ b := by
        rcases e' with z | z
        · rw [z]; exact Nat.le_add_right _ _
        · rw [z]; exact Nat.le_refl _
      exact I1.fpOk hle (I1.hok.fresh hle)
section
variable [Wd] {X : Cx} {E : XK}
theorem walk_enumT {G : Hp} {al : Al} {a : Addr} {xs : List V} {ds : List PyData} (h : G a = some (.tup xs)) (r : Rps G xs ds) : WalkOk (bx X) (IteT X.K a) G al (enums ds) := by
  intro F i G' al' st H g rs
  have hH : SqT X.K H a xs := by
    rcases rs.sam a _ (g.sub a _ h) with e | ⟨⟨_, e⟩, _⟩
    · exact SqT.of e
    · cases e
  refine ⟨fun d hd => ?_, fun hn => ?_⟩
  · rw [enums_get, Option.map_eq_some_iff] at hd
    obtain ⟨d', hd', rfl⟩ := hd
    obtain ⟨x, hx, rx⟩ := r.get hd'
    refine ⟨⟨xs, x, hH, hx⟩, fun y H2 ⟨T, x', e1, hT, e2, q⟩ => ?_⟩
    subst e1; subst e2
    have e3 := q xs hH
    rw [hx] at e3; cases e3
    obtain ⟨g2, rs2⟩ := rs.close (u := .tup [.int (i : Nat), x]) hT
    exact ⟨_, g2, rs2, .tup upd_same (by show 2 ≤ sizeLine; decide) (.cons (.int _) (.cons (rx.sub (g.trans g2).sub) .nil))⟩
  · refine ⟨xs, hH, ?_⟩
    rw [enums_get, Option.map_eq_none_iff] at hn
    rw [r.length]
    exact List.getElem?_eq_none_iff.mp hn
/-- enumerate of a closed list or tuple -/
def enumOf (w : W) (st : Sto) : Res (List PyData) := match w with
  | .p (.list ds) => .ok (enums ds) st
  | .p (.tuple ds) => .ok (enums ds) st
  | .o n => match st[n]? with
    | some (.frz (.list ds)) => .ok (enums ds) st
    | _ => .bad
  | _ => .bad
def sEnumA (s : SemE) : SemI := fun en st => (s en st).bind enumOf
theorem si_enumA {a : Expr} {p tpos pos : Pos} {elts : List Expr} {kk : Nat} {s : SemE} (hg : Gl X "enumerate") (hm : X.mg "enumerate" = none) (ha : SE X E a s) (hs : starEach [a] X.env = [(false, eval a X.env)] := by rfl) :
    SI X E (.Tuple elts kk tpos) (.Call (.Name "enumerate" p) [a] [] pos) (sEnumA s) :=
  (pi_enumA hg hm (sa_cons ha sa_nil (by rw [hs]; rfl)) hs).weak fun σ H Q ⟨F, G, al, en, st, R, p⟩ => by
    refine sa_one R p fun x H1 G1 al1 st1 w R1 r1 p1 => ?_
    have lst : ∀ {a : Addr} {xs : List V} {ds : List PyData}, G1 a = some (.lst xs) → xs.length ≤ sizeLine → Rps G1 xs ds → Post (bx X F) E G1 al1 (fun ds G' al' _ H' => ∀ J, ds.length ≤ sizeLine → WalkOk (bx X) J G' al' ds → Q J H') (.ok (enums ds) st1) →
        SqL X.K H1 a xs ∧ Q (Ite X.K a) H1 := fun {a xs ds} h z r p => by
      refine ⟨?_, p G1 al1 H1 (.refl _ _) R1.s _ (by unfold enums; rw [List.length_map, List.length_range, ← r.length]; exact z) (walk_enum h r)⟩
      rcases R1.s.sam a _ h with e | ⟨⟨_, e⟩, _⟩
      · exact SqL.of e
      · cases e
    have tup : ∀ {a : Addr} {xs : List V} {ds : List PyData}, G1 a = some (.tup xs) → xs.length ≤ sizeLine → Rps G1 xs ds → Post (bx X F) E G1 al1 (fun ds G' al' _ H' => ∀ J, ds.length ≤ sizeLine → WalkOk (bx X) J G' al' ds → Q J H') (.ok (enums ds) st1) →
        SqT X.K H1 a xs ∧ Q (IteT X.K a) H1 := fun {a xs ds} h z r p => by
      refine ⟨?_, p G1 al1 H1 (.refl _ _) R1.s _ (by unfold enums; rw [List.length_map, List.length_range, ← r.length]; exact z) (walk_enumT h r)⟩
      rcases R1.s.sam a _ h with e | ⟨⟨_, e⟩, _⟩
      · exact SqT.of e
      · cases e
    unfold enumOf at p1
    split at p1
    · rename_i ds
      cases r1 with
      | lst h z r => exact ⟨_, _, rfl, .inl (lst h z r p1)⟩
    · rename_i ds
      cases r1 with
      | tup h z r => exact ⟨_, _, rfl, .inr (tup h z r p1)⟩
    · rename_i n
      split at p1
      · rename_i ds hc
        obtain ⟨a, ha, rfl⟩ := r1
        have ok := R1.s.cel n a _ ha hc
        cases ok with
        | lst h z r => exact ⟨_, _, rfl, .inl (lst h z r p1)⟩
      · exact p1.elim
    · exact p1.elim
end
end Pd
end

section
set_option Elab.async false
set_option linter.all false
set_option autoImplicit false
set_option maxRecDepth 100000
/-! Pd: == of nested data, of two objects with an own __eq__; isinstance of an own class; is not False. -/
namespace Pd
open PySem L2 PySem.Spec PyProof.Rows
set_option maxHeartbeats 1000000
variable [Wd]
/-! ### data that may be compared deeply -/
def eqOk : Nat → PyData → Bool
  | 0, _ => false
  | n + 1, d => match d with
    | .none => true
    | .bool _ => true
    | .int _ => true
    | .str _ => true
    | .list ds => ds.all (eqOk n)
    | .tuple ds => ds.all (eqOk n)
    | .dict kvs => decide (kvs.map fun p => keyOf p.1).Nodup && (kvs.all fun p => (keyOf p.1).isSome && eqOk n p.2)
theorem eqOk_dOk {n : Nat} {d : PyData} (h : eqOk n d = true) : dOk d = true := by
  cases n with
  | zero => cases h
  | succ n =>
    cases d with
    | dict kvs =>
      have h2 := (Bool.and_eq_true_iff.mp h).2
      refine List.all_eq_true.mpr fun p hp => ?_
      exact (Bool.and_eq_true_iff.mp (List.all_eq_true.mp h2 p hp)).1
    | _ => rfl
def Both (G : Hp) (n : Nat) (x y : V) : Prop := ∃ d, eqOk n d = true ∧ Rp G x d ∧ Rp G y d
theorem both_items {G : Hp} {n : Nat} : ∀ {ds : List PyData} {xs ys : List V}, Rps G xs ds → Rps G ys ds → ds.all (eqOk n) = true → Paired (Both G n) xs ys
  | _, _, _, .nil, .nil, _ => .nil
  | _, _, _, .cons a r, .cons b q, h => by
    have h1 := Bool.and_eq_true_iff.mp (by simpa only [List.all_cons] using h)
    exact .cons ⟨_, h1.1, a, b⟩ (both_items r q h1.2)
theorem Rkv.key_mem {G : Hp} : ∀ {kvs : List (Key × V)} {ds : List (PyData × PyData)}, Rkv G kvs ds → ∀ p ∈ kvs, some p.1 ∈ ds.map fun q => Pd.keyOf q.1
  | _, _, .nil, _, h => by cases h
  | _, _, .cons (k := k) a r, p, h => by
    rcases List.mem_cons.mp h with h | h
    · rw [h]
      simp [keyOf_keyD]
    · exact List.mem_cons_of_mem _ (Rkv.key_mem r p h)
theorem both_vals {G : Hp} {n : Nat} : ∀ {ds : List (PyData × PyData)} {ks ls : List (Key × V)}, Rkv G ks ds → Rkv G ls ds → (ds.map fun p => Pd.keyOf p.1).Nodup → (ds.all fun p => (Pd.keyOf p.1).isSome && eqOk n p.2) = true →
    ∀ p ∈ ks, ∃ u, valV ls p.1 = some u ∧ Both G n p.2 u
  | _, _, _, .nil, _, _, _, p, hp => by cases hp
  | _, _, _, .cons (k := k) (v := v) (kvs := kvs) (d := d) (ds := ds) a r, hl, hn, h, p, hp => by
    generalize hg : keyD k = kd at hl
    cases hl with
    | cons b q =>
      rename_i k' v' kvs' 
      have hk : k' = k := by
        have e1 := keyOf_keyD k
        rw [hg, keyOf_keyD] at e1
        exact Option.some.inj e1
      subst hk
      have h1 := Bool.and_eq_true_iff.mp (by simpa only [List.all_cons] using h)
      have h2 := Bool.and_eq_true_iff.mp h1.1
      rw [List.map_cons, List.nodup_cons] at hn
      rcases List.mem_cons.mp hp with e | hm
      · subst e
        exact ⟨v', valV_pos rfl, d, h2.2, a, b⟩
      · have hne : k' ≠ p.1 := fun z => hn.1 (by
          rw [keyOf_keyD, z]
          exact Rkv.key_mem r p hm)
        obtain ⟨u, e1, e2⟩ := both_vals r q hn.2 h1.2 p hm
        exact ⟨u, by rw [valV_neg hne]; exact e1, e2⟩
section
variable {X : Cx} {pins : List (Addr × Obj)} {σ : L2.St} {G H : Hp} {s : Shared}
theorem eq_refs_run (I : Inv X pins σ H s) (hs : Sam G H) (n : Nat) (A : Around) (hu : A.units + (n + 1) < cLine)
    (ih : ∀ x y v u, Both G n x y → RelV x v → RelV y u → SeqAt.EqP X.prog X.w A.in1 s v u true) {a b : Addr} {d : PyData} (hd : eqOk (n + 1) d = true) (rx : Rv G H (.ref a) d) (ry : Rv G H (.ref b) d)
    (E Q : Value → Shared → Prop) (q : Q (.bool true) s) : wpAny (model X.prog X.w) A (richCompare .Eq (.ref a) (.ref b)) Q E s := by
  have hu' : A.units < cLine := by omega
  cases rx with
  | lst ha z1 r1 =>
    cases ry with
    | lst hb z2 r2 =>
      obtain ⟨us, p1, o1, _⟩ := I.list (xs := _) (.inl (.inl ha))
      obtain ⟨ws, p2, o2, _⟩ := I.list (xs := _) (.inl (.inl hb))
      have hp := both_items r1 r2 hd
      have hz : us.toArray.size = ws.toArray.size := by
        simp only [List.size_toArray]
        rw [← p1.length, ← p2.length]; exact Paired.length hp
      refine SeqAt.rcP_lists (e := fun _ => true) o1.isList o2.isList hz hu' (fun j h1 h2 => ?_) E Q ?_
      · have := items_run (P := X.prog) (w := X.w) (A := A.in1) (s := s) ih hp p1 p2 j (by simpa using h1) (by simpa using h2)
        simpa using this
      · have e : ((List.range us.toArray.size).all fun _ => true) = true := by simp
        rw [e]; exact q
  | tup ha z1 r1 =>
    cases ry with
    | tup hb z2 r2 =>
      obtain ⟨us, p1, o1, _⟩ := I.tuple (xs := _) (.inl (.inl ha))
      obtain ⟨ws, p2, o2, _⟩ := I.tuple (xs := _) (.inl (.inl hb))
      have hp := both_items r1 r2 hd
      have hz : us.toArray.size = ws.toArray.size := by
        simp only [List.size_toArray]
        rw [← p1.length, ← p2.length]; exact Paired.length hp
      refine GQ.rc_tupG hz hu' (fun _ s' => s' = s) o1 o2 (fun j h1 h2 s' e => ?_) (fun s' e => by rw [e]; exact q) rfl
      subst e
      have := items_run (P := X.prog) (w := X.w) (A := A.in1) (s := s') ih hp p1 p2 j (by simpa using h1) (by simpa using h2)
      have := this E (fun r s2 => r = true ∧ s2 = s') ⟨rfl, rfl⟩
      simpa using this
  | dic ha r1 =>
    cases ry with
    | dic hb r2 =>
      have get : ∀ {c : Addr} {ks : List (Key × V)}, Rd H c (.dK ks) → ObjOk X.prog X.w H s.heap c (.dK ks) := fun h => by
        rcases h with h | ⟨o, h⟩
        · exact I.hok _ _ h
        · exact (I.hok _ _ h).2
      obtain ⟨_, y1, v1, k1, o1⟩ := get ha
      obtain ⟨_, y2, v2, k2, o2⟩ := get hb
      have h1 := Bool.and_eq_true_iff.mp hd
      have hh := hits_run (P := X.prog) (w := X.w) (A := A.in1) (s := s) ih k2 k1 (both_vals r1 r2 (of_decide_eq_true h1.1) h1.2)
      have e : v1.length = v2.length := by rw [← k1.length, ← k2.length, r1.length, r2.length]
      refine PySem.W.rcP_dicts (knd := mixKind X.prog X.w) (r := true) y1 y2 o1 o2 hu' (fun _ => hh) E Q ?_
      simpa [e] using q
theorem eq_run (I : Inv X pins σ H s) (hs : Sam G H) : ∀ (n : Nat) (A : Around), A.units + n < cLine → ∀ (x y : V) (v u : Value), Both G n x y → RelV x v → RelV y u → SeqAt.EqP X.prog X.w A s v u true
  | 0, _, _, _, _, _, _, ⟨_, h, _⟩, _, _ => by cases h
  | n + 1, A, hu, x, y, v, u, ⟨d, h, r1, r2⟩, rx, ry => by
    have q1 := Rp.rv hs r1 (eqOk_dOk h)
    have q2 := Rp.rv hs r2 (eqOk_dOk h)
    have ih := eq_run I hs n A.in1 (by show A.units + 1 + n < cLine; omega)
    have refs : ∀ a b : Addr, x = .ref a → y = .ref b → SeqAt.EqP X.prog X.w A s v u true := fun a b e1 e2 => by
      subst e1 e2
      cases rx; cases ry
      by_cases e : a = b
      · subst e
        exact (SeqAt.EqAt.same _).eqP
      · exact SeqAt.eqP_refs e (eq_refs_run I hs n A hu ih h q1 q2)
    cases q1 with
    | non => cases q2; exact (eqAt_same rx ry rfl).eqP
    | bl b => cases q2; exact (eqAt_same rx ry rfl).eqP
    | int i => cases q2; exact (eqAt_same rx ry rfl).eqP
    | str i => cases q2; exact (eqAt_same rx ry rfl).eqP
    | lst _ _ _ => cases q2; exact refs _ _ rfl rfl
    | tup _ _ _ => cases q2; exact refs _ _ rfl rfl
    | dic _ _ => cases q2; exact refs _ _ rfl rfl
/-- == of two lists, tuples or dicts that hold the same -/
def rEqSame (X : Cx) : R2 := fun x y H Q => ∃ G a b d, Sam G H ∧ x = .ref a ∧ y = .ref b ∧ eqOk 50 d = true ∧ Rv G H x d ∧ Rv G H y d ∧ Q (.bl true) H
theorem op_eqSame (hu : X.A.units + 64 < cLine) : OpR X (compareOp .Eq) (rEqSame X) := by
  intro pins s σ H x y v u Q I rx ry h
  obtain ⟨G, a, b, d, hs, rfl, rfl, hd, r1, r2, q⟩ := h
  cases rx; cases ry
  exact eq_refs_run I hs 49 X.A (by omega) (eq_run I hs 49 X.A.in1 (by show X.A.units + 1 + 49 < cLine; omega)) hd r1 r2 _ _ ⟨.bl true, H, I, rfl, q⟩
end
def isRefD : PyData → Bool
  | .list _ => true
  | .tuple _ => true
  | .dict _ => true
  | _ => false
theorem Rv.isRef {G H : Hp} {v : V} {d : PyData} (r : Rv G H v d) (h : isRefD d = true) : ∃ a, v = .ref a := by
  cases r <;> first | exact ⟨_, rfl⟩ | cases h
open Classical in
noncomputable def oEqS : Op2 := fun w u st => match val st w, val st u with
  | some d, some e => if d = e ∧ eqOk 50 d = true ∧ isRefD d = true then retB true st else .bad
  | _, _ => .bad
section
variable {X : Cx} {E : XK}
theorem pr_eqS : Prim2 (bx X) E oEqS (rEqSame X) := by
  intro F G al st H x y w u Q R rx ry p
  unfold oEqS at p
  split at p
  · rename_i d e e1 e2
    split at p
    · rename_i hc
      obtain ⟨rfl, h1, h2⟩ := hc
      have r1 := val_rv R rx e1
      have r2 := val_rv R ry e2
      obtain ⟨a, ea⟩ := r1.isRef h2
      obtain ⟨b, eb⟩ := r2.isRef h2
      exact ⟨G, a, b, d, R.sam, ea, eb, h1, r1, r2, retB_ok R p⟩
    · exact p.elim
  · exact p.elim
/-! ### is not False, of booleans -/
def oNotB : Op2 := fun w u st => match w, u with
  | .p (.bool b), .p (.bool c) => retB (!decide (b = c)) st
  | _, _ => .bad
theorem pr_notB : Prim2 (bx X) E oNotB (fun x y H Q => ∃ a b, x = .bl a ∧ y = .bl b ∧ Q (.bl (!decide (a = b))) H) := by
  intro F G al st H x y w u Q R rx ry p
  unfold oNotB at p
  split at p
  · rename_i b c
    cases rx; cases ry
    exact ⟨b, c, rfl, rfl, retB_ok R p⟩
  · exact p.elim
/-! ### == by an own __eq__ -/
def rOwn (C : Addr) (sp : Sp) (E : XK) : R2 := fun x y H Q => ∃ a b dx dy fs gs, x = .ref a ∧ y = .ref b ∧ H a = some (.ins C dx fs) ∧ H b = some (.ins C dy gs) ∧ sp [.ref a, .ref b] H (fun v H' => (∃ t, v = .bl t) ∧ Q v H') E
theorem op_own {C f : Addr} {fd : FuncData} {ps : List Str} {sp : Sp} {k : Nat} (F : FnOk X.prog X.w X.K X.mg X.base CX0 k f fd ps sp) (m : Meth X.K C "__eq__" f) (hb : Binds X.K fd ps []) (hr : Room k X.A) : OpR X (compareOp .Eq) (rOwn C sp E) := by
  intro pins s σ H x y v u Q I rx ry d
  obtain ⟨a, b, dx, dy, fs, gs, rfl, rfl, ha, hb', hsp⟩ := d
  cases rx; cases ry
  obtain ⟨_, J, _⟩ := ins_get I.hok ha
  obtain ⟨_, J2, _⟩ := ins_get I.hok hb'
  obtain ⟨_, J, _⟩ := J.look
  obtain ⟨_, J2, _⟩ := J2.look
  obtain ⟨_, hF⟩ := I.fr
  show wpAny (model X.prog X.w) X.A (richCompare .Eq _ _) (EP X pins σ Q) X.xe s
  refine PySem.W.cmp_K (op := .Eq) (tb := .ref C) hr.units0 hF I.ok.mod.kin J J2.type (by simp [PySem.W.notFirst]) m.at_ m.fn ?_
  have hl := F.len _ _ _ _ hsp
  have run := F.run X.A X.stack s H ⟨[.ref a, .ref b], []⟩ [.ref a, .ref b] [.ref a, .ref b] _ E hr I.env0 (by simpa using hb s [.ref a, .ref b] I.kIn (by simpa using hl)) (.cons rfl (.cons rfl .nil)) hsp
  refine wpAny_call (codeAny_mono run fun r s' hq => ?_)
  cases r with
  | error e => exact hq.elim
  | ok fl =>
    cases fl with
    | ret w =>
      obtain ⟨z, H', I', rz, ⟨t, ez⟩, qz⟩ := I.after hq
      subst ez
      cases rz
      exact ⟨.bl t, H', I', rfl, qz⟩
    | next => exact False.elim hq
    | brk => exact False.elim hq
    | cont => exact False.elim hq
def oOwn (c : Str) (f : Fn) : Op2 := fun w u st => match insOf st w, insOf st u with
  | some (c1, _), some (c2, _) => if c1 = c ∧ c2 = c then (f [w, u] st).bind fun r st' => match r with
    | .p (.bool t) => .ok (.p (.bool t)) st'
    | _ => .bad else .bad
  | _, _ => .bad
theorem pr_own {c : Str} {C : Addr} {f : Fn} (hm : X.mg c = some (.ref C)) : Prim2 (bx X) E (oOwn c f) (rOwn C (spF (bx X) 2 f) E) := by
  intro F G al st H x y w u Q R rx ry p
  unfold oOwn at p
  split at p
  · rename_i c1 f1 c2 f2 h1 h2
    split at p
    · rename_i hc
      obtain ⟨rfl, hc⟩ := hc
      subst hc
      obtain ⟨n1, a, C1, dx, gs, rfl, _, _, rfl, _, m1, e1, _⟩ := insOf_ok R rx h1
      obtain ⟨n2, b, C2, dy, hs, rfl, _, _, rfl, _, m2, e2, _⟩ := insOf_ok R ry h2
      rw [hm] at m1 m2
      cases m1; cases m2
      refine ⟨a, b, dx, dy, gs, hs, rfl, rfl, e1, e2, rfl, F, G, al, st, [.o n1, .o n2], R, .cons rx (.cons ry .nil), ?_⟩
      refine (Post.bind p).imp fun w G3 al3 st3 H3 g3 rs3 q v rv => ?_
      split at q
      · cases rv
        exact ⟨⟨_, rfl⟩, q G3 al3 H3 (.refl _ _) rs3 _ (.bl _)⟩
      · exact q.elim
    · exact p.elim
  · exact p.elim
def rOwnM (X : Cx) (c : Str) (f : Fn) (E : XK) : R2 := fun x y H Q => ∃ C, X.mg c = some (.ref C) ∧ rOwn C (spF (bx X) 2 f) E x y H Q
theorem op_ownM {c : Str} {k : Nat} {f : Fn} (M : MethOk X c "__eq__" k 2 f) (hr : Room k X.A) : OpR X (compareOp .Eq) (rOwnM X c f E) := by
  obtain ⟨C, a, fd, ps, h1, h2, h3, h4, h5⟩ := M.ex
  intro pins s σ H x y v u Q I rx ry h
  obtain ⟨C', hC, h⟩ := h
  rw [h1] at hC
  cases hC
  exact op_own h4 h3 h5 hr pins s σ H x y v u Q I rx ry h
theorem pr_ownM {c : Str} {f : Fn} : Prim2 (bx X) E (oOwn c f) (rOwnM X c f E) := by
  intro F G al st H x y w u Q R rx ry p
  have p0 := p
  unfold oOwn at p
  split at p
  · rename_i c1 f1 c2 f2 h1 h2
    split at p
    · rename_i hc
      obtain ⟨rfl, hc⟩ := hc
      obtain ⟨n1, a, C1, dx, gs, e0, _, _, _, _, m1, e1, _⟩ := insOf_ok R rx h1
      exact ⟨C1, m1, pr_own m1 F G al st H x y w u Q R rx ry p0⟩
    · exact p.elim
  · exact p.elim
/-! ### isinstance(x, C), C an own class -/
def sIsC (c : Str) (s : SemE) : SemE := fun en st => (s en st).bind fun w st => match insOf st w with
  | some (c', _) => if c' = c then retB true st else .bad
  | none => .bad
theorem se_isC {a : Expr} {s : SemE} {c : Str} {C : Addr} {p p2 pos : Pos} (ic : C8.InsC X.K C) (ha : SE X E a s) (hg : Gl X "isinstance") (hm : X.mg "isinstance" = none) (hgc : Gl X c) (hmc : X.mg c = some (.ref C))
    (hd : (c == ("__debug__" : Str)) = false := by decide)
    (he : starEach [a, .Name c p2] X.env = (false, eval a X.env) :: starEach [.Name c p2] X.env := by rfl) (hpl : (backTo pos (starEach [.Name c p2] X.env)).any (·.1) = false := by rfl) : SE X E (.Call (.Name "isinstance" p) [a, .Name c p2] [] pos) (sIsC c s) :=
  (pe_callB (C8.call_isC ic) hg hm (by decide +kernel) (pa_cons ha (pa_cons (C8.pe_gc (v := .ref C) hgc ⟨_, hmc, rfl⟩ hd) pa_nil (by rfl)) he) (by decide) (by decide) he hpl).weak fun σ H Q ⟨F, G, al, en, st, R, p⟩ =>
    tD_bind (sa := s) (k := fun w _ st => match insOf st w with
      | some (c', _) => if c' = c then retB true st else .bad
      | none => .bad) R p fun v H1 G1 al1 st1 w R1 r1 p1 _ => by
      split at p1
      · rename_i c' fs e1
        split at p1
        · rename_i hc
          subst hc
          obtain ⟨n1, a, C1, dx, gs, rfl, _, _, rfl, _, m1, h1, _⟩ := insOf_ok R1.s r1 e1
          rw [hmc] at m1
          cases m1
          exact ⟨a, dx, gs, rfl, h1, retB_ok R1.s p1⟩
        · exact p1.elim
      · exact p1.elim
end
end Pd
end

section
set_option Elab.async false
set_option linter.all false
set_option autoImplicit false
set_option maxRecDepth 100000
/-! Mx: the plain law's logic: what a semantic function gives. -/
namespace Pd
open PySem L2 PySem.W

/-- r ends well, and so that Q -/
def Ok {α : Type} (r : Res α) (Q : α → Sto → Prop) : Prop := match r with
  | .ok a st => Q a st
  | _ => False
section
variable {α β : Type} {r : Res α} {a : α} {st st' : Sto} {Q Q' : α → Sto → Prop}
@[simp] theorem ok_ok : Ok (.ok a st) Q = Q a st := rfl
@[simp] theorem ok_bad : Ok (.bad : Res α) Q = False := rfl
@[simp] theorem ok_exc {x : Exn} : Ok (.exc x st : Res α) Q = False := rfl
@[simp] theorem bind_ok {f : α → Sto → Res β} : (Res.ok a st).bind f = f a st := rfl
@[simp] theorem bind_bad {f : α → Sto → Res β} : (Res.bad : Res α).bind f = .bad := rfl
@[simp] theorem bind_exc {x : Exn} {f : α → Sto → Res β} : (Res.exc x st : Res α).bind f = .exc x st := rfl
@[simp] theorem ok_bind {f : α → Sto → Res β} {Q : β → Sto → Prop} : Ok (r.bind f) Q = Ok r fun a st => Ok (f a st) Q := by cases r <;> rfl
theorem Ok.mono (h : Ok r Q) (i : ∀ a st, Q a st → Q' a st) : Ok r Q' := by
  cases r with
  | ok a st => exact i a st h
  | exc x st => exact h.elim
  | bad => exact h.elim
theorem Ok.and (h : Ok r Q) (h' : Ok r Q') : Ok r fun a st => Q a st ∧ Q' a st := by
  cases r with
  | ok a st => exact ⟨h, h'⟩
  | exc x st => exact h.elim
  | bad => exact h.elim
theorem Ok.bind {f : α → Sto → Res β} {R : β → Sto → Prop} (h : Ok r Q) (i : ∀ a st, Q a st → Ok (f a st) R) : Ok (r.bind f) R := by
  rw [ok_bind]; exact h.mono i
theorem Ok.eq (h : r = .ok a st) (q : Q a st) : Ok r Q := by rw [h]; exact q
theorem Ok.to_eq {st : Sto} (h : Ok r fun a' st' => a' = a ∧ st' = st) : r = .ok a st := by
  cases r with
  | ok a' st' => obtain ⟨rfl, rfl⟩ := h; rfl
  | exc x st => exact h.elim
  | bad => exact h.elim
theorem Ok.get (h : Ok r Q) : ∃ a st, r = .ok a st ∧ Q a st := by
  cases r with
  | ok a st => exact ⟨a, st, rfl, h⟩
  | exc x st => exact h.elim
  | bad => exact h.elim
@[simp] theorem ok_noX : Ok (noX r) Q = Ok r Q := by cases r <;> rfl
@[simp] theorem noX_ok : noX (.ok a st : Res α) = .ok a st := rfl
end

/-! ### the store grows -/
/-- cells outside of D are as they were -/
def Kept (D : Nat → Prop) (st st' : Sto) : Prop := st.length ≤ st'.length ∧ ∀ (i : Nat) (c : Cell), ¬ D i → st[i]? = some c → st'[i]? = some c
abbrev Ext : Sto → Sto → Prop := Kept fun _ => False
section
variable {D D' : Nat → Prop} {a b c : Sto}
theorem Kept.refl : Kept D a a := ⟨Nat.le_refl _, fun _ _ _ h => h⟩
theorem Kept.trans (h : Kept D a b) (h' : Kept D b c) : Kept D a c := ⟨Nat.le_trans h.1 h'.1, fun i x d e => h'.2 i x d (h.2 i x d e)⟩
theorem Kept.mono (h : Kept D a b) (i : ∀ n, D n → D' n) : Kept D' a b := ⟨h.1, fun n x d e => h.2 n x (fun q => d (i n q)) e⟩
theorem Ext.app (l : Sto) : Kept D a (a ++ l) := ⟨by simp, fun i x _ e => by rw [List.getElem?_append_left (List.getElem?_eq_some_iff.mp e).1]; exact e⟩
theorem Ext.to (h : Ext a b) : Kept D a b := h.mono fun _ q => q.elim
theorem Ext.get (h : Ext a b) {i : Nat} {x : Cell} (e : a[i]? = some x) : b[i]? = some x := h.2 i x id e
/-- a cell is changed -/
theorem Kept.set {i : Nat} {x : Cell} (h : Kept D a b) (d : D i) : Kept D a (b.set i x) := ⟨by simpa using h.1, fun n y e z => by
  rw [List.getElem?_set_ne (fun q => e (by rw [← q]; exact d))]; exact h.2 n y e z⟩
/-- a new cell is changed -/
theorem Kept.setNew {i : Nat} {x : Cell} (h : Kept D a b) (d : a.length ≤ i) : Kept D a (b.set i x) := ⟨by simpa using h.1, fun n y e z => by
  have := (List.getElem?_eq_some_iff.mp z).1
  rw [List.getElem?_set_ne (by omega)]; exact h.2 n y e z⟩
theorem Kept.app (h : Kept D a b) (l : Sto) : Kept D a (b ++ l) := h.trans (Ext.app l)
/-- what is changed is new -/
theorem Kept.new (h : Kept (fun n => D n ∨ a.length ≤ n) a b) : Kept D a b := ⟨h.1, fun n y e z => h.2 n y (fun q => q.elim e fun q => by
  have := (List.getElem?_eq_some_iff.mp z).1
  omega) z⟩
theorem Kept.transNew (h : Kept D a b) (h' : Kept D' b c) (new : ∀ i, D' i → a.length ≤ i) : Kept D a c := ⟨Nat.le_trans h.1 h'.1, fun i x d e => h'.2 i x (fun q => by
  have h1 := new i q
  have h2 := (List.getElem?_eq_some_iff.mp e).1
  omega) (h.2 i x d e)⟩
theorem Kept.setN {n : Nat} {x : Cell} (h : Kept (fun m => m = n) a b) : Kept (fun m => m = n) a (b.set n x) := h.set rfl
theorem get_new {x : Cell} (l : Sto) : (a ++ x :: l)[a.length]? = some x := by simp
theorem get_new0 {x : Cell} : (a ++ [x])[a.length]? = some x := by simp
end

/-! ### values -/
section
variable {st : Sto} {n : Nat}
@[simp] theorem val_int (i : Int) : val st (.p (.int i)) = some (.int i) := rfl
@[simp] theorem val_str (i : Str) : val st (.p (.str i)) = some (.str i) := rfl
@[simp] theorem val_bool (i : Bool) : val st (.p (.bool i)) = some (.bool i) := rfl
@[simp] theorem val_none : val st (.p .none) = some .none := rfl
@[simp] theorem val_list (i : List PyData) : val st (.p (.list i)) = some (.list i) := rfl
@[simp] theorem val_tuple (i : List PyData) : val st (.p (.tuple i)) = some (.tuple i) := rfl
theorem val_dict {kvs : KVs} (h : (kvs.all fun kv => (keyOf kv.1).isSome) = true) : val st (.p (.dict kvs)) = some (.dict kvs) := if_pos h
theorem val_lst {ds : List PyData} (h : st[n]? = some (.lst ds)) : val st (.o n) = some (.list ds) := by simp only [val, h]
theorem val_dic {ds : KVs} (h : st[n]? = some (.dic ds)) : val st (.o n) = some (.dict ds) := by simp only [val, h]
theorem val_frzL {ds : List PyData} (h : st[n]? = some (.frz (.list ds))) : val st (.o n) = some (.list ds) := by simp only [val, h]; rfl
end

/-! ### loops -/
section
variable {α : Type} {tg : SemG} {b : SemS} {c : SemT} {Q : Fl → Sto → Prop}
/-- what a turn of a loop leaves -/
def Turn (nx : En → Sto → Prop) (Q : Fl → Sto → Prop) (f : Fl) (st : Sto) : Prop := match f with
  | .nx en => nx en st
  | .ct en => nx en st
  | .bk en => Q (.nx en) st
  | .rt w => Q (.rt w) st
@[simp] theorem turn_nx {nx : En → Sto → Prop} {en : En} {st : Sto} : Turn nx Q (.nx en) st = nx en st := rfl
@[simp] theorem turn_ct {nx : En → Sto → Prop} {en : En} {st : Sto} : Turn nx Q (.ct en) st = nx en st := rfl
@[simp] theorem turn_bk {nx : En → Sto → Prop} {en : En} {st : Sto} : Turn nx Q (.bk en) st = Q (.nx en) st := rfl
@[simp] theorem turn_rt {nx : En → Sto → Prop} {w : W} {st : Sto} : Turn nx Q (.rt w) st = Q (.rt w) st := rfl
theorem forL_rest (e : α → PyData) (I : List α → En → Sto → Prop)
    (step : ∀ x xs en st, I (x :: xs) en st → Ok (tg (.p (e x)) en st) fun en1 st1 => Ok (b en1 st1) (Turn (I xs) Q)) (done : ∀ en st, I [] en st → Q (.nx en) st) :
    ∀ (xs : List α) (en : En) (st : Sto), I xs en st → Ok (forL tg b (xs.map e) en st) Q
  | [], en, st, h => done en st h
  | x :: xs, en, st, h => by
    rw [List.map_cons, forL, ok_bind]
    refine (step x xs en st h).mono fun en1 st1 h1 => ?_
    rw [ok_bind]
    refine h1.mono fun f st2 h2 => ?_
    cases f with
    | nx en2 => exact forL_rest e I step done xs en2 st2 h2
    | ct en2 => exact forL_rest e I step done xs en2 st2 h2
    | bk en2 => exact h2
    | rt w => exact h2
theorem forL_pre (e : α → PyData) (all : List α) (I : List α → En → Sto → Prop)
    (step : ∀ pre x post en st, all = pre ++ x :: post → I pre en st → Ok (tg (.p (e x)) en st) fun en1 st1 => Ok (b en1 st1) (Turn (I (pre ++ [x])) Q)) (done : ∀ en st, I all en st → Q (.nx en) st) {en : En} {st : Sto} (h : I [] en st) :
    Ok (forL tg b (all.map e) en st) Q := by
  refine forL_rest e (fun rest en st => ∃ pre, all = pre ++ rest ∧ I pre en st) (fun x xs en st h => ?_) (fun en st h => ?_) all en st ⟨[], rfl, h⟩
  · obtain ⟨pre, e1, h1⟩ := h
    refine (step pre x xs en st e1 h1).mono fun en1 st1 h2 => h2.mono fun f st2 h3 => ?_
    cases f with
    | nx en2 => exact ⟨pre ++ [x], by rw [e1]; simp, h3⟩
    | ct en2 => exact ⟨pre ++ [x], by rw [e1]; simp, h3⟩
    | bk en2 => exact h3
    | rt w => exact h3
  · obtain ⟨pre, e1, h1⟩ := h
    rw [List.append_nil] at e1
    exact done en st (e1 ▸ h1)
theorem forL_enum (ds : List PyData) (I : Nat → En → Sto → Prop)
    (step : ∀ i d en st, ds[i]? = some d → I i en st → Ok (tg (.p (.tuple [.int i, d])) en st) fun en1 st1 => Ok (b en1 st1) (Turn (I (i + 1)) Q)) (done : ∀ en st, I ds.length en st → Q (.nx en) st) {en : En} {st : Sto} (h : I 0 en st) :
    Ok (forL tg b (enums ds) en st) Q := by
  have key : ∀ (m i : Nat) (en : En) (st : Sto), i + m = ds.length → I i en st → Ok (forL tg b ((List.range' i m).map fun i => .tuple [.int (i : Nat), ds.getD i .none]) en st) Q := by
    intro m
    induction m with
    | zero => intro i en st e h; exact done en st (by rw [← e]; exact h)
    | succ m ih =>
      intro i en st e h
      have hd : ds[i]? = some (ds.getD i .none) := by
        rw [List.getD_eq_getElem?_getD, List.getElem?_eq_getElem (by omega)]; rfl
      rw [List.range'_succ, List.map_cons, forL, ok_bind]
      refine (step i _ en st hd h).mono fun en1 st1 h1 => ?_
      rw [ok_bind]
      refine h1.mono fun f st2 h2 => ?_
      cases f with
      | nx en2 => exact ih (i + 1) en2 st2 (by omega) h2
      | ct en2 => exact ih (i + 1) en2 st2 (by omega) h2
      | bk en2 => exact h2
      | rt w => exact h2
  unfold enums
  rw [List.range_eq_range']
  exact key ds.length 0 en st (by omega) h
theorem while_ok (I : Nat → En → Sto → Prop)
    (step : ∀ m en st, I m en st → Ok (c en st) fun k st1 => if k = true then Ok (b en st1) (Turn (fun en2 st2 => ∃ m', m' < m ∧ I m' en2 st2) Q) else Q (.nx en) st1) :
    ∀ (fuel m : Nat) (en : En) (st : Sto), I m en st → m < fuel → Ok (whileN c b fuel en st) Q
  | 0, m, en, st, h, hm => absurd hm (Nat.not_lt_zero _)
  | n + 1, m, en, st, h, hm => by
    rw [whileN, ok_bind]
    refine (step m en st h).mono fun k st1 h1 => ?_
    cases k with
    | false => simpa using h1
    | true =>
      simp only [if_true] at h1
      simp only [if_true]
      rw [ok_bind]
      refine h1.mono fun f st2 h2 => ?_
      cases f with
      | nx en2 => obtain ⟨m', h3, h4⟩ := h2; exact while_ok I step n m' en2 st2 h4 (by omega)
      | ct en2 => obtain ⟨m', h3, h4⟩ := h2; exact while_ok I step n m' en2 st2 h4 (by omega)
      | bk en2 => exact h2
      | rt w => exact h2
end

/-! ### comprehensions -/
section
variable {α : Type} {tg : SemG} {c : SemT} {el ek ev : SemE} {en : En} {st : Sto}
/-- elements that change nothing -/
theorem lcL_map (e : α → PyData) (p : α → Bool) (f : α → PyData) : ∀ (xs : List α) (acc : List PyData),
    (∀ x ∈ xs, ∃ en1, tg (.p (e x)) en st = .ok en1 st ∧ c en1 st = .ok (p x) st ∧ (p x = true → el en1 st = .ok (.p (f x)) st)) → lcL tg c el en (xs.map e) acc st = .ok (acc ++ (xs.filter p).map f) st
  | [], acc, _ => by simp [lcL]
  | x :: xs, acc, h => by
    obtain ⟨en1, h1, h2, h3⟩ := h x List.mem_cons_self
    have ih := fun acc => lcL_map e p f xs acc fun y hy => h y (List.mem_cons_of_mem _ hy)
    rw [List.map_cons, lcL, h1]
    simp only [noX_ok, bind_ok, h2]
    cases hp : p x with
    | true => simp only [if_true, h3 hp, noX_ok, bind_ok, ih, List.filter_cons, hp, List.map_cons, List.append_assoc, List.singleton_append]
    | false => simp [ih, List.filter_cons, hp]
theorem lcL_all (e : α → PyData) (f : α → PyData) (xs : List α) (acc : List PyData)
    (h : ∀ x ∈ xs, ∃ en1, tg (.p (e x)) en st = .ok en1 st ∧ c en1 st = .ok true st ∧ el en1 st = .ok (.p (f x)) st) : lcL tg c el en (xs.map e) acc st = .ok (acc ++ xs.map f) st := by
  rw [lcL_map e (fun _ => true) f xs acc fun x hx => let ⟨en1, h1, h2, h3⟩ := h x hx; ⟨en1, h1, h2, fun _ => h3⟩]
  rw [List.filter_eq_self.mpr fun _ _ => rfl]
/-- elements that leave a law of the store -/
theorem lcL_ok (J : Sto → Prop) (e : α → PyData) (p : α → Bool) (P : α → PyData → Prop) : ∀ (xs : List α) (acc : List PyData) (st : Sto),
    (∀ x ∈ xs, ∀ st, J st → Ok (tg (.p (e x)) en st) fun en1 st1 => Ok (c en1 st1) fun k st2 => k = p x ∧ (k = false → J st2) ∧ (k = true → Ok (el en1 st2) fun w st3 => ∃ d, w = .p d ∧ P x d ∧ J st3)) → J st →
    Ok (lcL tg c el en (xs.map e) acc st) fun ds st' => ∃ l, ds = acc ++ l ∧ Paired P (xs.filter p) l ∧ J st'
  | [], acc, st, _, hj => ⟨[], by simp, .nil, hj⟩
  | x :: xs, acc, st, h, hj => by
    rw [List.map_cons, lcL, ok_bind, ok_noX]
    refine (h x List.mem_cons_self st hj).mono fun en1 st1 h1 => ?_
    rw [ok_bind, ok_noX]
    refine h1.mono fun k st2 ⟨hk, h2, h3⟩ => ?_
    cases k with
    | false =>
      simp only [Bool.false_eq_true, if_false]
      refine (lcL_ok J e p P xs acc st2 (fun y hy => h y (List.mem_cons_of_mem _ hy)) (h2 rfl)).mono fun ds st' ⟨l, e1, e2, e3⟩ => ⟨l, e1, ?_, e3⟩
      rw [List.filter_cons, ← hk]; exact e2
    | true =>
      simp only [if_true]
      rw [ok_bind, ok_noX]
      refine (h3 rfl).mono fun w st3 ⟨d, hd, hp, hj3⟩ => ?_
      subst hd
      refine (lcL_ok J e p P xs (acc ++ [d]) st3 (fun y hy => h y (List.mem_cons_of_mem _ hy)) hj3).mono fun ds st' ⟨l, e1, e2, e3⟩ => ⟨d :: l, by rw [e1]; simp, ?_, e3⟩
      rw [List.filter_cons, ← hk]; exact .cons hp e2
theorem lc2L_map {β : Type} {s1 : SemI} {tg1 : SemG} {c1 : SemT} {vs1 : List Nat} (e : α → PyData) (ys : α → List PyData) (g : α → List PyData) : ∀ (xs : List α) (acc : List PyData),
    (∀ x ∈ xs, ∃ en1, tg (.p (e x)) en st = .ok en1 st ∧ c en1 st = .ok true st ∧ s1 en1 st = .ok (ys x) st ∧ ∀ acc, lcL tg1 c1 el (wipeE en1 vs1) (ys x) acc st = .ok (acc ++ g x) st) → (acc ++ xs.flatMap g).length ≤ sizeLine →
    lc2L tg c s1 tg1 c1 el vs1 en (xs.map e) acc st = .ok (acc ++ xs.flatMap g) st
  | [], acc, _, _ => by simp [lc2L]
  | x :: xs, acc, h, hl => by
    obtain ⟨en1, h1, h2, h3, h4⟩ := h x List.mem_cons_self
    rw [List.flatMap_cons, ← List.append_assoc] at hl ⊢
    have ih := lc2L_map (β := β) e ys g xs (acc ++ g x) (fun y hy => h y (List.mem_cons_of_mem _ hy)) hl
    have hl2 : (acc ++ g x).length ≤ sizeLine := by
      rw [List.length_append] at hl; omega
    rw [List.map_cons, lc2L, h1]
    simp only [noX_ok, bind_ok, h2, if_true, h3, h4, hl2, ih]
/-- a dict display -/
theorem dcL_ok (J : Sto → Prop) (put : KVs → PyData → PyData → Option KVs) (e : α → PyData) (kf vf : α → PyData) : ∀ (xs : List α) (acc : KVs) (st : Sto),
    (∀ x ∈ xs, ∀ st, J st → Ok (tg (.p (e x)) en st) fun en1 st1 => Ok (c en1 st1) fun k st2 => k = true ∧ Ok (ek en1 st2) fun w st3 => w = .p (kf x) ∧ Ok (ev en1 st3) fun v st4 => v = .p (vf x) ∧ J st4) → J st →
    ∀ out, xs.foldl (fun (a : Option KVs) x => a.bind fun a => put a (kf x) (vf x)) (some acc) = some out → Ok (dcL put tg c ek ev en (xs.map e) acc st) fun kvs st' => kvs = out ∧ J st'
  | [], acc, st, _, hj, out, ho => ⟨by simpa using ho, hj⟩
  | x :: xs, acc, st, h, hj, out, ho => by
    rw [List.map_cons, dcL, ok_bind, ok_noX]
    refine (h x List.mem_cons_self st hj).mono fun en1 st1 h1 => ?_
    rw [ok_bind, ok_noX]
    refine h1.mono fun k st2 ⟨hk, h2⟩ => ?_
    subst hk
    simp only [if_true]
    rw [ok_bind, ok_noX]
    refine h2.mono fun w st3 ⟨hw, h3⟩ => ?_
    subst hw
    rw [ok_bind, ok_noX]
    refine h3.mono fun v st4 ⟨hv, hj4⟩ => ?_
    subst hv
    rw [List.foldl_cons, Option.bind_some] at ho
    cases hp : put acc (kf x) (vf x) with
    | none =>
      rw [hp] at ho
      exfalso
      have : ∀ ys : List α, ys.foldl (fun (a : Option KVs) x => a.bind fun a => put a (kf x) (vf x)) none = none := fun ys => by induction ys with
        | nil => rfl
        | cons y ys ih => rw [List.foldl_cons]; exact ih
      rw [this] at ho; cases ho
    | some acc' =>
      rw [hp] at ho
      simp only [hp]
      exact dcL_ok J put e kf vf xs acc' st4 (fun y hy => h y (List.mem_cons_of_mem _ hy)) hj4 out ho
end

/-! ### the parts of a body -/
section
variable {en : En} {st : Sto} {i j l n : Nat} {w : W} {d : PyData} {a b : SemS} {s t : SemE} {c c' : SemT} {ta : SemA} {op : Op2}
def varOf (o : Option (Option W)) (st : Sto) : Res W := match o with | some (some w) => .ok w st | _ => .bad
@[simp] theorem varOf_some : varOf (some (some w)) st = .ok w st := rfl
@[simp] theorem sVar_eq : sVar i en st = varOf en[i]? st := rfl
@[simp] theorem sC_eq : sC d en st = .ok (.p d) st := rfl
@[simp] theorem sB_eq : sB op s t en st = (s en st).bind fun w st => (t en st).bind fun u st => op w u st := rfl
@[simp] theorem asB_bool {k : Bool} : asB (.ok (.p (.bool k)) st) = .ok k st := rfl
def boolOf (w : W) (st : Sto) : Res Bool := match w with
  | .p (.bool b) => .ok b st
  | _ => .bad
@[simp] theorem boolOf_bool {k : Bool} : boolOf (.p (.bool k)) st = .ok k st := rfl
@[simp] theorem ok_asB {r : Res W} {Q : Bool → Sto → Prop} : Ok (asB r) Q = Ok r fun w st => Ok (boolOf w st) Q := by
  show Ok (Res.bind _ _) Q = _
  rw [ok_bind]; rfl
@[simp] theorem sT_eq : sT s en st = asB (s en st) := rfl
@[simp] theorem sAnd_eq : sAnd c c' en st = (c en st).bind fun b st => if b = true then c' en st else .ok false st := rfl
@[simp] theorem sOr_eq : sOr c c' en st = (c en st).bind fun b st => if b = true then .ok true st else c' en st := rfl
@[simp] theorem sNot_eq : sNot c en st = (c en st).bind fun b st => .ok (!b) st := rfl
@[simp] theorem sIf_eq : sIf c s t en st = (c en st).bind fun b st => if b = true then s en st else t en st := rfl
@[simp] theorem sAndV_eq : sAndV s t en st = (asB (s en st)).bind fun b st => if b = true then t en st else .ok (.p (.bool false)) st := rfl
@[simp] theorem sOrV_eq : sOrV s t en st = (asB (s en st)).bind fun b st => if b = true then .ok (.p (.bool true)) st else t en st := rfl
@[simp] theorem sNotV_eq : sNotV s en st = (asB (s en st)).bind fun b st => .ok (.p (.bool (!b))) st := rfl
@[simp] theorem sNil_eq : sNil en st = .ok [] st := rfl
@[simp] theorem sCons_eq : sCons s ta en st = (s en st).bind fun w st => (ta en st).bind fun ws st => .ok (w :: ws) st := rfl
@[simp] theorem plains_nil : plains [] = some [] := rfl
@[simp] theorem plains_p {ws : List W} : plains (.p d :: ws) = (plains ws).map (d :: ·) := rfl
def dispOf (mk : Mk1) (o : Option (List PyData)) (st : Sto) : Res W := match o with | some ds => mk ds st | none => .bad
@[simp] theorem dispOf_some {mk : Mk1} {ds : List PyData} : dispOf mk (some ds) st = mk ds st := rfl
@[simp] theorem sDisp_eq {mk : Mk1} : sDisp mk ta en st = (ta en st).bind fun ws st => dispOf mk (plains ws) st := rfl
@[simp] theorem retB_eq {k : Bool} : retB k st = .ok (.p (.bool k)) st := rfl
@[simp] theorem retI_eq {k : Int} : retI k st = .ok (.p (.int k)) st := rfl
@[simp] theorem retS_eq {k : Str} : retS k st = .ok (.p (.str k)) st := rfl
@[simp] theorem sNext_eq : sNext en st = .ok (.nx en) st := rfl
/-- what a statement leaves to the next -/
def Seq (b : SemS) (Q : Fl → Sto → Prop) (f : Fl) (st : Sto) : Prop := match f with
  | .nx en' => Ok (b en' st) Q
  | f => Q f st
@[simp] theorem seq_nx {Q : Fl → Sto → Prop} : Seq b Q (.nx en) st = Ok (b en st) Q := rfl
@[simp] theorem seq_rt {Q : Fl → Sto → Prop} : Seq b Q (.rt w) st = Q (.rt w) st := rfl
@[simp] theorem seq_bk {Q : Fl → Sto → Prop} : Seq b Q (.bk en) st = Q (.bk en) st := rfl
@[simp] theorem seq_ct {Q : Fl → Sto → Prop} : Seq b Q (.ct en) st = Q (.ct en) st := rfl
@[simp] theorem ok_sSeq {Q : Fl → Sto → Prop} : Ok (sSeq a b en st) Q = Ok (a en st) (Seq b Q) := by
  show Ok (Res.bind _ _) Q = _
  rw [ok_bind]
  congr 1
  funext f st
  cases f <;> rfl
theorem sSeq_eq : sSeq a b en st = (a en st).bind fun f st => match f with | .nx en' => b en' st | f => .ok f st := rfl
@[simp] theorem sBrk_eq : sBrk en st = .ok (.bk en) st := rfl
@[simp] theorem sCnt_eq : sCnt en st = .ok (.ct en) st := rfl
@[simp] theorem sBad_eq : sBad en st = .bad := rfl
@[simp] theorem sSet_eq : sSet i s en st = (s en st).bind fun w st => .ok (.nx (en.set i (some w))) st := rfl
@[simp] theorem sRet_eq : sRet s en st = (s en st).bind fun w st => .ok (.rt w) st := rfl
@[simp] theorem sRetN_eq : sRetN en st = .ok (.rt (.p .none)) st := rfl
@[simp] theorem sDo_eq : sDo s en st = (s en st).bind fun _ st => .ok (.nx en) st := rfl
@[simp] theorem sIfS_eq : sIfS c a b en st = (c en st).bind fun k st => if k = true then a en st else b en st := rfl
def par2 (i j : Nat) (en : En) (ws : List W) (st : Sto) : Res Fl := match ws with | [w, u] => .ok (.nx ((en.set i (some w)).set j (some u))) st | _ => .bad
@[simp] theorem par2_eq {u : W} : par2 i j en [w, u] st = .ok (.nx ((en.set i (some w)).set j (some u))) st := rfl
@[simp] theorem sPar_eq : sPar i j ta en st = (ta en st).bind (par2 i j en) := rfl
def par3 (i j l : Nat) (en : En) (ws : List W) (st : Sto) : Res Fl := match ws with | [w, u, v] => .ok (.nx (((en.set i (some w)).set j (some u)).set l (some v))) st | _ => .bad
@[simp] theorem par3_eq {u v : W} : par3 i j l en [w, u, v] st = .ok (.nx (((en.set i (some w)).set j (some u)).set l (some v))) st := rfl
@[simp] theorem sPar3_eq : sPar3 i j l ta en st = (ta en st).bind (par3 i j l en) := rfl
@[simp] theorem gN_eq : gN i w en st = .ok (en.set i (some w)) st := rfl
@[simp] theorem gNilS_eq : gNilS [] en st = .ok en st := rfl
@[simp] theorem gConsS_eq {g : SemG} {r : SemGs} {ds : List PyData} : gConsS g r (d :: ds) en st = (g (.p d) en st).bind fun en st => r ds en st := rfl
@[simp] theorem gTupS_eq {r : SemGs} {ds : List PyData} : gTupS n r (.p (.tuple ds)) en st = if ds.length = n then r ds en st else .bad := rfl
@[simp] theorem sAsg_eq {g : SemG} : sAsg s g en st = (s en st).bind fun w st => (g w en st).bind fun en st => .ok (.nx en) st := rfl
/-- what is walked over -/
def itemsOf (w : W) (st : Sto) : Res (List PyData) := match w with
  | .p (.list ds) => .ok ds st
  | .p (.tuple ds) => .ok ds st
  | .p (.str x) => if x.cps.size ≤ sizeLine then .ok (signs x) st else .bad
  | .s ns => if ns.length ≤ sizeLine then .ok (ns.map .int) st else .bad
  | .p (.dict kvs) => if allKeys kvs = true then .ok (kvs.map (·.1)) st else .bad
  | .o n => match st[n]? with
    | some (.frz (.list ds)) => .ok ds st
    | some (.frz (.dict kvs)) => if allKeys kvs = true then .ok (kvs.map (·.1)) st else .bad
    | _ => .bad
  | _ => .bad
@[simp] theorem sItems_eq : sItems s en st = (s en st).bind itemsOf := rfl
@[simp] theorem itemsOf_list {ds : List PyData} : itemsOf (.p (.list ds)) st = .ok ds st := rfl
@[simp] theorem itemsOf_tuple {ds : List PyData} : itemsOf (.p (.tuple ds)) st = .ok ds st := rfl
theorem itemsOf_str {x : Str} (h : x.cps.size ≤ sizeLine) : itemsOf (.p (.str x)) st = .ok (signs x) st := if_pos h
theorem itemsOf_scr {ns : List Int} (h : ns.length ≤ sizeLine) : itemsOf (.s ns) st = .ok (ns.map .int) st := if_pos h
theorem itemsOf_dict {kvs : KVs} (h : allKeys kvs = true) : itemsOf (.p (.dict kvs)) st = .ok (kvs.map (·.1)) st := if_pos h
theorem itemsOf_frzL {ds : List PyData} (h : st[n]? = some (.frz (.list ds))) : itemsOf (.o n) st = .ok ds st := by simp only [itemsOf, h]
@[simp] theorem sFor_eq {si : SemI} {g : SemG} : sFor si g a en st = (si en st).bind fun ds st => forL g a ds en st := rfl
@[simp] theorem sEnumA_eq : sEnumA s en st = (s en st).bind enumOf := rfl
@[simp] theorem enumOf_list {ds : List PyData} : enumOf (.p (.list ds)) st = .ok (enums ds) st := rfl
@[simp] theorem enumOf_tuple {ds : List PyData} : enumOf (.p (.tuple ds)) st = .ok (enums ds) st := rfl
@[simp] theorem tYesS_eq : tYesS en st = .ok true st := rfl
@[simp] theorem sLc_eq {si : SemI} {g : SemG} {el : SemE} {vs : List Nat} {kp : List PyData → Sto → Res W} : sLc si g c el vs kp en st = (si en st).bind fun ds st => (lcL g c el (wipeE en vs) ds [] st).bind kp := rfl
@[simp] theorem wipeE_nil : wipeE en [] = en := rfl
@[simp] theorem wipeE_cons {v : Nat} {vs : List Nat} : wipeE en (v :: vs) = (wipeE en vs).set v none := rfl
@[simp] theorem keepL_eq {ds : List PyData} : keepL ds st = .ok (.p (.list ds)) st := rfl
@[simp] theorem keepO_eq {ds : List PyData} : keepO ds st = .ok (.o st.length) (st ++ [.lst ds]) := rfl
@[simp] theorem keepDO_eq {ds : KVs} : keepDO ds st = .ok (.o st.length) (st ++ [.dic ds]) := rfl
@[simp] theorem keepTO_eq {ds : KVs} : keepTO ds st = .ok (.o st.length) (st ++ [.dit ds]) := rfl
@[simp] theorem sCall_eq {f : Fn} : sCall f ta en st = (ta en st).bind fun ws st => f ws st := rfl
@[simp] theorem sDict0_eq : sDict0 en st = .ok (.o st.length) (st ++ [.dic []]) := rfl
@[simp] theorem sDictT_eq : sDictT en st = .ok (.o st.length) (st ++ [.dit []]) := rfl
@[simp] theorem sFrz_eq : sFrz s en st = (s en st).bind frzW := rfl
@[simp] theorem frzW_p : frzW (.p d) st = .ok (.p d) st := rfl
theorem frzW_lst {ds : List PyData} (h : st[n]? = some (.lst ds)) : frzW (.o n) st = .ok (.p (.list ds)) (st.set n (.frz (.list ds))) := by unfold frzW; simp [h]
theorem frzW_frz (h : st[n]? = some (.frz d)) : frzW (.o n) st = .ok (.p d) st := by unfold frzW; simp [h]
theorem frzW_dic {ds : KVs} (h : st[n]? = some (.dic ds)) : frzW (.o n) st = .ok (.p (.dict ds)) (st.set n (.frz (.dict ds))) := by unfold frzW; simp [h]
@[simp] theorem sDc_eq {put : KVs → PyData → PyData → Option KVs} {si : SemI} {g : SemG} {ek ev : SemE} {vs : List Nat} {kp : KVs → Sto → Res W} : sDc put si g c ek ev vs kp en st = (si en st).bind fun ds st => (dcL put g c ek ev (wipeE en vs) ds [] st).bind kp := rfl
@[simp] theorem sSl_eq {lo hi : SemO} : sSl s lo hi en st = (s en st).bind fun w st => (lo en st).bind fun lo st => (hi en st).bind fun hi st => oSl w lo hi st := rfl
@[simp] theorem oNone_eq : oNone en st = .ok none st := rfl
def bndOf (w : W) (st : Sto) : Res (Option Int) := match w with | .p (.int i) => .ok (some i) st | _ => .bad
@[simp] theorem bndOf_int {i : Int} : bndOf (.p (.int i)) st = .ok (some i) st := rfl
@[simp] theorem oSome_eq : oSome s en st = (s en st).bind bndOf := rfl
@[simp] theorem sBm_eq {m : OpM} : sBm m s ta en st = (s en st).bind fun w st => if isLst st w = true then (ta en st).bind fun ws st => m w ws st else .bad := rfl
def methOf (C m : Str) (f : Fn) (ta : SemA) (en : En) (w : W) (st : Sto) : Res W := match insOf st w with
  | some (c', fs) => if c' = C ∧ fs.lookup m = none then (ta en st).bind fun ws st => f (w :: ws) st else .bad
  | none => .bad
theorem methOf_o {C m : Str} {f : Fn} {fs : List (Str × W)} (h : st[n]? = some (.ins C fs)) (h2 : fs.lookup m = none) : methOf C m f ta en (.o n) st = (ta en st).bind fun ws st => f (.o n :: ws) st := by
  simp [methOf, insOf, h, h2]
@[simp] theorem sMeth_eq {C m : Str} {f : Fn} : sMeth C m f s ta en st = (s en st).bind fun w st => methOf C m f ta en w st := rfl
def fldOf (C m : Str) (w : W) (st : Sto) : Res W := match insOf st w with
  | some (c', fs) => if c' = C then (match fs.lookup m with
    | some u => .ok u st
    | none => .bad) else .bad
  | none => .bad
theorem fldOf_o {C m : Str} {fs : List (Str × W)} (h : st[n]? = some (.ins C fs)) (h2 : fs.lookup m = some w) : fldOf C m (.o n) st = .ok w st := by
  simp [fldOf, insOf, h, h2]
@[simp] theorem sFldG_eq {C m : Str} : sFldG C m s en st = (s en st).bind fun w st => fldOf C m w st := rfl
def isiOf (f : PyData → Bool) (o : Option PyData) (st : Sto) : Res W := match o with | some d => retB (f d) st | none => .bad
@[simp] theorem isiOf_some {f : PyData → Bool} : isiOf f (some d) st = .ok (.p (.bool (f d))) st := rfl
@[simp] theorem sIsi_eq {f : PyData → Bool} : sIsi f s en st = (s en st).bind fun w st => isiOf f (val st w) st := rfl
def sortSetOf (mk : Mk1) (w : W) (st : Sto) : Res W := match uniq st w with | some ks => mk ((srtS ks).map .str) st | none => .bad
@[simp] theorem sSortSet_eq {mk : Mk1} : sSortSet mk s en st = (s en st).bind (sortSetOf mk) := rfl
def lenSetOf (w : W) (st : Sto) : Res W := match uniq st w with | some ks => retI ks.length st | none => .bad
@[simp] theorem sLenSet_eq : sLenSet s en st = (s en st).bind lenSetOf := rfl
def nxt (en : En) (o : Option Sto) : Res Fl := match o with
  | some st' => .ok (.nx en) st'
  | none => .bad
@[simp] theorem nxt_some : nxt en (some st) = .ok (.nx en) st := rfl
@[simp] theorem sPut_eq {so si sv : SemE} : sPut so si sv en st = (sv en st).bind fun v st => (so en st).bind fun w st => (si en st).bind fun u st => nxt en (oPut w u v st) := rfl
@[simp] theorem sPutT_eq {so si sv : SemE} : sPutT so si sv en st = (sv en st).bind fun v st => (so en st).bind fun w st => (si en st).bind fun u st => nxt en (oPutT w u v st) := rfl
def revOf (mk : Mk1) (o : Option PyData) (st : Sto) : Res W := match o with | some (.list ds) => mk ds.reverse st | _ => .bad
@[simp] theorem revOf_list {mk : Mk1} {ds : List PyData} : revOf mk (some (.list ds)) st = mk ds.reverse st := rfl
@[simp] theorem sRev_eq {mk : Mk1} : sRev mk s en st = (s en st).bind fun w st => revOf mk (val st w) st := rfl
def augI (i : Nat) (f : Int → Int → Int) (a : Int) (en : En) (w : W) (st : Sto) : Res Fl := match w with
  | .p (.int b) => .ok (.nx (en.set i (some (.p (.int (f a b)))))) st
  | _ => .bad
@[simp] theorem augI_int {f : Int → Int → Int} {a b : Int} : augI i f a en (.p (.int b)) st = .ok (.nx (en.set i (some (.p (.int (f a b)))))) st := rfl
theorem sAugI_eq {f : Int → Int → Int} {a : Int} (h : en[i]? = some (some (.p (.int a)))) : sAugI i f s en st = (s en st).bind (augI i f a en) := by
  unfold sAugI; simp only [h]; rfl
@[simp] theorem sLc2_eq {si s1 : SemI} {g tg1 : SemG} {c1 : SemT} {el : SemE} {vs vs1 : List Nat} {kp : List PyData → Sto → Res W} : sLc2 si g c s1 tg1 c1 el vs vs1 kp en st = (si en st).bind fun ds st => (lc2L g c s1 tg1 c1 el vs1 (wipeE en vs) ds [] st).bind kp := rfl
def rng1 (w : W) (st : Sto) : Res (List PyData) := match w with
  | .p (.int j) => if smallR j = true then .ok (intsD 0 j.toNat) st else .bad
  | _ => .bad
theorem rng1_int {j : Int} (h : smallR j = true) : rng1 (.p (.int j)) st = .ok (intsD 0 j.toNat) st := if_pos h
@[simp] theorem sRange1_eq : sRange1 s en st = (s en st).bind rng1 := rfl
@[simp] theorem sParN_eq {is : List Nat} : sParN is ta en st = (ta en st).bind fun ws st => if ws.length = is.length ∧ ws.length ≤ sizeLine then .ok (.nx (setAllE en is ws)) st else .bad := rfl
def setFld (C f : Str) (u : W) (en : En) (w : W) (st : Sto) : Res Fl := match w, insOf st w with
  | .o n, some (c', fs) => if c' = C ∧ fs.length < 1000 then .ok (.nx en) (st.set n (.ins C (putW f u fs))) else .bad
  | _, _ => .bad
theorem setFld_o {C f : Str} {u : W} {fs : List (Str × W)} (h : st[n]? = some (.ins C fs)) (hl : fs.length < 1000) : setFld C f u en (.o n) st = .ok (.nx en) (st.set n (.ins C (putW f u fs))) := by
  simp [setFld, insOf, h, hl]
@[simp] theorem sFldS_eq {C f : Str} : sFldS C f s t en st = (t en st).bind fun u st => (s en st).bind fun w st => setFld C f u en w st := rfl
def madeOf (n : Nat) (w : W) (st : Sto) : Res W := match w with
  | .p .none => .ok (.o n) st
  | _ => .bad
@[simp] theorem madeOf_none : madeOf n (.p .none) st = .ok (.o n) st := rfl
@[simp] theorem sMake_eq {C : Str} {f : Fn} : sMake C f ta en st = (ta en st).bind fun ws st => (f (.o st.length :: ws) (st ++ [.ins C []])).bind (madeOf st.length) := rfl
def newRcd (o : Option (List (Str × W))) (st : Sto) : Res W := match o with
  | some kvs => .ok (.o st.length) (st ++ [.rcd kvs])
  | none => .bad
@[simp] theorem newRcd_some {kvs : List (Str × W)} : newRcd (some kvs) st = .ok (.o st.length) (st ++ [.rcd kvs]) := rfl
@[simp] theorem sRcd_eq {ks : List Str} : sRcd ks ta en st = (noX (ta en st)).bind fun ws st => newRcd (rcdOf ks ws []) st := rfl
def goO (g : SemG) (a : SemS) (fuel : Nat) (en : En) (w : W) (st : Sto) : Res Fl := match w with
  | .o n => forO g a n fuel 0 en st
  | _ => .bad
@[simp] theorem goO_o {g : SemG} {fuel : Nat} : goO g a fuel en (.o n) st = forO g a n fuel 0 en st := rfl
@[simp] theorem sForO_eq {g : SemG} {fuel : Nat} : sForO s g a fuel en st = (s en st).bind fun w st => goO g a fuel en w st := rfl
@[simp] theorem sCallK_eq {m : Nat} {is : List Nat} {f : Fn} : sCallK m is f ta en st = (ta en st).bind fun ws st => if ws.length = m then f (pick is ws) st else .bad := rfl
def joinOf (z : Str) (o : Option PyData) (st : Sto) : Res W := match o with
  | some (.list ds) => match strsOf ds with
    | some ys => if (ys.map (·.length)).sum + ys.length * z.length ≤ 16777216 then retS (Txt.join z ys) st else .bad
    | none => .bad
  | _ => .bad
def joinBy (t : SemE) (en : En) (w : W) (st : Sto) : Res W := match w with
  | .p (.str z) => (t en st).bind fun u st => joinOf z (val st u) st
  | _ => .bad
@[simp] theorem joinBy_str {z : Str} : joinBy t en (.p (.str z)) st = (t en st).bind fun u st => joinOf z (val st u) st := rfl
@[simp] theorem sJoin_eq : sJoin s t en st = (s en st).bind (joinBy t en) := rfl
@[simp] theorem setAllE_nil : setAllE en [] [] = en := rfl
@[simp] theorem setAllE_cons {is : List Nat} {ws : List W} : setAllE en (i :: is) (w :: ws) = setAllE (en.set i (some w)) is ws := rfl

/-! indices -/
theorem oIx_tuple {ds : List PyData} {i : Int} (h : atI ds i = some d) : oIx (.p (.tuple ds)) (.p (.int i)) st = .ok (.p d) st := by
  show (match atI ds i with | some d => Res.ok (W.p d) st | none => .bad) = _
  rw [h]
theorem oIx_list {ds : List PyData} {i : Int} (h : atI ds i = some d) : oIx (.p (.list ds)) (.p (.int i)) st = .ok (.p d) st := by
  show (match atI ds i with | some d => Res.ok (W.p d) st | none => .bad) = _
  rw [h]
theorem oIx_rcd {kvs : List (Str × W)} {k : Str} (h : st[n]? = some (.rcd kvs)) (h2 : kvs.lookup k = some w) : oIx (.o n) (.p (.str k)) st = .ok w st := by
  show (match st[n]? with | some (.rcd kvs) => (match kvs.lookup k with | some w' => Res.ok w' st | none => .bad) | _ => _) = _
  simp only [h, h2]
/-- a def's end -/
def retF : Fl → Sto → Res W := fun f st => match f with
  | .rt w => .ok w st
  | .nx _ => .ok (.p .none) st
  | _ => .bad
@[simp] theorem retF_rt : retF (.rt w) st = .ok w st := rfl
@[simp] theorem retF_nx : retF (.nx en) st = .ok (.p .none) st := rfl
end
end Pd
end

section
set_option Elab.async false
set_option linter.all false
set_option autoImplicit false
set_option maxRecDepth 100000
/-! Mx2: how plain lists lie in data: dicts with text keys, dicts with tuple keys; sets. -/
namespace Pd
open PySem L2 PySem.W

/-! ### dicts with text keys -/
section
variable {α β : Type}
def eD (f : α → PyData) (l : List (Str × α)) : KVs := l.map fun p => (.str p.1, f p.2)
@[simp] theorem eD_nil (f : α → PyData) : eD f [] = [] := rfl
@[simp] theorem eD_len (f : α → PyData) (l : List (Str × α)) : (eD f l).length = l.length := List.length_map ..
theorem eD_all (f : α → PyData) (l : List (Str × α)) : ((eD f l).all fun kv => (keyOf kv.1).isSome) = true := by
  rw [List.all_eq_true]
  intro x hx
  obtain ⟨p, _, rfl⟩ := List.mem_map.mp hx
  rfl
theorem eD_keys (f : α → PyData) (l : List (Str × α)) : (eD f l).map (·.1) = (l.map (·.1)).map .str := by simp [eD]
@[simp] theorem val_eD {st : Sto} (f : α → PyData) (l : List (Str × α)) : val st (.p (.dict (eD f l))) = some (.dict (eD f l)) := val_dict (eD_all f l)
theorem ditOf_eD {st : Sto} (f : α → PyData) (l : List (Str × α)) : ditOf st (.p (.dict (eD f l))) = none := by
  cases l with
  | nil => rfl
  | cons p r =>
    have h : ((eD f (p :: r)).all fun kv => (tkOf kv.1).isSome) = false := rfl
    show (if ((eD f (p :: r)).all (fun kv => (tkOf kv.1).isSome) && !(eD f (p :: r)).isEmpty) = true then some (eD f (p :: r)) else none) = none
    rw [h]; rfl
theorem cListB_eD {mk : Mk1} {st : Sto} (f : α → PyData) (l : List (Str × α)) : cListB mk [.p (.dict (eD f l))] st = mk ((l.map (·.1)).map .str) st := by
  show (match ditOf st (.p (.dict (eD f l))) with | some kvs => if tupsShort kvs = true then mk (kvs.map Prod.fst) st else .bad | none => cListA mk [.p (.dict (eD f l))] st) = _
  rw [ditOf_eD]
  simp only [cListA, val_eD, eD_all, if_true, eD_keys]
theorem cListB_dic {mk : Mk1} {st : Sto} {n : Nat} (f : α → PyData) {l : List (Str × α)} (h : st[n]? = some (.dic (eD f l))) : cListB mk [.o n] st = mk ((l.map (·.1)).map .str) st := by
  have h2 : ditOf st (.o n) = none := by simp only [ditOf, h]
  show (match ditOf st (.o n) with | some kvs => if tupsShort kvs = true then mk (kvs.map Prod.fst) st else .bad | none => cListA mk [.o n] st) = _
  rw [h2]
  simp only [cListA, val_dic h, eD_all, if_true, eD_keys]
theorem cListB_list {mk : Mk1} {st : Sto} {ds : List PyData} : cListB mk [.p (.list ds)] st = mk ds st := rfl
theorem cListB_tuple {mk : Mk1} {st : Sto} {ds : List PyData} : cListB mk [.p (.tuple ds)] st = mk ds st := rfl
theorem cListB_lst {mk : Mk1} {st : Sto} {n : Nat} {ds : List PyData} (h : st[n]? = some (.lst ds)) : cListB mk [.o n] st = mk ds st := by
  have h2 : ditOf st (.o n) = none := by simp only [ditOf, h]
  show (match ditOf st (.o n) with | some kvs => if tupsShort kvs = true then mk (kvs.map Prod.fst) st else .bad | none => cListA mk [.o n] st) = _
  rw [h2]
  simp only [cListA, val_lst h]
theorem cListB_scr {mk : Mk1} {st : Sto} {ns : List Int} : cListB mk [.s ns] st = mk (ns.map .int) st := rfl
/-- lookup -/
def look : List (Str × α) → Str → Option α
  | [], _ => none
  | (x, a) :: r, k => if x = k then some a else look r k
theorem dLook_eD (f : α → PyData) (k : Str) : ∀ l : List (Str × α), dLook (eD f l) (.inr k) = (look l k).map f
  | [] => rfl
  | (x, a) :: r => by
    show (if keyOf (.str x) = some (.inr k) then some (f a) else dLook (eD f r) (.inr k)) = _
    rw [dLook_eD f k r]
    by_cases h : x = k
    · subst h; simp [keyOf, look]
    · have : ¬ keyOf (.str x) = some (.inr k) := by simp [keyOf, h]
      rw [if_neg this]; simp [look, h]
theorem oIx_eD {st : Sto} (f : α → PyData) {l : List (Str × α)} {k : Str} {a : α} (h : look l k = some a) : oIx (.p (.dict (eD f l))) (.p (.str k)) st = .ok (.p (f a)) st := by
  show (match val st (.p (.dict (eD f l))), PyData.str k with
    | some (.list ds), .int i => _
    | some (.tuple ds), .int i => _
    | some (.str z), .int i => _
    | some (.dict kvs), j => _
    | _, _ => _) = _
  rw [val_eD]
  show (match dLook (eD f l) (.inr k) with | some d => Res.ok (W.p d) st | none => .bad) = _
  rw [dLook_eD, h]; rfl
theorem oIx_dic {st : Sto} {n : Nat} (f : α → PyData) {l : List (Str × α)} {k : Str} {a : α} (hs : st[n]? = some (.dic (eD f l))) (h : look l k = some a) : oIx (.o n) (.p (.str k)) st = .ok (.p (f a)) st := by
  simp only [oIx, val_str, hs, val_dic hs, dLook_eD, h, Option.map_some]
theorem look_mem {l : List (Str × α)} {k : Str} {a : α} (h : look l k = some a) : (k, a) ∈ l := by
  induction l with
  | nil => cases h
  | cons p r ih =>
    obtain ⟨x, b⟩ := p
    unfold look at h
    split at h
    · rename_i e; cases h; subst e; exact List.mem_cons_self
    · exact List.mem_cons_of_mem _ (ih h)
theorem look_of_mem {l : List (Str × α)} {k : Str} {a : α} (nd : (l.map (·.1)).Nodup) (h : (k, a) ∈ l) : look l k = some a := by
  induction l with
  | nil => cases h
  | cons p r ih =>
    obtain ⟨x, b⟩ := p
    rw [List.map_cons, List.nodup_cons] at nd
    unfold look
    rcases List.mem_cons.mp h with e | h
    · cases e; rw [if_pos rfl]
    · rw [if_neg (fun e => nd.1 (List.mem_map.mpr ⟨_, h, e.symm⟩)), ih nd.2 h]
theorem look_some {l : List (Str × α)} {k : Str} (h : k ∈ l.map (·.1)) : ∃ a, look l k = some a := by
  induction l with
  | nil => cases h
  | cons p r ih =>
    obtain ⟨x, b⟩ := p
    unfold look
    split
    · exact ⟨b, rfl⟩
    · rename_i e
      rcases List.mem_cons.mp h with e2 | h
      · exact absurd e2.symm e
      · exact ih h
theorem look_none {l : List (Str × α)} {k : Str} (h : k ∉ l.map (·.1)) : look l k = none := by
  cases e : look l k with
  | none => rfl
  | some a => exact absurd (List.mem_map.mpr ⟨_, look_mem e, rfl⟩) h
theorem look_isSome {l : List (Str × α)} {k : Str} : (look l k).isSome = decide (k ∈ l.map (·.1)) := by
  by_cases h : k ∈ l.map (·.1)
  · obtain ⟨a, e⟩ := look_some h; rw [e]; simp [h]
  · rw [look_none h]; simp [h]
theorem look_perm {l m : List (Str × α)} (p : l.Perm m) (nd : (l.map (·.1)).Nodup) (k : Str) : look l k = look m k := by
  cases e : look l k with
  | some a => exact (look_of_mem ((p.map _).nodup_iff.mp nd) (p.mem_iff.mp (look_mem e))).symm
  | none =>
    refine (look_none fun h => ?_).symm
    obtain ⟨a, ha⟩ := look_some ((p.map (·.1)).mem_iff.mpr h)
    rw [e] at ha; cases ha
theorem dPut_new (f : α → PyData) {l : List (Str × α)} {k : Str} {a : α} (h : k ∉ l.map (·.1)) : dPut (eD f l) (.inr k) (f a) = eD f (l ++ [(k, a)]) := by
  unfold dPut
  rw [if_neg]
  · simp [eD, keyD]
  · rw [List.any_eq_true]
    rintro ⟨x, hx, e⟩
    obtain ⟨p, hp, rfl⟩ := List.mem_map.mp hx
    simp [keyOf] at e
    exact h (List.mem_map.mpr ⟨p, hp, e⟩)
end

/-! ### calls: a service and a method or none -/
abbrev Call := Str × Option Str
def eO : Option Str → PyData
  | none => .none
  | some m => .str m
def eC (c : Call) : PyData := .tuple [.str c.1, eO c.2]
instance : Datum (Option Str) where
  toD := eO
  plain a := by cases a <;> rfl
  eqv a b := by
    cases a <;> cases b <;> simp only [eO, PyData.eqv]
    · rfl
    · rfl
    · rfl
    · rw [beq_decide]; simp
  depth := 0
  depth_le a := by cases a <;> exact Nat.le_refl _
theorem eC_toD (c : Call) : eC c = Datum.toD c := rfl
theorem eC_any (cs : List Call) (c : Call) : ((cs.map eC).any fun d => PyData.eqv d (eC c)) = decide (c ∈ cs) := (any_datum cs c).trans (by congr)
theorem eC_plainAll (cs : List Call) : PyData.plainAll (cs.map eC) = true := plainAll_map cs
theorem eC_okD (c : Call) : okD (eC c) = true := by
  unfold okD
  rw [eC_toD, Datum.plain]
  have := Datum.depth_le (α := Call) c
  have e : Datum.depth Call = 1 := rfl
  simp; omega
def lfO : Option Str → Leaf
  | none => .none
  | some m => .text m
def lfC (c : Call) : List Leaf := [.text c.1, lfO c.2]
theorem lfC_inj {c d : Call} (h : lfC c = lfC d) : c = d := by
  obtain ⟨a, b⟩ := c
  obtain ⟨x, y⟩ := d
  cases b <;> cases y <;> simp [lfC, lfO] at h ⊢
  · exact h
  · exact h
@[simp] theorem tkOf_eC (c : Call) : tkOf (eC c) = some (lfC c) := by
  obtain ⟨a, b⟩ := c
  cases b <;> rfl
@[simp] theorem tkW_eC (c : Call) : tkW (.p (eC c)) = some (lfC c) := tkOf_eC c
section
variable {α : Type}
def eT (f : α → PyData) (l : List (Call × α)) : KVs := l.map fun p => (eC p.1, f p.2)
def lookC : List (Call × α) → Call → Option α
  | [], _ => none
  | (x, a) :: r, k => if x = k then some a else lookC r k
@[simp] theorem eT_len (f : α → PyData) (l : List (Call × α)) : (eT f l).length = l.length := List.length_map ..
theorem eT_keys (f : α → PyData) (l : List (Call × α)) : (eT f l).map (·.1) = (l.map (·.1)).map eC := by simp [eT]
theorem tLook_eT (f : α → PyData) (k : Call) : ∀ l : List (Call × α), tLook (eT f l) (lfC k) = (lookC l k).map f
  | [] => rfl
  | (x, a) :: r => by
    have ih := tLook_eT f k r
    unfold tLook at ih ⊢
    show (((eC x, f a) :: eT f r).find? fun kv => decide (tkOf kv.1 = some (lfC k))).map (·.2) = _
    rw [List.find?_cons]
    by_cases h : x = k
    · subst h; simp [lookC]
    · have : decide (tkOf (eC x) = some (lfC k)) = false := by
        rw [decide_eq_false_iff_not, tkOf_eC]
        exact fun e => h (lfC_inj (Option.some.inj e))
      simp only [this, ih]
      simp [lookC, h]
theorem tPut_new (f : α → PyData) {l : List (Call × α)} {k : Call} {a : α} (h : k ∉ l.map (·.1)) : tPut (eT f l) (lfC k) (f a) = eT f (l ++ [(k, a)]) := by
  unfold tPut
  rw [if_neg]
  · obtain ⟨x, y⟩ := k
    cases y <;> simp [eT, eC, eO, lfC, lfO, leafD]
  · rw [List.any_eq_true]
    rintro ⟨x, hx, e⟩
    obtain ⟨p, hp, rfl⟩ := List.mem_map.mp hx
    simp only [tkOf_eC, Option.some.injEq, decide_eq_true_eq] at e
    exact h (List.mem_map.mpr ⟨p, hp, lfC_inj e⟩)
theorem lookC_mem {l : List (Call × α)} {k : Call} {a : α} (h : lookC l k = some a) : (k, a) ∈ l := by
  induction l with
  | nil => cases h
  | cons p r ih =>
    obtain ⟨x, b⟩ := p
    unfold lookC at h
    split at h
    · rename_i e; cases h; subst e; exact List.mem_cons_self
    · exact List.mem_cons_of_mem _ (ih h)
theorem lookC_some {l : List (Call × α)} {k : Call} (h : k ∈ l.map (·.1)) : ∃ a, lookC l k = some a := by
  induction l with
  | nil => cases h
  | cons p r ih =>
    obtain ⟨x, b⟩ := p
    unfold lookC
    split
    · exact ⟨b, rfl⟩
    · rename_i e
      rcases List.mem_cons.mp h with e2 | h
      · exact absurd e2.symm e
      · exact ih h
theorem lookC_none {l : List (Call × α)} {k : Call} (h : k ∉ l.map (·.1)) : lookC l k = none := by
  cases e : lookC l k with
  | none => rfl
  | some a => exact absurd (List.mem_map.mpr ⟨_, lookC_mem e, rfl⟩) h
theorem lookC_isSome {l : List (Call × α)} {k : Call} : (lookC l k).isSome = decide (k ∈ l.map (·.1)) := by
  by_cases h : k ∈ l.map (·.1)
  · obtain ⟨a, e⟩ := lookC_some h; rw [e]; simp [h]
  · rw [lookC_none h]; simp [h]
theorem lookC_of_mem {l : List (Call × α)} {k : Call} {a : α} (nd : (l.map (·.1)).Nodup) (h : (k, a) ∈ l) : lookC l k = some a := by
  induction l with
  | nil => cases h
  | cons p r ih =>
    obtain ⟨x, b⟩ := p
    rw [List.map_cons, List.nodup_cons] at nd
    unfold lookC
    rcases List.mem_cons.mp h with e | h
    · cases e; rw [if_pos rfl]
    · rw [if_neg (fun e => nd.1 (List.mem_map.mpr ⟨_, h, e.symm⟩)), ih nd.2 h]
theorem cListB_dit {mk : Mk1} {st : Sto} {n : Nat} (f : α → PyData) {l : List (Call × α)} (h : st[n]? = some (.dit (eT f l))) : cListB mk [.o n] st = mk ((l.map (·.1)).map eC) st := by
  have h2 : ditOf st (.o n) = some (eT f l) := by simp only [ditOf, h]
  show (match ditOf st (.o n) with | some kvs => if tupsShort kvs = true then mk (kvs.map Prod.fst) st else .bad | none => cListA mk [.o n] st) = _
  rw [h2]
  have h3 : tupsShort (eT f l) = true := by
    unfold tupsShort
    rw [List.all_eq_true]
    intro x hx
    obtain ⟨p, _, rfl⟩ := List.mem_map.mp hx
    rfl
  simp only [h3, if_true, eT_keys]
theorem oIxT_dit {st : Sto} {n : Nat} (f : α → PyData) {l : List (Call × α)} {k : Call} {a : α} (hs : st[n]? = some (.dit (eT f l))) (h : lookC l k = some a) : oIxT (.o n) (.p (eC k)) st = .ok (.p (f a)) st := by
  have h2 : ditOf st (.o n) = some (eT f l) := by simp only [ditOf, hs]
  simp only [oIxT, h2, tkW_eC, tLook_eT, h, Option.map_some]
theorem oInT_dit {st : Sto} {n : Nat} {neg : Bool} (f : α → PyData) {l : List (Call × α)} {k : Call} (hs : st[n]? = some (.dit (eT f l))) : oInT neg (.p (eC k)) (.o n) st = .ok (.p (.bool (if neg then !decide (k ∈ l.map (·.1)) else decide (k ∈ l.map (·.1))))) st := by
  have h2 : ditOf st (.o n) = some (eT f l) := by simp only [ditOf, hs]
  simp only [oInT, h2, tkW_eC, tLook_eT, Option.isSome_map, lookC_isSome, retB_eq]
theorem oPutT_dit {st : Sto} {n : Nat} (f : α → PyData) {l : List (Call × α)} {k : Call} {a : α} (hs : st[n]? = some (.dit (eT f l))) (hz : l.length < sizeLine) (h : k ∉ l.map (·.1)) : oPutT (.o n) (.p (eC k)) (.p (f a)) st = some (st.set n (.dit (eT f (l ++ [(k, a)])))) := by
  simp only [oPutT, hs, tkW_eC, eT_len, hz, if_true, tPut_new f h]
@[simp] theorem ditOf_dit {st : Sto} {n : Nat} {kvs : KVs} (h : st[n]? = some (.dit kvs)) : ditOf st (.o n) = some kvs := by simp only [ditOf, h]
theorem ditOf_other {st : Sto} {n : Nat} {ds : List PyData} (h : st[n]? = some (.lst ds)) : ditOf st (.o n) = none := by simp only [ditOf, h]
end

/-! ### texts -/
@[simp] theorem strsOf_map (xs : List Str) : strsOf (xs.map .str) = some xs := by
  induction xs with
  | nil => rfl
  | cons x xs ih => simp [strsOf, ih]
theorem mem_ins {ks : List Str} {k x : Str} : x ∈ ins ks k ↔ x = k ∨ x ∈ ks := by
  unfold ins
  split
  · rename_i h
    exact ⟨.inr, fun e => e.elim (fun e => e ▸ h) id⟩
  · rw [List.mem_cons]
theorem ins_nodup {ks : List Str} {k : Str} (h : ks.Nodup) : (ins ks k).Nodup := by
  unfold ins
  split
  · exact h
  · rename_i e; exact List.nodup_cons.mpr ⟨e, h⟩
/-- the set of some texts -/
def dedup (xs : List Str) : List Str := xs.foldl ins []
theorem foldl_ins_nodup : ∀ (xs ks : List Str), ks.Nodup → (xs.foldl ins ks).Nodup
  | [], _, h => h
  | x :: xs, ks, h => foldl_ins_nodup xs _ (ins_nodup h)
theorem mem_foldl_ins : ∀ (xs ks : List Str) (x : Str), x ∈ xs.foldl ins ks ↔ x ∈ xs ∨ x ∈ ks
  | [], ks, x => by simp
  | y :: xs, ks, x => by
    rw [List.foldl_cons, mem_foldl_ins xs, mem_ins, List.mem_cons]
    constructor
    · rintro (h | h | h)
      · exact .inl (.inr h)
      · exact .inl (.inl h)
      · exact .inr h
    · rintro ((h | h) | h)
      · exact .inr (.inl h)
      · exact .inl h
      · exact .inr (.inr h)
theorem dedup_nodup (xs : List Str) : (dedup xs).Nodup := foldl_ins_nodup xs [] List.nodup_nil
theorem mem_dedup {xs : List Str} {x : Str} : x ∈ dedup xs ↔ x ∈ xs := by
  unfold dedup; rw [mem_foldl_ins]; simp
theorem perm_of_mem {xs ys : List Str} (hx : xs.Nodup) (hy : ys.Nodup) (h : ∀ x, x ∈ xs ↔ x ∈ ys) : xs.Perm ys := (List.perm_ext_iff_of_nodup hx hy).mpr h
theorem dedup_perm {xs : List Str} (h : xs.Nodup) : (dedup xs).Perm xs := perm_of_mem (dedup_nodup xs) h fun _ => mem_dedup
theorem foldl_ins_len : ∀ (xs ks : List Str), (xs.foldl ins ks).length ≤ xs.length + ks.length
  | [], _ => by simp
  | x :: xs, ks => by
    have := foldl_ins_len xs (ins ks x)
    have h2 : (ins ks x).length ≤ ks.length + 1 := by unfold ins; split <;> simp
    rw [List.foldl_cons, List.length_cons]; omega
theorem dedup_le (xs : List Str) : (dedup xs).length ≤ xs.length := by simpa [dedup] using foldl_ins_len xs []
theorem dedup_len {xs : List Str} : (dedup xs).length = xs.length ↔ xs.Nodup := by
  constructor
  · intro h
    have key : ∀ (xs ks : List Str), (xs.foldl ins ks).length = xs.length + ks.length → xs.Nodup ∧ ∀ x ∈ xs, x ∉ ks := by
      intro xs
      induction xs with
      | nil => intro ks _; simp
      | cons x xs ih =>
        intro ks e
        have h1 := foldl_ins_len xs (ins ks x)
        have h2 : x ∉ ks := fun hx => by
          have : ins ks x = ks := by unfold ins; rw [if_pos hx]
          rw [List.foldl_cons, this] at e
          have := foldl_ins_len xs ks
          rw [e, List.length_cons] at this; omega
        have e2 : ins ks x = x :: ks := by unfold ins; rw [if_neg h2]
        rw [List.foldl_cons, e2] at e
        obtain ⟨i1, i2⟩ := ih (x :: ks) (by rw [e, List.length_cons, List.length_cons]; omega)
        refine ⟨List.nodup_cons.mpr ⟨fun hx => i2 x hx List.mem_cons_self, i1⟩, fun y hy => ?_⟩
        rcases List.mem_cons.mp hy with rfl | hy
        · exact h2
        · exact fun hk => i2 y hy (List.mem_cons_of_mem _ hk)
    exact (key xs [] (by simpa [dedup] using h)).1
  · intro h; exact (dedup_perm h).length_eq
theorem mem_srtS {xs : List Str} {x : Str} : x ∈ srtS xs ↔ x ∈ xs := (List.mergeSort_perm _ _).mem_iff
theorem srtS_len (xs : List Str) : (srtS xs).length = xs.length := (List.mergeSort_perm _ _).length_eq
theorem srtS_nodup {xs : List Str} (h : xs.Nodup) : (srtS xs).Nodup := (List.mergeSort_perm _ _).nodup_iff.mpr h
theorem srtS_perm_self (xs : List Str) : (srtS xs).Perm xs := List.mergeSort_perm _ _
/-- ascending, without duplicates -/
def setOf (xs : List Str) : List Str := srtS (dedup xs)
theorem setOf_congr {xs ys : List Str} (h : ∀ x, x ∈ xs ↔ x ∈ ys) : setOf xs = setOf ys :=
  srtS_perm (perm_of_mem (dedup_nodup xs) (dedup_nodup ys) fun x => by rw [mem_dedup, mem_dedup, h])
theorem mem_setOf {xs : List Str} {x : Str} : x ∈ setOf xs ↔ x ∈ xs := by unfold setOf; rw [mem_srtS, mem_dedup]
theorem setOf_len (xs : List Str) : (setOf xs).length ≤ xs.length := by unfold setOf; rw [srtS_len]; exact dedup_le xs
theorem uniq_list {st : Sto} {xs : List Str} (h : xs.length < 4000) : uniq st (.p (.list (xs.map .str))) = some (dedup xs) := by
  simp [uniq, h, dedup]
theorem uniq_tuple {st : Sto} {xs : List Str} (h : xs.length < 4000) : uniq st (.p (.tuple (xs.map .str))) = some (dedup xs) := by
  simp [uniq, h, dedup]
theorem any_str (xs : List Str) (x : Str) : ((xs.map PyData.str).any fun z => PyData.eqv z (.str x)) = decide (x ∈ xs) := any_datum xs x
theorem plainAll_str (xs : List Str) : PyData.plainAll (xs.map PyData.str) = true := plainAll_map xs
theorem eqv_str (a b : Str) : PyData.eqv (.str a) (.str b) = decide (a = b) := Datum.eqv a b
theorem eqv_int (a b : Int) : PyData.eqv (.int a) (.int b) = decide (a = b) := Datum.eqv a b
@[simp] theorem okD_int (i : Int) : okD (.int i) = true := rfl
@[simp] theorem okD_str (i : Str) : okD (.str i) = true := rfl
@[simp] theorem okD_none : okD .none = true := rfl
@[simp] theorem okD_bool (i : Bool) : okD (.bool i) = true := rfl
@[simp] theorem okD_nilL : okD (.list []) = true := rfl
theorem sizeLine_big {n : Nat} (h : n ≤ 1000000) : n ≤ sizeLine := Nat.le_trans h (by decide)
end Pd
end

section
set_option Elab.async false
set_option linter.all false
set_option autoImplicit false
set_option maxRecDepth 100000
/-! Mx3: houses as plain lists. -/
namespace Pd
open PySem L2 PySem.W
@[simp] theorem isD_int_int {i : Int} : isD "int" (.int i) = true := rfl
@[simp] theorem isD_int_bool {i : Bool} : isD "int" (.bool i) = true := rfl
@[simp] theorem isD_int_str {i : Str} : isD "int" (.str i) = false := rfl
@[simp] theorem isD_int_list {i : List PyData} : isD "int" (.list i) = false := rfl
@[simp] theorem isD_int_tuple {i : List PyData} : isD "int" (.tuple i) = false := rfl
@[simp] theorem isD_int_dict {i : KVs} : isD "int" (.dict i) = false := rfl
@[simp] theorem isD_int_none  : isD "int" .none = false := rfl
@[simp] theorem isD_bool_int {i : Int} : isD "bool" (.int i) = false := rfl
@[simp] theorem isD_bool_bool {i : Bool} : isD "bool" (.bool i) = true := rfl
@[simp] theorem isD_bool_str {i : Str} : isD "bool" (.str i) = false := rfl
@[simp] theorem isD_bool_list {i : List PyData} : isD "bool" (.list i) = false := rfl
@[simp] theorem isD_bool_tuple {i : List PyData} : isD "bool" (.tuple i) = false := rfl
@[simp] theorem isD_bool_dict {i : KVs} : isD "bool" (.dict i) = false := rfl
@[simp] theorem isD_bool_none  : isD "bool" .none = false := rfl
@[simp] theorem isD_str_int {i : Int} : isD "str" (.int i) = false := rfl
@[simp] theorem isD_str_bool {i : Bool} : isD "str" (.bool i) = false := rfl
@[simp] theorem isD_str_str {i : Str} : isD "str" (.str i) = true := rfl
@[simp] theorem isD_str_list {i : List PyData} : isD "str" (.list i) = false := rfl
@[simp] theorem isD_str_tuple {i : List PyData} : isD "str" (.tuple i) = false := rfl
@[simp] theorem isD_str_dict {i : KVs} : isD "str" (.dict i) = false := rfl
@[simp] theorem isD_str_none  : isD "str" .none = false := rfl
@[simp] theorem isD_list_int {i : Int} : isD "list" (.int i) = false := rfl
@[simp] theorem isD_list_bool {i : Bool} : isD "list" (.bool i) = false := rfl
@[simp] theorem isD_list_str {i : Str} : isD "list" (.str i) = false := rfl
@[simp] theorem isD_list_list {i : List PyData} : isD "list" (.list i) = true := rfl
@[simp] theorem isD_list_tuple {i : List PyData} : isD "list" (.tuple i) = false := rfl
@[simp] theorem isD_list_dict {i : KVs} : isD "list" (.dict i) = false := rfl
@[simp] theorem isD_list_none  : isD "list" .none = false := rfl
@[simp] theorem isD_tuple_int {i : Int} : isD "tuple" (.int i) = false := rfl
@[simp] theorem isD_tuple_bool {i : Bool} : isD "tuple" (.bool i) = false := rfl
@[simp] theorem isD_tuple_str {i : Str} : isD "tuple" (.str i) = false := rfl
@[simp] theorem isD_tuple_list {i : List PyData} : isD "tuple" (.list i) = false := rfl
@[simp] theorem isD_tuple_tuple {i : List PyData} : isD "tuple" (.tuple i) = true := rfl
@[simp] theorem isD_tuple_dict {i : KVs} : isD "tuple" (.dict i) = false := rfl
@[simp] theorem isD_tuple_none  : isD "tuple" .none = false := rfl
@[simp] theorem isD_dict_int {i : Int} : isD "dict" (.int i) = false := rfl
@[simp] theorem isD_dict_bool {i : Bool} : isD "dict" (.bool i) = false := rfl
@[simp] theorem isD_dict_str {i : Str} : isD "dict" (.str i) = false := rfl
@[simp] theorem isD_dict_list {i : List PyData} : isD "dict" (.list i) = false := rfl
@[simp] theorem isD_dict_tuple {i : List PyData} : isD "dict" (.tuple i) = false := rfl
@[simp] theorem isD_dict_dict {i : KVs} : isD "dict" (.dict i) = true := rfl
@[simp] theorem isD_dict_none  : isD "dict" .none = false := rfl
abbrev Step := Str × Str × Str
def eStep (s : Step) : PyData := .tuple [.str s.1, .str s.2.1, .str s.2.2]
abbrev Scr := List Step
def eScr (x : Scr) : PyData := .tuple (x.map eStep)
abbrev Deed := Int × Scr
def eDeed (m : Deed) : PyData := .tuple [.int m.1, eScr m.2]
abbrev Tab := List (Str × Deed)
def eTab (t : Tab) : PyData := .dict (eD eDeed t)
abbrev Serv := Option Int × Scr × Tab
def eI : Option Int → PyData
  | none => .none
  | some i => .int i
def eServ (s : Serv) : PyData := .tuple [eI s.1, eScr s.2.1, eTab s.2.2]
abbrev Home := List (Str × Serv)
def eHome (h : Home) : PyData := .dict (eD eServ h)
/-- 1 to 8 small letters -/
def NameOk (x : Str) : Prop := 1 ≤ x.cps.size ∧ x.cps.size ≤ 8 ∧ ∀ c ∈ x.cps.toList, 97 ≤ c ∧ c ≤ 122
def sWait : Str := "wait"
def sPost : Str := "post"
def StepOk (h : Home) (s : Step) : Prop := (s.1 = sWait ∨ s.1 = sPost) ∧ ∃ sv m, look h s.2.1 = some sv ∧ look sv.2.2 s.2.2 = some m
def ScrOk (h : Home) (x : Scr) : Prop := x.length ≤ 4 ∧ ∀ s ∈ x, StepOk h s
def DeedOk (h : Home) (d : Deed) : Prop := 0 ≤ d.1 ∧ d.1 ≤ 99 ∧ ScrOk h d.2
structure NamesOk (xs : List Str) (n : Nat) : Prop where
  nd : xs.Nodup
  pos : 1 ≤ xs.length
  le : xs.length ≤ n
  ok : ∀ x ∈ xs, NameOk x
structure ServOk (h : Home) (s : Serv) : Prop where
  w : ∀ i, s.1 = some i → 1 ≤ i ∧ i ≤ 4
  st : ScrOk h s.2.1
  ns : NamesOk (s.2.2.map (·.1)) 4
  ds : ∀ p ∈ s.2.2, DeedOk h p.2
structure HomeOk (h : Home) : Prop where
  ns : NamesOk (h.map (·.1)) 6
  sv : ∀ p ∈ h, ServOk h p.2

/-- the script of a call -/
def scrOf (h : Home) (c : Call) : Option Scr := match look h c.1 with
  | none => none
  | some sv => match c.2 with
    | none => some sv.2.1
    | some m => (look sv.2.2 m).map (·.2)
/-- the calls of the wait steps -/
def waitsOf (x : Scr) : List Call := (x.filter fun s => decide (s.1 = sWait)).map fun s => (s.2.1, some s.2.2)
theorem HomeOk.scr {h : Home} (g : HomeOk h) {c : Call} {x : Scr} (e : scrOf h c = some x) : ScrOk h x := by
  unfold scrOf at e
  split at e
  · cases e
  · rename_i sv hs
    have gs := g.sv _ (look_mem hs)
    split at e
    · cases e; exact gs.st
    · obtain ⟨d, hd, rfl⟩ := Option.map_eq_some_iff.mp e
      exact (gs.ds _ (look_mem hd)).2.2
theorem HomeOk.wait {h : Home} (g : HomeOk h) {c d : Call} {x : Scr} (e : scrOf h c = some x) (hd : d ∈ waitsOf x) : ∃ y, scrOf h d = some y := by
  obtain ⟨s, hs, rfl⟩ := List.mem_map.mp hd
  obtain ⟨_, sv, m, h1, h2⟩ := (g.scr e).2 s (List.mem_filter.mp hs).1
  exact ⟨m.2, by simp [scrOf, h1, h2]⟩
/-- how many calls a script makes by waits -/
structure Sized (h : Home) (sz : Call → Nat) : Prop where
  eq : ∀ c x, scrOf h c = some x → sz c = ((waitsOf x).map fun d => 1 + sz d).sum
  le : ∀ c x, scrOf h c = some x → sz c ≤ 30
/-- what a script waits for -/
inductive Rch (h : Home) (c : Call) : Call → Prop
  | base {x : Scr} {d : Call} : scrOf h c = some x → d ∈ waitsOf x → Rch h c d
  | step {x : Scr} {d e : Call} : Rch h c d → scrOf h d = some x → e ∈ waitsOf x → Rch h c e
theorem sum_le_mem {l : List Call} {f : Call → Nat} {d : Call} (h : d ∈ l) : f d ≤ (l.map f).sum := by
  induction l with
  | nil => cases h
  | cons x l ih =>
    rw [List.map_cons, List.sum_cons]
    rcases List.mem_cons.mp h with rfl | h
    · omega
    · have := ih h; omega
theorem Sized.lt {h : Home} {sz : Call → Nat} (z : Sized h sz) {c d : Call} {x : Scr} (e : scrOf h c = some x) (hd : d ∈ waitsOf x) : sz d < sz c := by
  have := sum_le_mem (f := fun d => 1 + sz d) hd
  rw [← z.eq c x e] at this
  omega
theorem Sized.rch {h : Home} {sz : Call → Nat} (z : Sized h sz) {c d : Call} (r : Rch h c d) : sz d < sz c := by
  induction r with
  | base e hd => exact z.lt e hd
  | step _ e hd ih => have := z.lt e hd; omega
theorem Rch.scr {h : Home} (g : HomeOk h) {c d : Call} (r : Rch h c d) : ∃ y, scrOf h d = some y := by
  cases r with
  | base e hd => exact g.wait e hd
  | step _ e hd => exact g.wait e hd
theorem Rch.meth {h : Home} {c d : Call} (r : Rch h c d) : ∃ m, d.2 = some m := by
  cases r with
  | base e hd => obtain ⟨s, _, rfl⟩ := List.mem_map.mp hd; exact ⟨_, rfl⟩
  | step _ e hd => obtain ⟨s, _, rfl⟩ := List.mem_map.mp hd; exact ⟨_, rfl⟩
/-- the letters -/
theorem letter_in : ∀ i : Fin 26, (!(Builtin.Str.occurrences ("abcdefghijklmnopqrstuvwxyz" : Str) ⟨#[97 + i.val]⟩ 0 ("abcdefghijklmnopqrstuvwxyz" : Str).length 1).isEmpty) = true := by decide +kernel
theorem letter_in' {c : Nat} (h1 : 97 ≤ c) (h2 : c ≤ 122) : (!(Builtin.Str.occurrences ("abcdefghijklmnopqrstuvwxyz" : Str) ⟨#[c]⟩ 0 ("abcdefghijklmnopqrstuvwxyz" : Str).length 1).isEmpty) = true := by
  have := letter_in ⟨c - 97, by omega⟩
  have e : 97 + (c - 97) = c := by omega
  simp only [e] at this
  exact this
theorem bools_true : ∀ n : Nat, bools (List.replicate n (.bool true)) = some (List.replicate n true)
  | 0 => rfl
  | n + 1 => by rw [List.replicate_succ, bools, bools_true n]; rfl
theorem bools_map {α : Type} (f : α → Bool) : ∀ xs : List α, bools (xs.map fun x => PyData.bool (f x)) = some (xs.map f)
  | [] => rfl
  | x :: xs => by rw [List.map_cons, bools, bools_map f xs]; rfl
theorem cAll_map {α : Type} {st : Sto} (g : List Bool → Bool) (f : α → Bool) (xs : List α) : cAll g [.p (.list (xs.map fun x => PyData.bool (f x)))] st = .ok (.p (.bool (g (xs.map f)))) st := by
  simp [cAll, bools_map]
@[simp] theorem eScr_val {st : Sto} (x : Scr) : val st (.p (eScr x)) = some (eScr x) := rfl
@[simp] theorem eStep_val {st : Sto} (x : Step) : val st (.p (eStep x)) = some (eStep x) := rfl
@[simp] theorem eDeed_val {st : Sto} (x : Deed) : val st (.p (eDeed x)) = some (eDeed x) := rfl
@[simp] theorem eServ_val {st : Sto} (x : Serv) : val st (.p (eServ x)) = some (eServ x) := rfl
@[simp] theorem eTab_val {st : Sto} (x : Tab) : val st (.p (eTab x)) = some (.dict (eD eDeed x)) := val_eD ..
@[simp] theorem eHome_val {st : Sto} (x : Home) : val st (.p (eHome x)) = some (.dict (eD eServ x)) := val_eD ..
@[simp] theorem oIx_step0 {st : Sto} (x : Step) : oIx (.p (eStep x)) (.p (.int 0)) st = .ok (.p (.str x.1)) st := rfl
@[simp] theorem oIx_step1 {st : Sto} (x : Step) : oIx (.p (eStep x)) (.p (.int 1)) st = .ok (.p (.str x.2.1)) st := rfl
@[simp] theorem oIx_step2 {st : Sto} (x : Step) : oIx (.p (eStep x)) (.p (.int 2)) st = .ok (.p (.str x.2.2)) st := rfl
@[simp] theorem oIx_deed0 {st : Sto} (x : Deed) : oIx (.p (eDeed x)) (.p (.int 0)) st = .ok (.p (.int x.1)) st := rfl
@[simp] theorem oIx_deed1 {st : Sto} (x : Deed) : oIx (.p (eDeed x)) (.p (.int 1)) st = .ok (.p (eScr x.2)) st := rfl
@[simp] theorem oIx_serv0 {st : Sto} (x : Serv) : oIx (.p (eServ x)) (.p (.int 0)) st = .ok (.p (eI x.1)) st := rfl
@[simp] theorem oIx_serv1 {st : Sto} (x : Serv) : oIx (.p (eServ x)) (.p (.int 1)) st = .ok (.p (eScr x.2.1)) st := rfl
@[simp] theorem oIx_serv2 {st : Sto} (x : Serv) : oIx (.p (eServ x)) (.p (.int 2)) st = .ok (.p (eTab x.2.2)) st := rfl
@[simp] theorem oIx_call0 {st : Sto} (x : Call) : oIx (.p (eC x)) (.p (.int 0)) st = .ok (.p (.str x.1)) st := rfl
@[simp] theorem oIx_call1 {st : Sto} (x : Call) : oIx (.p (eC x)) (.p (.int 1)) st = .ok (.p (eO x.2)) st := rfl
@[simp] theorem isD_step (x : Step) : isD "tuple" (eStep x) = true := rfl
@[simp] theorem isD_scr (x : Scr) : isD "tuple" (eScr x) = true := rfl
@[simp] theorem isD_deed (x : Deed) : isD "tuple" (eDeed x) = true := rfl
@[simp] theorem isD_serv (x : Serv) : isD "tuple" (eServ x) = true := rfl
@[simp] theorem isD_tab (x : Tab) : isD "dict" (eTab x) = true := rfl
@[simp] theorem isD_home (x : Home) : isD "dict" (eHome x) = true := rfl
@[simp] theorem cLen_step {st : Sto} (x : Step) : cLen [.p (eStep x)] st = .ok (.p (.int 3)) st := rfl
@[simp] theorem cLen_deed {st : Sto} (x : Deed) : cLen [.p (eDeed x)] st = .ok (.p (.int 2)) st := rfl
@[simp] theorem cLen_serv {st : Sto} (x : Serv) : cLen [.p (eServ x)] st = .ok (.p (.int 3)) st := rfl
@[simp] theorem cLen_scr {st : Sto} (x : Scr) : cLen [.p (eScr x)] st = .ok (.p (.int x.length)) st := by
  show retI ((x.map eStep).length) st = _
  rw [List.length_map]; rfl
@[simp] theorem cLen_eD {α : Type} {st : Sto} (f : α → PyData) (l : List (Str × α)) : cLen [.p (.dict (eD f l))] st = .ok (.p (.int l.length)) st := by simp [cLen]
@[simp] theorem cLen_tab {st : Sto} (x : Tab) : cLen [.p (eTab x)] st = .ok (.p (.int x.length)) st := cLen_eD ..
@[simp] theorem cLen_home {st : Sto} (x : Home) : cLen [.p (eHome x)] st = .ok (.p (.int x.length)) st := cLen_eD ..
@[simp] theorem cLen_list {st : Sto} (ds : List PyData) : cLen [.p (.list ds)] st = .ok (.p (.int ds.length)) st := rfl
@[simp] theorem cLen_tuple {st : Sto} (ds : List PyData) : cLen [.p (.tuple ds)] st = .ok (.p (.int ds.length)) st := rfl
@[simp] theorem itemsOf_step {st : Sto} (x : Step) : itemsOf (.p (eStep x)) st = .ok [.str x.1, .str x.2.1, .str x.2.2] st := rfl
@[simp] theorem itemsOf_scr' {st : Sto} (x : Scr) : itemsOf (.p (eScr x)) st = .ok (x.map eStep) st := rfl
@[simp] theorem gTup_step {st : Sto} {en : En} {r : SemGs} (x : Step) : gTupS 3 r (.p (eStep x)) en st = r [.str x.1, .str x.2.1, .str x.2.2] en st := rfl
@[simp] theorem gTup_call {st : Sto} {en : En} {r : SemGs} (x : Call) : gTupS 2 r (.p (eC x)) en st = r [.str x.1, eO x.2] en st := rfl
@[simp] theorem gTup_serv {st : Sto} {en : En} {r : SemGs} (x : Serv) : gTupS 3 r (.p (eServ x)) en st = r [eI x.1, eScr x.2.1, eTab x.2.2] en st := rfl
@[simp] theorem cListB_tab {mk : Mk1} {st : Sto} (x : Tab) : cListB mk [.p (eTab x)] st = mk ((x.map (·.1)).map .str) st := cListB_eD ..
@[simp] theorem cListB_home {mk : Mk1} {st : Sto} (x : Home) : cListB mk [.p (eHome x)] st = mk ((x.map (·.1)).map .str) st := cListB_eD ..
theorem oIx_tab {st : Sto} {x : Tab} {k : Str} {a : Deed} (h : look x k = some a) : oIx (.p (eTab x)) (.p (.str k)) st = .ok (.p (eDeed a)) st := oIx_eD eDeed h
theorem oIx_home {st : Sto} {x : Home} {k : Str} {a : Serv} (h : look x k = some a) : oIx (.p (eHome x)) (.p (.str k)) st = .ok (.p (eServ a)) st := oIx_eD eServ h
theorem oIn_eD {α : Type} {st : Sto} {neg : Bool} (f : α → PyData) (l : List (Str × α)) (k : Str) : oIn neg (.p (.str k)) (.p (.dict (eD f l))) st = .ok (.p (.bool (if neg then !decide (k ∈ l.map (·.1)) else decide (k ∈ l.map (·.1))))) st := by
  simp only [oIn, val_str, val_eD, keyOf, dLook_eD, Option.isSome_map, look_isSome, retB_eq]
theorem oIn_dic {α : Type} {st : Sto} {n : Nat} {neg : Bool} (f : α → PyData) {l : List (Str × α)} (k : Str) (h : st[n]? = some (.dic (eD f l))) : oIn neg (.p (.str k)) (.o n) st = .ok (.p (.bool (if neg then !decide (k ∈ l.map (·.1)) else decide (k ∈ l.map (·.1))))) st := by
  simp only [oIn, val_str, val_dic h, keyOf, dLook_eD, Option.isSome_map, look_isSome, retB_eq]
theorem oIn_tab {st : Sto} {neg : Bool} (x : Tab) (k : Str) : oIn neg (.p (.str k)) (.p (eTab x)) st = .ok (.p (.bool (if neg then !decide (k ∈ x.map (·.1)) else decide (k ∈ x.map (·.1))))) st := oIn_eD ..
theorem oIn_home {st : Sto} {neg : Bool} (x : Home) (k : Str) : oIn neg (.p (.str k)) (.p (eHome x)) st = .ok (.p (.bool (if neg then !decide (k ∈ x.map (·.1)) else decide (k ∈ x.map (·.1))))) st := oIn_eD ..
theorem mkL_small {st : Sto} {ds : List PyData} (h : ds.length ≤ 1000000) : mkL ds st = .ok (.p (.list ds)) st := if_pos (sizeLine_big h)
theorem mkT_small {st : Sto} {ds : List PyData} (h : ds.length ≤ 1000000) : mkT ds st = .ok (.p (.tuple ds)) st := if_pos (sizeLine_big h)
theorem mkO_small {st : Sto} {ds : List PyData} (h : ds.length ≤ 1000000) : mkO ds st = .ok (.o st.length) (st ++ [.lst ds]) := if_pos (sizeLine_big h)
@[simp] theorem eC_val {st : Sto} (x : Call) : val st (.p (eC x)) = some (eC x) := rfl
end Pd
end

section
set_option Elab.async false
set_option linter.all false
set_option autoImplicit false
set_option maxRecDepth 100000
/-! Mx4: cells; lists of calls. -/
namespace Pd
open PySem L2 PySem.W
section
variable {st : Sto} {n m : Nat} {c d : Cell}
theorem get_set (h : st[n]? = some d) : (st.set n c)[n]? = some c := by
  have := (List.getElem?_eq_some_iff.mp h).1
  simp [this]
theorem get_set_ne (h : m ≠ n) (e : st[n]? = some d) : (st.set m c)[n]? = some d := by rw [List.getElem?_set_ne h]; exact e
theorem get_app (l : Sto) (e : st[n]? = some d) : (st ++ l)[n]? = some d := by
  rw [List.getElem?_append_left (List.getElem?_eq_some_iff.mp e).1]; exact e
theorem get_lt (e : st[n]? = some d) : n < st.length := (List.getElem?_eq_some_iff.mp e).1
theorem get_ne (e : st[n]? = some d) : n ≠ st.length := Nat.ne_of_lt (get_lt e)
end
theorem nodup_len {α : Type} (xs ys : List α) (nd : xs.Nodup) (h : ∀ x ∈ xs, x ∈ ys) : xs.length ≤ ys.length := nd.length_le_of_subset h
/-! ### open lists of calls -/
theorem okD_calls (l : List Call) : okD (.list (l.map eC)) = true := by
  unfold okD
  have h1 : (PyData.list (l.map eC)).plain = true := Datum.plain l
  have h2 : (PyData.list (l.map eC)).depth ≤ 2 := Datum.depth_le (α := List Call) l
  rw [h1]; simp; omega
theorem eqv_calls (l m : List Call) : PyData.eqv (.list (l.map eC)) (.list (m.map eC)) = decide (l = m) := Datum.eqv l m
theorem okD_strs (l : List Str) : okD (.list (l.map .str)) = true := by
  unfold okD
  have h1 : (PyData.list (l.map PyData.str)).plain = true := Datum.plain l
  have h2 : (PyData.list (l.map PyData.str)).depth ≤ 1 := Datum.depth_le (α := List Str) l
  rw [h1]; simp; omega
theorem eqv_strs (l m : List Str) : PyData.eqv (.list (l.map .str)) (.list (m.map .str)) = decide (l = m) := Datum.eqv l m
theorem oNe_calls {st : Sto} {n : Nat} {l : List Call} (h : st[n]? = some (.lst (l.map eC))) : oNe (.o n) (.p (.list [])) st = .ok (.p (.bool (!decide (l = [])))) st := by
  have := eqv_calls l []
  rw [List.map_nil] at this
  simp only [oNe, val_lst h, val_list, okD_calls, okD_nilL, Bool.and_self, if_true, this, retB_eq]
theorem oNe_strs {st : Sto} {n : Nat} {l : List Str} (h : st[n]? = some (.lst (l.map .str))) : oNe (.o n) (.p (.list [])) st = .ok (.p (.bool (!decide (l = [])))) st := by
  have := eqv_strs l []
  rw [List.map_nil] at this
  simp only [oNe, val_lst h, val_list, okD_strs, okD_nilL, Bool.and_self, if_true, this, retB_eq]
theorem isLst_o {st : Sto} {n : Nat} {ds : List PyData} (h : st[n]? = some (.lst ds)) : isLst st (.o n) = true := by simp only [isLst, val_lst h]
theorem mPop_map {α : Type} {st : Sto} {n : Nat} {e : α → PyData} {l : List α} {x : α} (h : st[n]? = some (.lst ((l ++ [x]).map e))) : mPop (.o n) [] st = .ok (.p (e x)) (st.set n (.lst (l.map e))) := by
  simp [mPop, h]
theorem mAppend_map {α : Type} {st : Sto} {n : Nat} {e : α → PyData} {l : List α} {x : α} (h : st[n]? = some (.lst (l.map e))) (hl : l.length < sizeLine) : mAppend (.o n) [.p (e x)] st = .ok (.p .none) (st.set n (.lst ((l ++ [x]).map e))) := by
  simp [mAppend, h, hl]
theorem mAppend_lst {st : Sto} {n : Nat} {ds : List PyData} {d : PyData} (h : st[n]? = some (.lst ds)) (hl : ds.length < sizeLine) : mAppend (.o n) [.p d] st = .ok (.p .none) (st.set n (.lst (ds ++ [d]))) := by
  simp [mAppend, h, hl]
theorem snoc_of_ne {α : Type} {l : List α} (h : l ≠ []) : ∃ i x, l = i ++ [x] := ⟨l.dropLast, l.getLast h, (List.dropLast_concat_getLast h).symm⟩
/-- the set of calls as a dict -/
def eSet (l : List Call) : KVs := eT (fun _ : Unit => .bool true) (l.map fun c => (c, ()))
theorem eSet_keys (l : List Call) : (l.map fun c => (c, ())).map (·.1) = l := by simp [Function.comp_def]
theorem oInT_set {st : Sto} {n : Nat} {neg : Bool} {l : List Call} {k : Call} (hs : st[n]? = some (.dit (eSet l))) : oInT neg (.p (eC k)) (.o n) st = .ok (.p (.bool (if neg then !decide (k ∈ l) else decide (k ∈ l)))) st := by
  rw [oInT_dit _ hs, eSet_keys]
theorem oPutT_set {st : Sto} {n : Nat} {l : List Call} {k : Call} (hs : st[n]? = some (.dit (eSet l))) (hz : l.length < sizeLine) (h : k ∉ l) : oPutT (.o n) (.p (eC k)) (.p (.bool true)) st = some (st.set n (.dit (eSet (l ++ [k])))) := by
  have := oPutT_dit (fun _ : Unit => .bool true) (a := ()) hs (by rw [List.length_map]; exact hz) (by rw [eSet_keys]; exact h)
  rw [this]
  unfold eSet
  rw [List.map_append]; rfl
theorem cListB_set {mk : Mk1} {st : Sto} {n : Nat} {l : List Call} (h : st[n]? = some (.dit (eSet l))) : cListB mk [.o n] st = mk (l.map eC) st := by
  rw [cListB_dit _ h, eSet_keys]
/-! ### sorted calls with methods -/
theorem srt_calls {l : List Call} (h : ∀ c ∈ l, ∃ m, c.2 = some m) (hl : l.length ≤ 100000) : srtOk (l.map eC) = true := by
  have hc : ∀ d ∈ l.map eC, ∃ a b, d = .tuple [.str a, .str b] := by
    intro d hd
    obtain ⟨c, hc, rfl⟩ := List.mem_map.mp hd
    obtain ⟨m, hm⟩ := h c hc
    exact ⟨c.1, m, by simp [eC, hm, eO]⟩
  unfold srtOk
  simp only [Bool.and_eq_true, Bool.or_eq_true, decide_eq_true_eq, List.all_eq_true]
  refine ⟨⟨⟨fun d hd d' hd' => ?_, .inl fun d hd => ?_⟩, fun d hd => ?_⟩, ?_⟩
  · obtain ⟨a, b, rfl⟩ := hc d hd
    obtain ⟨a', b', rfl⟩ := hc d' hd'
    simp [alike, alikeAll]
  · obtain ⟨a, b, rfl⟩ := hc d hd; rfl
  · obtain ⟨c, _, rfl⟩ := List.mem_map.mp hd; exact eC_okD c
  · rw [List.length_map]; exact sizeLine_big (by omega)
theorem srt_map {l : List Call} : ∃ m : List Call, srt (l.map eC) = m.map eC ∧ m.Perm l := by
  have p : (srt (l.map eC)).Perm (l.map eC) := List.mergeSort_perm _ _
  have : ∀ (ds : List PyData) (l : List Call), ds.Perm (l.map eC) → ∃ m : List Call, ds = m.map eC ∧ m.Perm l := by
    intro ds l p
    have hd : ∃ m : List Call, ds = m.map eC := by
      have hm : ∀ d ∈ ds, ∃ c, d = eC c := fun d hd => by
        obtain ⟨c, _, rfl⟩ := List.mem_map.mp (p.mem_iff.mp hd)
        exact ⟨c, rfl⟩
      clear p
      induction ds with
      | nil => exact ⟨[], rfl⟩
      | cons d ds ih =>
        obtain ⟨c, rfl⟩ := hm d List.mem_cons_self
        obtain ⟨m, rfl⟩ := ih fun d hd => hm d (List.mem_cons_of_mem _ hd)
        exact ⟨c :: m, rfl⟩
    obtain ⟨m, rfl⟩ := hd
    refine ⟨m, rfl, ?_⟩
    have inj : ∀ c d : Call, eC c = eC d → c = d := fun c d e => by
      have h1 := tkOf_eC c
      rw [e, tkOf_eC] at h1
      exact (lfC_inj (Option.some.inj h1)).symm
    rw [List.perm_iff_count]
    intro c
    have := (List.perm_iff_count (α := Call) (l₁ := m) (l₂ := l)).mpr
    have key : ∀ l : List Call, l.countP (fun x => x == c) = (l.map eC).countP (fun d => decide (tkOf d = some (lfC c))) := by
      intro l
      rw [List.countP_map]
      refine List.countP_congr fun x _ => ?_
      simp only [beq_iff_eq, Function.comp_apply, tkOf_eC, decide_eq_true_eq, Option.some.injEq]
      exact ⟨fun e => by rw [e], fun e => lfC_inj e⟩
    show m.countP (fun x => x == c) = l.countP (fun x => x == c)
    rw [key m, key l]
    exact p.countP_eq _
  exact this _ _ p
theorem sort_calls {st : Sto} {l : List Call} (h : ∀ c ∈ l, ∃ m, c.2 = some m) (hl : l.length ≤ 100000) : ∃ m : List Call, m.Perm l ∧ cSortedA mkL [.p (.list (l.map eC))] st = .ok (.p (.list (m.map eC))) st := by
  obtain ⟨m, e, p⟩ := srt_map (l := l)
  refine ⟨m, p, ?_⟩
  show (if srtOk (l.map eC) = true then mkL (srt (l.map eC)) st else .bad) = _
  rw [if_pos (srt_calls h hl), e]
  exact mkL_small (by rw [List.length_map, p.length_eq]; omega)
/-- all calls of a house -/
def allCalls (h : Home) : List Call := h.flatMap fun p => (p.1, none) :: p.2.2.2.map fun q => (p.1, some q.1)
theorem mem_allCalls {h : Home} {c : Call} {x : Scr} (e : scrOf h c = some x) : c ∈ allCalls h := by
  obtain ⟨a, b⟩ := c
  unfold scrOf at e
  split at e
  · cases e
  · rename_i sv hs
    refine List.mem_flatMap.mpr ⟨_, look_mem hs, ?_⟩
    cases b with
    | none => exact List.mem_cons_self
    | some m =>
      simp only at e
      obtain ⟨d, hd, _⟩ := Option.map_eq_some_iff.mp e
      exact List.mem_cons_of_mem _ (List.mem_map.mpr ⟨_, look_mem hd, rfl⟩)
theorem allCalls_len {h : Home} (g : HomeOk h) : (allCalls h).length ≤ 30 := by
  have key : ∀ l : Home, (∀ p ∈ l, p.2.2.2.length ≤ 4) → (allCalls l).length ≤ 5 * l.length := by
    intro l
    induction l with
    | nil => intro _; simp [allCalls]
    | cons p l ih =>
      intro hh
      have h1 := ih fun q hq => hh q (List.mem_cons_of_mem _ hq)
      have h2 := hh p List.mem_cons_self
      unfold allCalls at h1 ⊢
      rw [List.flatMap_cons, List.length_append, List.length_cons, List.length_map, List.length_cons]
      omega
  have h1 := key h fun p hp => by have := (g.sv p hp).ns.le; simpa using this
  have h2 := g.ns.le
  rw [List.length_map] at h2
  omega
end Pd
end

section
set_option Elab.async false
set_option linter.all false
set_option autoImplicit false
set_option maxRecDepth 100000
/-! Mx5: sorted dicts, the house object. -/
namespace Pd
open PySem L2 PySem.W
def eCs (l : List Call) : PyData := .list (l.map eC)
def eStrs (l : List Str) : PyData := .list (l.map .str)
section
variable {α : Type}
/-- ascending -/
def sortA (l : List (Str × α)) : List (Str × α) := (srtS (l.map fun p => p.1)).filterMap fun k => (look l k).map fun a => (k, a)
theorem filterMap_keys {l : List (Str × α)} : ∀ ks : List Str, (∀ k ∈ ks, k ∈ l.map fun p => p.1) → (ks.filterMap fun k => (look l k).map fun a => (k, a)).map (fun p => p.1) = ks
  | [], _ => rfl
  | k :: ks, h => by
    obtain ⟨a, e⟩ := look_some (h k List.mem_cons_self)
    rw [List.filterMap_cons, e]
    simp only [Option.map_some, List.map_cons]
    rw [filterMap_keys ks fun k' hk => h k' (List.mem_cons_of_mem _ hk)]
theorem sortA_keys (l : List (Str × α)) : (sortA l).map (fun p => p.1) = srtS (l.map fun p => p.1) := filterMap_keys _ fun _ hk => mem_srtS.mp hk
theorem sortA_nodup {l : List (Str × α)} (nd : (l.map fun p => p.1).Nodup) : ((sortA l).map fun p => p.1).Nodup := by rw [sortA_keys]; exact srtS_nodup nd
theorem mem_sortA {l : List (Str × α)} (nd : (l.map fun p => p.1).Nodup) {p : Str × α} : p ∈ sortA l ↔ p ∈ l := by
  obtain ⟨k, a⟩ := p
  unfold sortA
  rw [List.mem_filterMap]
  constructor
  · rintro ⟨k', hk, e⟩
    obtain ⟨b, hb, e2⟩ := Option.map_eq_some_iff.mp e
    cases e2
    exact look_mem hb
  · intro h
    exact ⟨k, mem_srtS.mpr (List.mem_map.mpr ⟨_, h, rfl⟩), by rw [look_of_mem nd h]; rfl⟩
theorem look_sortA {l : List (Str × α)} (nd : (l.map fun p => p.1).Nodup) (k : Str) : look (sortA l) k = look l k := by
  cases e : look l k with
  | some a => exact look_of_mem (sortA_nodup nd) ((mem_sortA nd).mpr (look_mem e))
  | none =>
    refine look_none fun h => ?_
    rw [sortA_keys, mem_srtS] at h
    obtain ⟨a, ha⟩ := look_some h
    rw [e] at ha; cases ha
theorem sortA_len (l : List (Str × α)) : (sortA l).length = l.length := by
  have := congrArg List.length (sortA_keys l)
  rw [List.length_map, srtS_len, List.length_map] at this
  exact this
end
/-- a service with its table ascending -/
def normS (s : Serv) : Serv := (s.1, s.2.1, sortA s.2.2)
def norm (h : Home) : Home := sortA (h.map fun p => (p.1, normS p.2))
theorem norm_pre (h : Home) : (h.map fun p => (p.1, normS p.2)).map (fun p => p.1) = h.map fun p => p.1 := by simp
theorem norm_keys (h : Home) : (norm h).map (fun p => p.1) = srtS (h.map fun p => p.1) := by unfold norm; rw [sortA_keys, norm_pre]
theorem look_map {α β : Type} (f : α → β) (l : List (Str × α)) (k : Str) : look (l.map fun p => (p.1, f p.2)) k = (look l k).map f := by
  induction l with
  | nil => rfl
  | cons p l ih =>
    obtain ⟨x, a⟩ := p
    rw [List.map_cons]
    unfold look
    split
    · rfl
    · exact ih
theorem look_norm {h : Home} (nd : (h.map fun p => p.1).Nodup) (k : Str) : look (norm h) k = (look h k).map normS := by
  unfold norm
  rw [look_sortA (by rw [norm_pre]; exact nd), look_map]
theorem scr_norm {h : Home} (g : HomeOk h) (c : Call) : scrOf (norm h) c = scrOf h c := by
  unfold scrOf
  rw [look_norm g.ns.nd]
  cases e : look h c.1 with
  | none => rfl
  | some sv =>
    cases c.2 with
    | none => rfl
    | some m => simp only [Option.map_some, normS, look_sortA (g.sv _ (look_mem e)).ns.nd]
theorem stepOk_norm {h : Home} (g : HomeOk h) {s : Step} (k : StepOk h s) : StepOk (norm h) s := by
  obtain ⟨h1, sv, m, h2, h3⟩ := k
  exact ⟨h1, normS sv, m, by rw [look_norm g.ns.nd, h2]; rfl, by simp only [normS]; rw [look_sortA (g.sv _ (look_mem h2)).ns.nd, h3]⟩
theorem scrOk_norm {h : Home} (g : HomeOk h) {s : Scr} (k : ScrOk h s) : ScrOk (norm h) s := ⟨k.1, fun x hx => stepOk_norm g (k.2 x hx)⟩
theorem namesOk_srt {xs : List Str} {n : Nat} (k : NamesOk xs n) : NamesOk (srtS xs) n := ⟨srtS_nodup k.nd, by rw [srtS_len]; exact k.pos, by rw [srtS_len]; exact k.le, fun x hx => k.ok x (mem_srtS.mp hx)⟩
theorem homeOk_norm {h : Home} (g : HomeOk h) : HomeOk (norm h) := by
  refine ⟨by rw [norm_keys]; exact namesOk_srt g.ns, fun p hp => ?_⟩
  unfold norm at hp
  rw [mem_sortA (by rw [norm_pre]; exact g.ns.nd)] at hp
  obtain ⟨q, hq, rfl⟩ := List.mem_map.mp hp
  have gq := g.sv q hq
  refine ⟨gq.w, scrOk_norm g gq.st, ?_, fun r hr => ?_⟩
  · show NamesOk ((sortA q.2.2.2).map fun p => p.1) 4
    rw [sortA_keys]; exact namesOk_srt gq.ns
  · have := gq.ds r ((mem_sortA gq.ns.nd).mp hr)
    exact ⟨this.1, this.2.1, scrOk_norm g this.2.2⟩
theorem sized_norm {h : Home} (g : HomeOk h) {sz : Call → Nat} (z : Sized h sz) : Sized (norm h) sz := ⟨fun c x e => z.eq c x (by rw [← scr_norm g]; exact e), fun c x e => z.le c x (by rw [← scr_norm g]; exact e)⟩
theorem rch_norm {h : Home} (g : HomeOk h) {c d : Call} : Rch (norm h) c d ↔ Rch h c d := by
  constructor
  · intro r
    induction r with
    | base e hd => exact .base (by rw [← scr_norm g]; exact e) hd
    | step _ e hd ih => exact .step ih (by rw [← scr_norm g]; exact e) hd
  · intro r
    induction r with
    | base e hd => exact .base (by rw [scr_norm g]; exact e) hd
    | step _ e hd ih => exact .step ih (by rw [scr_norm g]; exact e) hd
/-! ### dicts that are built -/
theorem fold_dputK {α : Type} (f : α → PyData) (v : Str → α) (vf : Str → PyData) : ∀ (xs : List Str) (acc : List (Str × α)), (∀ x ∈ xs, vf x = f (v x)) → xs.Nodup → (∀ x ∈ xs, x ∉ acc.map fun p => p.1) → acc.length + xs.length ≤ 1000 →
    xs.foldl (fun (a : Option KVs) x => a.bind fun a => dputK a (.str x) (vf x)) (some (eD f acc)) = some (eD f (acc ++ xs.map fun x => (x, v x)))
  | [], acc, _, _, _, _ => by simp
  | x :: xs, acc, he, nd, hn, hl => by
    rw [List.nodup_cons] at nd
    rw [List.length_cons] at hl
    have e1 : dputK (eD f acc) (.str x) (vf x) = some (eD f (acc ++ [(x, v x)])) := by
      have := sizeLine_big (n := 1001) (by omega)
      simp only [dputK, keyOf, eD_len, show acc.length < sizeLine by omega, if_true, he x List.mem_cons_self, dPut_new f (hn x List.mem_cons_self)]
    rw [List.foldl_cons, Option.bind_some, e1, fold_dputK f v vf xs (acc ++ [(x, v x)]) (fun y hy => he y (List.mem_cons_of_mem _ hy)) nd.2 (fun y hy => ?_) (by simp; omega)]
    · simp
    · rw [List.map_append]
      intro q
      rcases List.mem_append.mp q with q | q
      · exact hn y (List.mem_cons_of_mem _ hy) q
      · simp at q; exact nd.1 (q ▸ hy)
theorem fold_dputT {α : Type} (f : α → PyData) (v : Call → α) (vf : Call → PyData) : ∀ (xs : List Call) (acc : List (Call × α)), (∀ x ∈ xs, vf x = f (v x)) → xs.Nodup → (∀ x ∈ xs, x ∉ acc.map fun p => p.1) → acc.length + xs.length ≤ 1000 →
    xs.foldl (fun (a : Option KVs) x => a.bind fun a => dputT a (eC x) (vf x)) (some (eT f acc)) = some (eT f (acc ++ xs.map fun x => (x, v x)))
  | [], acc, _, _, _, _ => by simp
  | x :: xs, acc, he, nd, hn, hl => by
    rw [List.nodup_cons] at nd
    rw [List.length_cons] at hl
    have e1 : dputT (eT f acc) (eC x) (vf x) = some (eT f (acc ++ [(x, v x)])) := by
      have := sizeLine_big (n := 1001) (by omega)
      simp only [dputT, tkOf_eC, eT_len, show acc.length < sizeLine by omega, if_true, he x List.mem_cons_self, tPut_new f (hn x List.mem_cons_self)]
    rw [List.foldl_cons, Option.bind_some, e1, fold_dputT f v vf xs (acc ++ [(x, v x)]) (fun y hy => he y (List.mem_cons_of_mem _ hy)) nd.2 (fun y hy => ?_) (by simp; omega)]
    · simp
    · rw [List.map_append]
      intro q
      rcases List.mem_append.mp q with q | q
      · exact hn y (List.mem_cons_of_mem _ hy) q
      · simp at q; exact nd.1 (q ▸ hy)
theorem oPut_dic {α : Type} {st : Sto} {n : Nat} (f : α → PyData) {l : List (Str × α)} {k : Str} {a : α} (hs : st[n]? = some (.dic (eD f l))) (hz : l.length ≤ 1000) (h : k ∉ l.map (·.1)) : oPut (.o n) (.p (.str k)) (.p (f a)) st = some (st.set n (.dic (eD f (l ++ [(k, a)])))) := by
  have := sizeLine_big (n := 1001) (by omega)
  simp only [oPut, hs, val_str, keyOf, eD_len, show l.length < sizeLine by omega, if_true, dPut_new f h]
/-- a dict of calls whose values are known by a law -/
theorem dcT_rel {β : Type} {tg : SemG} {c : SemT} {ek ev : SemE} {en : En} (J : Sto → Prop) (f : β → PyData) (R : Call → β → Prop) : ∀ (xs : List Call) (acc : List (Call × β)) (st : Sto),
    (∀ x ∈ xs, ∀ st, J st → Ok (tg (.p (eC x)) en st) fun en1 st1 => Ok (c en1 st1) fun k st2 => k = true ∧ Ok (ek en1 st2) fun w st3 => w = .p (eC x) ∧ Ok (ev en1 st3) fun v st4 => ∃ b, v = .p (f b) ∧ R x b ∧ J st4) → J st →
    xs.Nodup → (∀ x ∈ xs, x ∉ acc.map fun p => p.1) → acc.length + xs.length ≤ 1000 →
    Ok (dcL dputT tg c ek ev en (xs.map eC) (eT f acc) st) fun kvs st' => ∃ W : List (Call × β), kvs = eT f (acc ++ W) ∧ W.map (fun p => p.1) = xs ∧ (∀ p ∈ W, R p.1 p.2) ∧ J st'
  | [], acc, st, _, hj, _, _, _ => ⟨[], by simp, rfl, by simp, hj⟩
  | x :: xs, acc, st, h, hj, nd, hn, hl => by
    rw [List.nodup_cons] at nd
    rw [List.length_cons] at hl
    rw [List.map_cons, dcL, ok_bind, ok_noX]
    refine (h x List.mem_cons_self st hj).mono fun en1 st1 h1 => ?_
    rw [ok_bind, ok_noX]
    refine h1.mono fun k st2 ⟨hk, h2⟩ => ?_
    subst hk
    simp only [if_true]
    rw [ok_bind, ok_noX]
    refine h2.mono fun w st3 ⟨hw, h3⟩ => ?_
    subst hw
    rw [ok_bind, ok_noX]
    refine h3.mono fun v st4 ⟨b, hv, hr, hj4⟩ => ?_
    subst hv
    have e1 : dputT (eT f acc) (eC x) (f b) = some (eT f (acc ++ [(x, b)])) := by
      have := sizeLine_big (n := 1001) (by omega)
      simp only [dputT, tkOf_eC, eT_len, show acc.length < sizeLine by omega, if_true, tPut_new f (hn x List.mem_cons_self)]
    simp only [e1]
    refine (dcT_rel J f R xs (acc ++ [(x, b)]) st4 (fun y hy => h y (List.mem_cons_of_mem _ hy)) hj4 nd.2 (fun y hy => ?_) (by simp; omega)).mono fun kvs st' ⟨W, q1, q2, q3, q4⟩ => ⟨(x, b) :: W, by rw [q1]; simp, by rw [List.map_cons, q2], fun p hp => ?_, q4⟩
    · rw [List.map_append]
      intro q
      rcases List.mem_append.mp q with q | q
      · exact hn y (List.mem_cons_of_mem _ hy) q
      · simp at q; exact nd.1 (q ▸ hy)
    · rcases List.mem_cons.mp hp with rfl | hp
      · exact hr
      · exact q3 p hp
theorem intsOf_map {α : Type} (f : α → Int) : ∀ xs : List α, intsOf (xs.map fun x => PyData.int (f x)) = some (xs.map f)
  | [] => rfl
  | x :: xs => by rw [List.map_cons, intsOf, intsOf_map f xs]; rfl
theorem maxI_le {xs : List Int} {m : Int} (h0 : xs ≠ []) (h : ∀ x ∈ xs, x ≤ m) : maxI xs ≤ m := by
  cases xs with
  | nil => exact absurd rfl h0
  | cons x xs =>
    have key : ∀ (l : List Int) (a : Int), a ≤ m → (∀ y ∈ l, y ≤ m) → l.foldl (fun a b => if b > a then b else a) a ≤ m := by
      intro l
      induction l with
      | nil => intro a ha _; exact ha
      | cons y l ih =>
        intro a ha hl
        rw [List.foldl_cons]
        refine ih _ ?_ fun z hz => hl z (List.mem_cons_of_mem _ hz)
        split
        · exact hl y List.mem_cons_self
        · exact ha
    exact key xs x (h x List.mem_cons_self) fun y hy => h y (List.mem_cons_of_mem _ hy)
theorem paired_map {α β : Type} {f : α → β} : ∀ {xs : List α} {l : List β}, Paired (fun x d => d = f x) xs l → l = xs.map f
  | _, _, .nil => rfl
  | _, _, .cons h t => by rw [List.map_cons, h, paired_map t]
/-- the normalized house, name by name -/
def vS (h : Home) (x : Str) : Serv := normS ((look h x).getD (none, [], []))
theorem norm_map (h : Home) : (srtS (h.map fun p => p.1)).map (fun x => (x, vS h x)) = norm h := by
  unfold norm sortA
  rw [norm_pre]
  have : ∀ l : List Str, (∀ x ∈ l, x ∈ h.map fun p => p.1) → l.map (fun x => (x, vS h x)) = l.filterMap fun k => (look (h.map fun p => (p.1, normS p.2)) k).map fun a => (k, a) := by
    intro l
    induction l with
    | nil => intro _; rfl
    | cons x l ih =>
      intro hh
      obtain ⟨a, ha⟩ := look_some (hh x List.mem_cons_self)
      rw [List.map_cons, ih fun y hy => hh y (List.mem_cons_of_mem _ hy), List.filterMap_cons, look_map normS h x, ha]
      simp [vS, ha]
  exact this _ fun x hx => mem_srtS.mp hx
/-! ### the object -/
def houseFs (ns : List Str) (a b c : Nat) : List (Str × W) := [("names", .p (.list (ns.map .str))), ("parts", .o a), ("waited", .o b), ("wanted", .o c)]
@[simp] theorem put_names (w : W) : putW "names" w [] = [(("names" : Str), w)] := rfl
@[simp] theorem put_parts (v w : W) : putW "parts" w [(("names" : Str), v)] = [(("names" : Str), v), (("parts" : Str), w)] := by rfl
@[simp] theorem put_waited (u v w : W) : putW "waited" w [(("names" : Str), u), (("parts" : Str), v)] = [(("names" : Str), u), (("parts" : Str), v), (("waited" : Str), w)] := by rfl
@[simp] theorem put_wanted (u v w x : W) : putW "wanted" x [(("names" : Str), u), (("parts" : Str), v), (("waited" : Str), w)] = [(("names" : Str), u), (("parts" : Str), v), (("waited" : Str), w), (("wanted" : Str), x)] := by rfl
theorem lk_names (r : List (Str × W)) (w : W) : List.lookup ("names" : Str) ((("names" : Str), w) :: r) = some w := by rfl
theorem lk_parts (r : List (Str × W)) (v w : W) : List.lookup ("parts" : Str) ((("names" : Str), v) :: (("parts" : Str), w) :: r) = some w := by rfl
theorem lk_waited (r : List (Str × W)) (u v w : W) : List.lookup ("waited" : Str) ((("names" : Str), u) :: (("parts" : Str), v) :: (("waited" : Str), w) :: r) = some w := by rfl
theorem lk_wanted (r : List (Str × W)) (u v w x : W) : List.lookup ("wanted" : Str) ((("names" : Str), u) :: (("parts" : Str), v) :: (("waited" : Str), w) :: (("wanted" : Str), x) :: r) = some x := by rfl
theorem lk_m1 (u v w x : W) : List.lookup ("need_service" : Str) [(("names" : Str), u), (("parts" : Str), v), (("waited" : Str), w), (("wanted" : Str), x)] = none := by rfl
theorem lk_m2 (u v w x : W) : List.lookup ("need_method" : Str) [(("names" : Str), u), (("parts" : Str), v), (("waited" : Str), w), (("wanted" : Str), x)] = none := by rfl
theorem lk_m3 (u v w x : W) : List.lookup ("need_script" : Str) [(("names" : Str), u), (("parts" : Str), v), (("waited" : Str), w), (("wanted" : Str), x)] = none := by rfl
theorem insOf_o {st : Sto} {n : Nat} {C : Str} {fs : List (Str × W)} (h : st[n]? = some (.ins C fs)) : insOf st (.o n) = some (C, fs) := by simp only [insOf, h]
/-- the services that a service needs, in the order in which they are met -/
def needsL (h : Home) (W : List (Call × List Call)) (n : Str) : List Str := ((lookC W (n, none)).getD []).map (fun c => c.1) ++ match look h n with
  | some (some _, _, t) => t.flatMap fun q => ((lookC W (n, some q.1)).getD []).map fun c => c.1
  | _ => []
structure HallAt (st : Sto) (n a b c : Nat) (h : Home) (W : List (Call × List Call)) : Prop where
  obj : st[n]? = some (.ins "House" (houseFs (h.map fun p => p.1) a b c))
  parts : st[a]? = some (.dic (eD eServ h))
  waited : st[b]? = some (.dit (eT eCs W))
  wanted : st[c]? = some (.dic (eD eStrs (h.map fun p => (p.1, setOf (needsL h W p.1)))))
/-- what all scripts wait for -/
structure WaitOk (h : Home) (W : List (Call × List Call)) : Prop where
  nd : (W.map fun p => p.1).Nodup
  ks : ∀ c, c ∈ W.map (fun p => p.1) ↔ ∃ x, scrOf h c = some x
  ok : ∀ p ∈ W, p.2.Nodup ∧ p.2.length ≤ 30 ∧ ∀ d, d ∈ p.2 ↔ Rch h p.1 d
theorem WaitOk.get {h : Home} {W : List (Call × List Call)} (k : WaitOk h W) {c : Call} {x : Scr} (e : scrOf h c = some x) : ∃ l, lookC W c = some l ∧ l.Nodup ∧ l.length ≤ 30 ∧ ∀ d, d ∈ l ↔ Rch h c d := by
  obtain ⟨l, hl⟩ := lookC_some ((k.ks c).mpr ⟨x, e⟩)
  exact ⟨l, hl, k.ok _ (lookC_mem hl)⟩
theorem HallAt.kept {st st' : Sto} {n a b c : Nat} {h : Home} {W : List (Call × List Call)} {D : Nat → Prop} (H : HallAt st n a b c h W) (k : Kept D st st') (d : ∀ i, D i → i ≠ n ∧ i ≠ a ∧ i ≠ b ∧ i ≠ c) : HallAt st' n a b c h W :=
  ⟨k.2 _ _ (fun q => (d _ q).1 rfl) H.obj, k.2 _ _ (fun q => (d _ q).2.1 rfl) H.parts, k.2 _ _ (fun q => (d _ q).2.2.1 rfl) H.waited, k.2 _ _ (fun q => (d _ q).2.2.2 rfl) H.wanted⟩
theorem HallAt.ext {st st' : Sto} {n a b c : Nat} {h : Home} {W : List (Call × List Call)} (H : HallAt st n a b c h W) (k : Ext st st') : HallAt st' n a b c h W := H.kept k fun _ q => q.elim
@[simp] theorem eCs_items {st : Sto} (l : List Call) : itemsOf (.p (eCs l)) st = .ok (l.map eC) st := rfl
@[simp] theorem cListB_eCs {mk : Mk1} {st : Sto} (l : List Call) : cListB mk [.p (eCs l)] st = mk (l.map eC) st := rfl
theorem oIn_calls {st : Sto} {neg : Bool} (c : Call) (l : List Call) : oIn neg (.p (eC c)) (.p (.list (l.map eC))) st = .ok (.p (.bool (if neg then !decide (c ∈ l) else decide (c ∈ l)))) st := by
  show (if (okD (eC c) && PyData.plainAll (l.map eC)) = true then retB _ st else .bad) = _
  rw [eC_okD, eC_plainAll, eC_any]; rfl
theorem oIn_callsO {st : Sto} {n : Nat} {neg : Bool} (c : Call) {l : List Call} (h : st[n]? = some (.lst (l.map eC))) : oIn neg (.p (eC c)) (.o n) st = .ok (.p (.bool (if neg then !decide (c ∈ l) else decide (c ∈ l)))) st := by
  simp only [oIn, eC_val, val_lst h]
  rw [eC_okD, eC_plainAll, eC_any]; rfl
theorem oIn_strs {st : Sto} {neg : Bool} (c : Str) (l : List Str) : oIn neg (.p (.str c)) (.p (.list (l.map .str))) st = .ok (.p (.bool (if neg then !decide (c ∈ l) else decide (c ∈ l)))) st := by
  show (if (okD (.str c) && PyData.plainAll (l.map PyData.str)) = true then retB _ st else .bad) = _
  rw [okD_str, plainAll_str, any_str]; rfl
theorem oIn_strsT {st : Sto} {neg : Bool} (c : Str) (l : List Str) : oIn neg (.p (.str c)) (.p (.tuple (l.map .str))) st = .ok (.p (.bool (if neg then !decide (c ∈ l) else decide (c ∈ l)))) st := by
  show (if (okD (.str c) && PyData.plainAll (l.map PyData.str)) = true then retB _ st else .bad) = _
  rw [okD_str, plainAll_str, any_str]; rfl
theorem oIn_strsO {st : Sto} {n : Nat} {neg : Bool} (c : Str) {l : List Str} (h : st[n]? = some (.lst (l.map .str))) : oIn neg (.p (.str c)) (.o n) st = .ok (.p (.bool (if neg then !decide (c ∈ l) else decide (c ∈ l)))) st := by
  simp only [oIn, val_str, val_lst h]
  rw [okD_str, plainAll_str, any_str]; rfl
@[simp] theorem eStrs_items {st : Sto} (l : List Str) : itemsOf (.p (eStrs l)) st = .ok (l.map .str) st := rfl
@[simp] theorem cListB_eStrs {mk : Mk1} {st : Sto} (l : List Str) : cListB mk [.p (eStrs l)] st = mk (l.map .str) st := rfl
theorem call_firsts {st : Sto} {tg : SemG} {en : En} : True := trivial
theorem sort_set {st : Sto} {xs : List Str} (h : xs.length < 4000) : sortSetOf mkL (.p (.list (xs.map .str))) st = .ok (.p (eStrs (setOf xs))) st := by
  unfold sortSetOf
  rw [uniq_list h]
  show mkL ((srtS (dedup xs)).map .str) st = _
  have := setOf_len xs
  exact mkL_small (by rw [List.length_map]; unfold setOf at this; omega)
theorem sorted_strs {st : Sto} {n : Nat} {xs : List Str} (h : xs.length < 64) : cSortedA mkL [.p (.list (xs.map .str))] st = .ok (.p (.list ((srtS xs).map .str))) st := by
  have so : srtOk (xs.map PyData.str) = true := by
    unfold srtOk
    simp only [Bool.and_eq_true, Bool.or_eq_true, decide_eq_true_eq, List.all_eq_true]
    refine ⟨⟨⟨fun d hd d' hd' => ?_, .inr fun d hd => ?_⟩, fun d hd => ?_⟩, ?_⟩
    · obtain ⟨a, _, rfl⟩ := List.mem_map.mp hd
      obtain ⟨a', _, rfl⟩ := List.mem_map.mp hd'
      simp [alike]
    · obtain ⟨a, _, rfl⟩ := List.mem_map.mp hd; rfl
    · obtain ⟨a, _, rfl⟩ := List.mem_map.mp hd; rfl
    · rw [List.length_map]; exact sizeLine_big (by omega)
  have e : srt (xs.map PyData.str) = (srtS xs).map PyData.str := by
    unfold srt srtS
    rw [List.map_mergeSort (r := dataLe false PyData.str) (s := dataLe false id)]
    intro a _ b _
    rfl
  show (if srtOk (xs.map PyData.str) = true then mkL (srt (xs.map PyData.str)) st else .bad) = _
  rw [if_pos so, e]
  exact mkL_small (by rw [List.length_map, srtS_len]; omega)
theorem sorted_keys {st : Sto} {α : Type} (f : α → PyData) {l : List (Str × α)} (h : l.length < 64) : cSortedA mkL [.p (.dict (eD f l))] st = .ok (.p (.list ((srtS (l.map fun p => p.1)).map .str))) st := by
  show (match val st (.p (.dict (eD f l))) with | some (.dict kvs) => _ | _ => _) = _
  rw [val_eD]
  show (match keyStrs (eD f l) with | some ks => if ks.length < 64 then mkL ((srtS ks).map .str) st else .bad | none => .bad) = _
  have e : keyStrs (eD f l) = some (l.map fun p => p.1) := by
    unfold keyStrs
    rw [eD_keys, strsOf_map]
  rw [e]
  show (if (l.map fun p => p.1).length < 64 then _ else _) = _
  rw [if_pos (by rw [List.length_map]; exact h)]
  exact mkL_small (by rw [List.length_map, srtS_len, List.length_map]; omega)
end Pd
end

section
set_option Elab.async false
set_option linter.all false
set_option autoImplicit false
set_option maxRecDepth 100000
/-! Mx6: slices, indices, quiet orders. -/
namespace Pd
open PySem L2 PySem.W
theorem cutD_take (ds : List PyData) (i : Nat) : cutD ds none (some (i : Int)) = ds.take i := by
  unfold cutD
  rw [HT.sIx_none, HT.sIx_nat, List.drop_zero, Nat.sub_zero]
  exact List.take_eq_take_iff.mpr (by omega)
theorem cutD_drop (ds : List PyData) (i : Nat) : cutD ds (some (i : Int)) none = ds.drop i := by
  unfold cutD
  rw [HT.sIx_none, HT.sIx_nat]
  rw [List.take_of_length_le (by rw [List.length_drop]; omega)]
  by_cases h : i ≤ ds.length
  · rw [Nat.min_eq_left h]
  · rw [Nat.min_eq_right (by omega), List.drop_length, List.drop_eq_nil_of_le (by omega)]
theorem atIN {α : Type} (xs : List α) (i : Nat) : atI xs (i : Int) = xs[i]? := by
  unfold atI ixN
  rw [if_pos (by omega)]
  by_cases h : (i : Int) < xs.length
  · rw [if_pos h]; simp
  · rw [if_neg h, List.getElem?_eq_none (by omega)]; rfl
theorem atI_last {α : Type} {xs : List α} {x : α} : atI (xs ++ [x]) (-1) = some x := by
  unfold atI ixN
  have e : (-1 + ((xs ++ [x]).length : Int)).toNat = xs.length := by simp; omega
  rw [if_neg (by omega), if_pos (by simp; omega), Option.bind_some, e]
  simp
theorem oSl_list {st : Sto} {ds : List PyData} {lo hi : Option Int} : oSl (.p (.list ds)) lo hi st = .ok (.p (.list (cutD ds lo hi))) st := rfl
theorem oSl_tuple {st : Sto} {ds : List PyData} {lo hi : Option Int} : oSl (.p (.tuple ds)) lo hi st = .ok (.p (.tuple (cutD ds lo hi))) st := rfl
/-- the items of a list or tuple -/
def seqOf : PyData → Option (List PyData)
  | .list ds => some ds
  | .tuple ds => some ds
  | _ => none
/-- each stands behind what it reaches, none twice -/
def quietL (L : Str → Option (List Str)) : List Str → List Str → Bool
  | _, [] => true
  | pre, x :: r => (match L x with
    | none => false
    | some os => !decide (x ∈ pre) && os.all fun o => decide (o ∈ pre)) && quietL L (pre ++ [x]) r
def quietB (n : Nat) (L : Str → Option (List Str)) (d : PyData) : Bool := match seqOf d with
  | none => false
  | some ds => match strsOf ds with
    | none => false
    | some xs => decide (xs.length = n) && quietL L [] xs
theorem strsOf_some : ∀ {ds : List PyData} {xs : List Str}, strsOf ds = some xs → ds = xs.map .str
  | [], xs, h => by cases h; rfl
  | d :: ds, xs, h => by
    cases d with
    | str s =>
      rw [strsOf] at h
      obtain ⟨ys, h1, rfl⟩ := Option.map_eq_some_iff.mp h
      rw [strsOf_some h1]; rfl
    | _ => cases h
theorem strsOf_bad {ds : List PyData} {i : Nat} {d : PyData} (h : ds[i]? = some d) (hd : ∀ x, d ≠ .str x) : strsOf ds = none := by
  cases e : strsOf ds with
  | none => rfl
  | some xs =>
    rw [strsOf_some e, List.getElem?_map] at h
    obtain ⟨x, _, rfl⟩ := Option.map_eq_some_iff.mp h
    exact absurd rfl (hd x)
theorem quietL_iff {L : Str → Option (List Str)} : ∀ (r pre : List Str), quietL L pre r = true ↔ (∀ x ∈ r, (L x).isSome) ∧ r.Nodup ∧ (∀ x ∈ r, x ∉ pre) ∧ ∀ a x b os, r = a ++ x :: b → L x = some os → ∀ o ∈ os, o ∈ pre ∨ o ∈ a
  | [], pre => by simp [quietL]
  | x :: r, pre => by
    rw [quietL, Bool.and_eq_true, quietL_iff r (pre ++ [x])]
    constructor
    · rintro ⟨h1, h2, h3, h4, h5⟩
      cases hl : L x with
      | none => rw [hl] at h1; cases h1
      | some os =>
        rw [hl] at h1
        simp only [Bool.and_eq_true, Bool.not_eq_true', decide_eq_false_iff_not, List.all_eq_true, decide_eq_true_eq] at h1
        refine ⟨fun y hy => ?_, List.nodup_cons.mpr ⟨fun hx => h4 x hx (by simp), h3⟩, fun y hy => ?_, fun a y b os' e hl' o ho => ?_⟩
        · rcases List.mem_cons.mp hy with rfl | hy
          · rw [hl]; rfl
          · exact h2 y hy
        · rcases List.mem_cons.mp hy with rfl | hy
          · exact h1.1
          · exact fun q => h4 y hy (List.mem_append_left _ q)
        · cases a with
          | nil =>
            cases e
            rw [hl] at hl'; cases hl'
            exact .inl (h1.2 o ho)
          | cons z a =>
            rw [List.cons_append] at e
            cases e
            rcases h5 a y b os' rfl hl' o ho with q | q
            · rcases List.mem_append.mp q with q | q
              · exact .inl q
              · rw [List.mem_singleton.mp q]; exact .inr List.mem_cons_self
            · exact .inr (List.mem_cons_of_mem _ q)
    · rintro ⟨h1, h2, h3, h4⟩
      rw [List.nodup_cons] at h2
      obtain ⟨os, hl⟩ := Option.isSome_iff_exists.mp (h1 x List.mem_cons_self)
      refine ⟨?_, fun y hy => h1 y (List.mem_cons_of_mem _ hy), h2.2, fun y hy q => ?_, fun a y b os' e hl' o ho => ?_⟩
      · rw [hl]
        simp only [Bool.and_eq_true, Bool.not_eq_true', decide_eq_false_iff_not, List.all_eq_true, decide_eq_true_eq]
        refine ⟨h3 x List.mem_cons_self, fun o ho => ?_⟩
        rcases h4 [] x r os rfl hl o ho with q | q
        · exact q
        · cases q
      · rcases List.mem_append.mp q with q | q
        · exact h3 y (List.mem_cons_of_mem _ hy) q
        · rw [List.mem_singleton.mp q] at hy; exact h2.1 hy
      · subst e
        rcases h4 (x :: a) y b os' rfl hl' o ho with q | q
        · exact .inl (List.mem_append_left _ q)
        · rcases List.mem_cons.mp q with rfl | q
          · exact .inl (by simp)
          · exact .inr q
/-- data whose dicts may be read -/
def fine (d : PyData) : Prop := dOk d = true ∧ ∀ ds, seqOf d = some ds → ∀ e ∈ ds, dOk e = true
theorem val_ok {st : Sto} {d : PyData} (h : dOk d = true) : val st (.p d) = some d := if_pos h
theorem isD_seq (d : PyData) : (isD "list" d || isD "tuple" d) = (seqOf d).isSome := by
  cases d <;> rfl
theorem cLen_seq {st : Sto} {d : PyData} {ds : List PyData} (h : seqOf d = some ds) : cLen [.p d] st = .ok (.p (.int ds.length)) st := by
  cases d <;> cases h <;> rfl
theorem enumOf_seq {st : Sto} {d : PyData} {ds : List PyData} (h : seqOf d = some ds) : enumOf (.p d) st = .ok (enums ds) st := by
  cases d <;> cases h <;> rfl
theorem itemsOf_seq {st : Sto} {d : PyData} {ds : List PyData} (h : seqOf d = some ds) : itemsOf (.p d) st = .ok ds st := by
  cases d <;> cases h <;> rfl
theorem oIn_seqTake {st : Sto} {d : PyData} {ds : List PyData} {x : Str} {i : Nat} {ys : List Str} {neg : Bool} (h : seqOf d = some ds) (hy : ds.take i = ys.map .str) :
    (oSl (.p d) none (some (i : Int)) st).bind (fun w st => oIn neg (.p (.str x)) w st) = .ok (.p (.bool (if neg then !decide (x ∈ ys) else decide (x ∈ ys)))) st := by
  cases d <;> cases h
  · rw [oSl_list, cutD_take, hy, bind_ok, oIn_strs]
  · rw [oSl_tuple, cutD_take, hy, bind_ok, oIn_strsT]
theorem lenSet_seq {st : Sto} {d : PyData} {xs : List Str} (h : seqOf d = some (xs.map .str)) (hl : xs.length < 4000) : lenSetOf (.p d) st = .ok (.p (.int (dedup xs).length)) st := by
  unfold lenSetOf
  cases d <;> cases h
  · rw [uniq_list hl]; rfl
  · rw [uniq_tuple hl]; rfl
theorem oNe_strsP {st : Sto} (l : List Str) : oNe (.p (.list (l.map .str))) (.p (.list [])) st = .ok (.p (.bool (!decide (l = [])))) st := by
  have := eqv_strs l []
  rw [List.map_nil] at this
  simp only [oNe, val_list, okD_strs, okD_nilL, Bool.and_self, if_true, this, retB_eq]
theorem oEq_strsP {st : Sto} (l : List Str) : oEq (.p (.list (l.map .str))) (.p (.list [])) st = .ok (.p (.bool (decide (l = [])))) st := by
  have := eqv_strs l []
  rw [List.map_nil] at this
  simp only [oEq, val_list, okD_strs, okD_nilL, Bool.and_self, if_true, this, retB_eq]
theorem oNe_callsP {st : Sto} (l : List Call) : oNe (.p (.list (l.map eC))) (.p (.list [])) st = .ok (.p (.bool (!decide (l = [])))) st := by
  have := eqv_calls l []
  rw [List.map_nil] at this
  simp only [oNe, val_list, okD_calls, okD_nilL, Bool.and_self, if_true, this, retB_eq]
/-- is a text among these -/
def servB (ks : List Str) (e : PyData) : Bool := match e with
  | .str x => decide (x ∈ ks)
  | _ => false
def areB (ks : List Str) (d : PyData) : Bool := match seqOf d with
  | none => false
  | some ds => match strsOf ds with
    | none => false
    | some xs => xs.all (fun x => decide (x ∈ ks)) && decide xs.Nodup
theorem all_map_id {α : Type} (f : α → Bool) (l : List α) : (l.map f).all id = l.all f := by
  rw [List.all_map]; rfl
theorem cAll_all {α : Type} {st : Sto} (f : α → Bool) (xs : List α) : cAll (fun bs => bs.all id) [.p (.list (xs.map fun x => PyData.bool (f x)))] st = .ok (.p (.bool (xs.all f))) st := by
  rw [cAll_map]; simp only [all_map_id]
theorem lcL_mapD {tg : SemG} {c : SemT} {el : SemE} {en : En} {st : Sto} (p : PyData → Bool) (f : PyData → PyData) (xs : List PyData) (acc : List PyData)
    (h : ∀ x ∈ xs, ∃ en1, tg (.p x) en st = .ok en1 st ∧ c en1 st = .ok (p x) st ∧ (p x = true → el en1 st = .ok (.p (f x)) st)) : lcL tg c el en xs acc st = .ok (acc ++ (xs.filter p).map f) st := by
  have := lcL_map (tg := tg) (c := c) (el := el) (en := en) (st := st) id p f xs acc h
  rw [List.map_id] at this
  exact this
theorem areB_true {ks : List Str} {d : PyData} (h : areB ks d = true) : ∃ xs : List Str, seqOf d = some (xs.map .str) ∧ (∀ x ∈ xs, x ∈ ks) ∧ xs.Nodup := by
  unfold areB at h
  split at h
  · cases h
  · rename_i ds hs
    split at h
    · cases h
    · rename_i xs hx
      rw [Bool.and_eq_true, List.all_eq_true, decide_eq_true_eq] at h
      exact ⟨xs, by rw [hs, strsOf_some hx], fun x hxx => by simpa using h.1 x hxx, h.2⟩
theorem quietB_are {ks : List Str} {L : Str → Option (List Str)} {n : Nat} {d : PyData} (hk : ∀ x, (L x).isSome → x ∈ ks) (h : areB ks d = false) : quietB n L d = false := by
  cases e : quietB n L d with
  | false => rfl
  | true =>
    exfalso
    unfold quietB at e
    unfold areB at h
    split at e
    · cases e
    · rename_i ds hs
      rw [hs] at h
      split at e
      · cases e
      · rename_i xs hx
        simp only [hx] at h
        rw [Bool.and_eq_true, quietL_iff] at e
        have h1 : xs.all (fun x => decide (x ∈ ks)) = true := by
          rw [List.all_eq_true]
          intro x hxx
          exact decide_eq_true (hk x (e.2.1 x hxx))
        rw [h1, Bool.true_and, decide_eq_false_iff_not] at h
        exact h e.2.2.1
theorem quietB_seq {L : Str → Option (List Str)} {n : Nat} {d : PyData} {xs : List Str} (h : seqOf d = some (xs.map .str)) : quietB n L d = (decide (xs.length = n) && quietL L [] xs) := by
  unfold quietB
  simp only [h, strsOf_map]
theorem take_snoc {α : Type} {l : List α} {i : Nat} {x : α} (h : l[i]? = some x) : l.take (i + 1) = l.take i ++ [x] := by
  rw [List.take_add_one, h]; rfl
end Pd
end

section
set_option Elab.async false
set_option linter.all false
set_option autoImplicit false
set_option maxRecDepth 100000
/-! Mx7: the state of the draws. -/
namespace Pd
open PySem L2 PySem.W
def drawR (g : Nat) (cs : List Int) (r t : Int) : List (Str × W) := [(("great" : Str), .o g), (("cells" : Str), .p (.list (cs.map .int))), (("rest" : Str), .p (.int r)), (("turn" : Str), .p (.int t))]
theorem draw_great (g : Nat) (cs : List Int) (r t : Int) : (drawR g cs r t).lookup ("great" : Str) = some (.o g) := by rfl
theorem draw_cells (g : Nat) (cs : List Int) (r t : Int) : (drawR g cs r t).lookup ("cells" : Str) = some (.p (.list (cs.map .int))) := by rfl
theorem draw_rest (g : Nat) (cs : List Int) (r t : Int) : (drawR g cs r t).lookup ("rest" : Str) = some (.p (.int r)) := by rfl
theorem draw_turn (g : Nat) (cs : List Int) (r t : Int) : (drawR g cs r t).lookup ("turn" : Str) = some (.p (.int t)) := by rfl
theorem draw_put_rest (g : Nat) (cs : List Int) (r t v : Int) : putR (drawR g cs r t) ("rest" : Str) (.p (.int v)) = drawR g cs v t := by rfl
theorem draw_put_turn (g : Nat) (cs : List Int) (r t v : Int) : putR (drawR g cs r t) ("turn" : Str) (.p (.int v)) = drawR g cs r v := by rfl
theorem draw_new (g : Nat) (cs : List Int) (r t : Int) : rcdOf ["great", "cells", "rest", "turn"] [.o g, .p (.list (cs.map .int)), .p (.int r), .p (.int t)] [] = some (drawR g cs r t) := by rfl
/-- the draws: at most T numbers were mixed -/
structure DrawAt (n g : Nat) (T : Nat) (st : Sto) (cs gs : List Int) (r t : Int) : Prop where
  at' : st[n]? = some (.rcd (drawR g cs r t))
  gr : st[g]? = some (.lst (gs.map .int))
  t0 : 0 ≤ t
  tT : t ≤ T
  cl : cs.length ≤ 63
  gl : gs.length ≤ 63
  ne : n ≠ g
def Draw (n g : Nat) (T : Nat) (st : Sto) : Prop := ∃ cs gs r t, DrawAt n g T st cs gs r t
abbrev Dn (n g : Nat) : Nat → Prop := fun i => i = n ∨ i = g
theorem Draw.ext {n g T : Nat} {st st' : Sto} (D : Draw n g T st) (x : Ext st st') : Draw n g T st' :=
  let ⟨cs, gs, r, t, d⟩ := D
  ⟨cs, gs, r, t, x.get d.at', x.get d.gr, d.t0, d.tT, d.cl, d.gl, d.ne⟩
theorem Draw.mono {n g T T' : Nat} {st : Sto} (D : Draw n g T st) (h : T ≤ T') : Draw n g T' st :=
  let ⟨cs, gs, r, t, d⟩ := D
  ⟨cs, gs, r, t, d.at', d.gr, d.t0, by have := d.tT; omega, d.cl, d.gl, d.ne⟩
theorem Draw.kept {n g T : Nat} {st st' : Sto} {D' : Nat → Prop} (D : Draw n g T st) (k : Kept D' st st') (h1 : ¬ D' n) (h2 : ¬ D' g) : Draw n g T st' :=
  let ⟨cs, gs, r, t, d⟩ := D
  ⟨cs, gs, r, t, k.2 _ _ h1 d.at', k.2 _ _ h2 d.gr, d.t0, d.tT, d.cl, d.gl, d.ne⟩
theorem Draw.lt {n g T : Nat} {st : Sto} (D : Draw n g T st) : n < st.length ∧ g < st.length :=
  let ⟨cs, gs, r, t, d⟩ := D
  ⟨get_lt d.at', get_lt d.gr⟩
theorem oPut_rcd {st : Sto} {n : Nat} {kvs : List (Str × W)} {k : Str} {v : W} (h : st[n]? = some (.rcd kvs)) (hl : kvs.length < sizeLine) : oPut (.o n) (.p (.str k)) v st = some (st.set n (.rcd (putR kvs k v))) := by
  simp only [oPut, h, val_str, hl, if_true]
theorem draw_small (g : Nat) (cs : List Int) (r t : Int) : (drawR g cs r t).length < sizeLine := by show 4 < sizeLine; decide
theorem okD_ints (l : List Int) : okD (.list (l.map .int)) = true := by
  unfold okD
  have h1 : (PyData.list (l.map PyData.int)).plain = true := Datum.plain l
  have h2 : (PyData.list (l.map PyData.int)).depth ≤ 1 := Datum.depth_le (α := List Int) l
  rw [h1]; simp; omega
theorem eqv_ints (l m : List Int) : PyData.eqv (.list (l.map .int)) (.list (m.map .int)) = decide (l = m) := Datum.eqv l m
theorem oNe_ints {st : Sto} {n : Nat} {l : List Int} (h : st[n]? = some (.lst (l.map .int))) : oNe (.o n) (.p (.list [])) st = .ok (.p (.bool (!decide (l = [])))) st := by
  have := eqv_ints l []
  rw [List.map_nil] at this
  simp only [oNe, val_lst h, val_list, okD_ints, okD_nilL, Bool.and_self, if_true, this, retB_eq]
@[simp] theorem oAdd_int {st : Sto} (i j : Int) : oAdd (.p (.int i)) (.p (.int j)) st = .ok (.p (.int (i + j))) st := rfl
@[simp] theorem oSub_int {st : Sto} (i j : Int) : oSub (.p (.int i)) (.p (.int j)) st = .ok (.p (.int (i - j))) st := rfl
theorem smallI_ok {i : Int} (h1 : -(2 ^ 64) < i) (h2 : i < 2 ^ 64) : smallI i = true := by
  unfold smallI; simp only [Bool.and_eq_true, decide_eq_true_eq]; exact ⟨h1, h2⟩
theorem oMul_l {st : Sto} {i j : Int} (h : smallI i = true) : oMul (.p (.int i)) (.p (.int j)) st = .ok (.p (.int (i * j))) st := by
  simp only [oMul, val_int, h, Bool.true_or, if_true, retI_eq]
theorem oMul_r {st : Sto} {i j : Int} (h : smallI j = true) : oMul (.p (.int i)) (.p (.int j)) st = .ok (.p (.int (i * j))) st := by
  simp only [oMul, val_int, h, Bool.or_true, if_true, retI_eq]
theorem oDiv_int {st : Sto} {i j : Int} (h1 : 0 < j) (h2 : j < 1073741824) : oDiv (.p (.int i)) (.p (.int j)) st = .ok (.p (.int (i / j))) st := by
  simp only [oDiv, val_int, h1, h2, decide_true, Bool.and_self, if_true, retI_eq]
theorem oMod_int {st : Sto} {i j : Int} (h1 : 0 < j) : oMod (.p (.int i)) (.p (.int j)) st = .ok (.p (.int (i % j))) st := by
  simp only [oMod, val_int, h1, decide_true, if_true, retI_eq]
theorem oPow_int {st : Sto} {i j : Int} (h1 : 0 ≤ j) (h2 : j ≤ 1000000) (h3 : i.natAbs < 2 ^ 64) : oPow (.p (.int i)) (.p (.int j)) st = .ok (.p (.int (i ^ j.toNat))) st := by
  simp only [oPow, val_int, h1, h2, h3, decide_true, Bool.and_self, if_true, retI_eq]
@[simp] theorem oEq_int {st : Sto} (i j : Int) : oEq (.p (.int i)) (.p (.int j)) st = .ok (.p (.bool (decide (i = j)))) st := by
  simp only [oEq, val_int, okD_int, Bool.and_self, if_true, eqv_int, retB_eq]
@[simp] theorem oNe_int {st : Sto} (i j : Int) : oNe (.p (.int i)) (.p (.int j)) st = .ok (.p (.bool (!decide (i = j)))) st := by
  simp only [oNe, val_int, okD_int, Bool.and_self, if_true, eqv_int, retB_eq]
@[simp] theorem oEq_str {st : Sto} (i j : Str) : oEq (.p (.str i)) (.p (.str j)) st = .ok (.p (.bool (decide (i = j)))) st := by
  simp only [oEq, val_str, okD_str, Bool.and_self, if_true, eqv_str, retB_eq]
@[simp] theorem cInt_int {st : Sto} (i : Int) : cInt [.p (.int i)] st = .ok (.p (.int i)) st := rfl
@[simp] theorem cLen_str {st : Sto} {x : Str} (h : x.length ≤ sizeLine) : cLen [.p (.str x)] st = .ok (.p (.int x.length)) st := by
  simp only [cLen, val_str, h, if_true, retI_eq]
theorem cLen_lst {st : Sto} {n : Nat} {ds : List PyData} (h : st[n]? = some (.lst ds)) : cLen [.o n] st = .ok (.p (.int ds.length)) st := by
  simp only [cLen, val_lst h, retI_eq]
theorem seqIndex_nat {v n : Nat} (h : v < n) : seqIndex? (v : Int) n = some v := by
  unfold seqIndex?
  first
    | (rw [if_neg (by omega)]; simp [h])
    | (simp; omega)
    | simp [h]
theorem eraseIdx_map' {α β : Type} (e : α → β) : ∀ (l : List α) (v : Nat), (l.map e).eraseIdx v = (l.eraseIdx v).map e
  | [], v => by simp
  | x :: l, 0 => by simp
  | x :: l, v + 1 => by simp [eraseIdx_map' e l v]
theorem mPopAt_map {α : Type} {st : Sto} {n v : Nat} {e : α → PyData} {l : List α} {x : α} (h : st[n]? = some (.lst (l.map e))) (hv : l[v]? = some x) (hl : l.length ≤ 100000) : mPopAt (.o n) [.p (.int v)] st = .ok (.p (e x)) (st.set n (.lst ((l.eraseIdx v).map e))) := by
  have hlt : v < l.length := (List.getElem?_eq_some_iff.mp hv).1
  have h1 : (decide (-(2 ^ 63) ≤ (v : Int)) && decide ((v : Int) < 2 ^ 63)) = true := by
    simp only [Bool.and_eq_true, decide_eq_true_eq]; omega
  simp only [mPopAt, h, h1, if_true, List.length_map, seqIndex_nat hlt, List.getElem?_map, hv, Option.map_some, eraseIdx_map']
/-! ### comprehensions by number -/
theorem lcL_okN {α : Type} {tg : SemG} {c : SemT} {el : SemE} {en : En} (J : Nat → Sto → Prop) (e : α → PyData) (P : PyData → Prop) : ∀ (xs : List α) (i : Nat) (acc : List PyData) (st : Sto),
    (∀ x j st, x ∈ xs → j < i + xs.length → J j st → Ok (tg (.p (e x)) en st) fun en1 st1 => Ok (c en1 st1) fun k st2 => k = true ∧ Ok (el en1 st2) fun w st3 => ∃ d, w = .p d ∧ P d ∧ J (j + 1) st3) → J i st →
    Ok (lcL tg c el en (xs.map e) acc st) fun ds st' => ∃ l : List PyData, ds = acc ++ l ∧ l.length = xs.length ∧ (∀ d ∈ l, P d) ∧ J (i + xs.length) st'
  | [], i, acc, st, _, hj => ⟨[], by simp, rfl, by simp, hj⟩
  | x :: xs, i, acc, st, h, hj => by
    rw [List.map_cons, lcL, ok_bind, ok_noX]
    refine (h x i st List.mem_cons_self (by rw [List.length_cons]; omega) hj).mono fun en1 st1 h1 => ?_
    rw [ok_bind, ok_noX]
    refine h1.mono fun k st2 ⟨hk, h3⟩ => ?_
    subst hk
    simp only [if_true]
    rw [ok_bind, ok_noX]
    refine h3.mono fun w st3 ⟨d, hd, hp, hj3⟩ => ?_
    subst hd
    refine (lcL_okN J e P xs (i + 1) (acc ++ [d]) st3 (fun y j st hy hj => h y j st (List.mem_cons_of_mem _ hy) (by rw [List.length_cons]; omega)) hj3).mono fun ds st' ⟨l, e1, e2, e3, e4⟩ => ⟨d :: l, by rw [e1]; simp, by simp [e2], fun z hz => ?_, ?_⟩
    · rcases List.mem_cons.mp hz with rfl | hz
      · exact hp
      · exact e3 z hz
    · rw [List.length_cons, show i + (xs.length + 1) = i + 1 + xs.length by omega]; exact e4
/-! ### plain items -/
structure PlainE {α : Type} (e : α → PyData) : Prop where
  p : ∀ x, (e x).plain = true
  d : ∀ x, (e x).depth ≤ 10
theorem plainStr : PlainE PyData.str := ⟨fun _ => rfl, fun _ => Nat.zero_le _⟩
theorem plainC : PlainE eC := ⟨fun c => Datum.plain c, fun c => Nat.le_trans (Datum.depth_le (α := Call) c) (by decide)⟩
theorem PlainE.all {α : Type} {e : α → PyData} (h : PlainE e) : ∀ l : List α, PyData.plainAll (l.map e) = true ∧ PyData.depthAll (l.map e) ≤ 10
  | [] => ⟨rfl, Nat.zero_le _⟩
  | x :: l => by
    have ih := PlainE.all h l
    rw [List.map_cons, PyData.plainAll, PyData.depthAll, h.p x, ih.1]
    exact ⟨rfl, Nat.max_le.mpr ⟨h.d x, ih.2⟩⟩
theorem PlainE.okD {α : Type} {e : α → PyData} (h : PlainE e) (l : List α) : okD (.list (l.map e)) = true := by
  have := h.all l
  unfold Pd.okD
  have h1 : (PyData.list (l.map e)).plain = true := by simp only [PyData.plain]; exact this.1
  have h2 : (PyData.list (l.map e)).depth ≤ 11 := by simp only [PyData.depth]; omega
  rw [h1]; simp; omega
theorem eqv_nilL {α : Type} (e : α → PyData) (l : List α) : PyData.eqv (.list (l.map e)) (.list []) = decide (l = []) := by
  cases l with
  | nil => simp [PyData.eqv, PyData.eqvAll]
  | cons x l => simp [PyData.eqv, PyData.eqvAll]
theorem oNe_lst {α : Type} {e : α → PyData} (h : PlainE e) {st : Sto} {n : Nat} {l : List α} (hs : st[n]? = some (.lst (l.map e))) : oNe (.o n) (.p (.list [])) st = .ok (.p (.bool (!decide (l = [])))) st := by
  simp only [oNe, val_lst hs, val_list, h.okD, okD_nilL, Bool.and_self, if_true, eqv_nilL, retB_eq]
theorem oNe_list {α : Type} {e : α → PyData} (h : PlainE e) {st : Sto} (l : List α) : oNe (.p (.list (l.map e))) (.p (.list [])) st = .ok (.p (.bool (!decide (l = [])))) st := by
  simp only [oNe, val_list, h.okD, okD_nilL, Bool.and_self, if_true, eqv_nilL, retB_eq]
theorem oEq_list {α : Type} {e : α → PyData} (h : PlainE e) {st : Sto} (l : List α) : oEq (.p (.list (l.map e))) (.p (.list [])) st = .ok (.p (.bool (decide (l = [])))) st := by
  simp only [oEq, val_list, h.okD, okD_nilL, Bool.and_self, if_true, eqv_nilL, retB_eq]
theorem oIx_lst {st : Sto} {n : Nat} {ds : List PyData} {i : Int} {d : PyData} (h : st[n]? = some (.lst ds)) (hi : atI ds i = some d) : oIx (.o n) (.p (.int i)) st = .ok (.p d) st := by
  simp only [oIx, val_int, val_lst h, hi]
theorem oIx_str {st : Sto} {z : Str} {i : Int} {c : Nat} (hz : z.length ≤ sizeLine) (hi : atI z.cps.toList i = some c) : oIx (.p (.str z)) (.p (.int i)) st = .ok (.p (.str ⟨#[c]⟩)) st := by
  show (if z.length ≤ sizeLine then (match atI z.cps.toList i with | some c => retS ⟨#[c]⟩ st | none => .bad) else .bad) = _
  rw [if_pos hz, hi]; rfl
theorem perm_erase {α : Type} : ∀ {l : List α} {v : Nat} {x : α}, l[v]? = some x → (x :: l.eraseIdx v).Perm l
  | y :: l, 0, x, h => by simp at h; subst h; simp
  | y :: l, v + 1, x, h => by
    rw [List.eraseIdx_cons_succ]
    exact (List.Perm.swap _ _ _).trans (List.Perm.cons y (perm_erase (by simpa using h)))
  | [], v, x, h => by simp at h
/-! ### letters -/
def alpha : Str := "abcdefghijklmnopqrstuvwxyz"
theorem alpha_cps : alpha.cps.toList = List.range' 97 26 := by decide +kernel
theorem alpha_len : alpha.length = 26 := by decide +kernel
def one (c : Nat) : Str := ⟨#[c]⟩
theorem signs_alpha : signs alpha = (List.range' 97 26).map fun c => .str (one c) := by
  unfold signs
  rw [alpha_cps]; rfl
theorem one_inj {a b : Nat} (h : one a = one b) : a = b := by
  have := congrArg (fun s => s.cps) h
  simpa [one] using this
theorem nameOk_one {c : Nat} (h : 97 ≤ c ∧ c ≤ 122) : NameOk (one c) := ⟨by simp [one], by simp [one], fun x hx => by simp [one] at hx; subst hx; exact h⟩
theorem join_empty0 : ∀ l : List Nat, (Str.join ("" : Str) (l.map one)).cps.toList = l
  | [] => by rfl
  | [c] => by rfl
  | c :: d :: l => by
    have ih := join_empty0 (d :: l)
    show (((one c).cps ++ ("" : Str).cps) ++ (Str.join ("" : Str) ((d :: l).map one)).cps).toList = _
    rw [Array.toList_append, ih]
    rfl
theorem join_empty (l : List Nat) : (Txt.join ("" : Str) (l.map one)).cps.toList = l := by
  show (Builtin.Str.glued (PySem.Str.ofString "") (l.map one)).cps.toList = l
  rw [StrLaws.glued_eq_join]
  exact join_empty0 l
theorem sum_ones : ∀ l : List Nat, ((l.map one).map fun x => x.length).sum = l.length
  | [] => rfl
  | c :: l => by
    rw [List.map_cons, List.map_cons, List.sum_cons, sum_ones l, List.length_cons]
    show 1 + l.length = _
    omega
/-- a letter that is not among some -/
theorem free_letter {xs : List Str} (h : xs.length ≤ 25) : (List.range' 97 26).filter (fun c => !decide (one c ∈ xs)) ≠ [] := by
  intro e
  have h1 : ∀ c ∈ List.range' 97 26, one c ∈ xs := by
    intro c hc
    have := List.filter_eq_nil_iff.mp e c hc
    simpa using this
  have h2 := nodup_len ((List.range' 97 26).map one) xs (List.pairwise_map.mpr ((List.nodup_range' (s := 97) (n := 26)).imp fun hne q => hne (one_inj q))) fun x hx => by
    obtain ⟨c, hc, rfl⟩ := List.mem_map.mp hx
    exact h1 c hc
  simp at h2; omega
end Pd
end

section
set_option Elab.async false
set_option linter.all false
set_option autoImplicit false
set_option maxRecDepth 100000
/-! Mx8: random houses, as plain lists. -/
namespace Pd
open PySem L2 PySem.W
theorem sPost_ne : ¬ sPost = sWait := by decide +kernel
theorem waitsOf_wait (x : Scr) (a m : Str) : waitsOf (x ++ [(sWait, a, m)]) = waitsOf x ++ [(a, some m)] := by simp [waitsOf]
theorem waitsOf_post (x : Scr) (a m : Str) : waitsOf (x ++ [(sPost, a, m)]) = waitsOf x := by simp [waitsOf, sPost_ne]
/-- a random script -/
structure Steps (near every : List Call) (sz : Call → Nat) (cap : Nat) (x : Scr) (s : Nat) : Prop where
  ok : ∀ t ∈ x, (t.1 = sWait ∧ (t.2.1, some t.2.2) ∈ near) ∨ (t.1 = sPost ∧ (t.2.1, some t.2.2) ∈ every)
  sz : s = ((waitsOf x).map fun d => 1 + sz d).sum
  le : s ≤ cap
theorem Steps.near {near every : List Call} {sz : Call → Nat} {cap : Nat} {x : Scr} {s : Nat} (k : Steps near every sz cap x s) {d : Call} (hd : d ∈ waitsOf x) : d ∈ near := by
  obtain ⟨t, ht, rfl⟩ := List.mem_map.mp hd
  rw [List.mem_filter] at ht
  have hw : t.1 = sWait := by simpa using ht.2
  rcases k.ok t ht.1 with q | q
  · exact q.2
  · exact absurd (q.1.symm.trans hw) sPost_ne
/-- services and their methods, laid out as calls -/
def flatP (P : List (Str × List Str)) : List Call := P.flatMap fun p => p.2.map fun d => (p.1, some d)
structure PairsOk (P : List (Str × List Str)) (M N : Nat) : Prop where
  ns : NamesOk (P.map fun p => p.1) M
  ds : ∀ p ∈ P, NamesOk p.2 N
theorem mem_flatP {P : List (Str × List Str)} {a m : Str} : (a, some m) ∈ flatP P ↔ ∃ ds, (a, ds) ∈ P ∧ m ∈ ds := by
  unfold flatP
  rw [List.mem_flatMap]
  constructor
  · rintro ⟨p, hp, h⟩
    obtain ⟨d, hd, e⟩ := List.mem_map.mp h
    cases e
    exact ⟨p.2, hp, hd⟩
  · rintro ⟨ds, h, hm⟩
    exact ⟨_, h, List.mem_map.mpr ⟨m, hm, rfl⟩⟩
theorem flatP_some {P : List (Str × List Str)} {c : Call} (h : c ∈ flatP P) : ∃ m, c.2 = some m := by
  obtain ⟨p, _, h⟩ := List.mem_flatMap.mp h
  obtain ⟨d, _, rfl⟩ := List.mem_map.mp h
  exact ⟨d, rfl⟩
theorem flatP_name {P : List (Str × List Str)} {c : Call} (h : c ∈ flatP P) : c.1 ∈ P.map fun p => p.1 := by
  obtain ⟨p, hp, h⟩ := List.mem_flatMap.mp h
  obtain ⟨d, _, rfl⟩ := List.mem_map.mp h
  exact List.mem_map.mpr ⟨p, hp, rfl⟩
theorem flatP_nodup : ∀ {P : List (Str × List Str)}, (P.map fun p => p.1).Nodup → (∀ p ∈ P, p.2.Nodup) → (flatP P).Nodup
  | [], _, _ => List.nodup_nil
  | p :: P, h, hd => by
    rw [List.map_cons, List.nodup_cons] at h
    unfold flatP
    rw [List.flatMap_cons]
    refine List.nodup_append.mpr ⟨List.pairwise_map.mpr ((hd p List.mem_cons_self).imp fun hne q => hne (by simpa using q)), flatP_nodup h.2 fun q hq => hd q (List.mem_cons_of_mem _ hq), ?_⟩
    rintro u hu v hv rfl
    obtain ⟨d, _, rfl⟩ := List.mem_map.mp hu
    exact h.1 (flatP_name hv)
theorem flatP_filter {n : Str} {ds : List Str} : ∀ {P : List (Str × List Str)}, (P.map fun p => p.1).Nodup → (n, ds) ∈ P → (flatP P).filter (fun c => decide (c.1 = n)) = ds.map fun d => (n, some d)
  | [], _, h => by cases h
  | p :: P, nd, h => by
    rw [List.map_cons, List.nodup_cons] at nd
    unfold flatP
    rw [List.flatMap_cons, List.filter_append]
    have none : ∀ {q : List Call}, (∀ c ∈ q, c.1 ≠ n) → q.filter (fun c => decide (c.1 = n)) = [] := fun {q} hq => List.filter_eq_nil_iff.mpr fun c hc => by simpa using hq c hc
    rcases List.mem_cons.mp h with e | h
    · subst e
      rw [List.filter_eq_self.mpr, none, List.append_nil]
      · intro c hc e
        exact nd.1 (e ▸ flatP_name hc)
      · intro c hc
        obtain ⟨d, _, rfl⟩ := List.mem_map.mp hc
        simp
    · rw [none, List.nil_append]
      · exact flatP_filter nd.2 h
      · intro c hc e
        obtain ⟨d, _, rfl⟩ := List.mem_map.mp hc
        exact nd.1 (List.mem_map.mpr ⟨_, h, e.symm⟩)
theorem flatP_len {P : List (Str × List Str)} {M N : Nat} (k : PairsOk P M N) : (flatP P).length ≤ N * M := by
  have h1 : ∀ l : List (Str × List Str), (∀ p ∈ l, p.2.length ≤ N) → (flatP l).length ≤ N * l.length := by
    intro l
    induction l with
    | nil => intro _; simp [flatP]
    | cons p l ih =>
      intro hh
      have h1 := ih fun q hq => hh q (List.mem_cons_of_mem _ hq)
      have h2 := hh p List.mem_cons_self
      unfold flatP at h1 ⊢
      rw [List.flatMap_cons, List.length_append, List.length_cons, List.length_map, Nat.mul_succ]
      omega
  have h2 := h1 P fun p hp => (k.ds p hp).le
  have h3 := k.ns.le
  rw [List.length_map] at h3
  exact Nat.le_trans h2 (Nat.mul_le_mul_left _ h3)
/-- methods with their scripts and sizes, each waiting for earlier ones -/
abbrev Grow := List (Call × Scr × Nat)
def szL (L : Grow) (c : Call) : Nat := match lookC (L.map fun p => (p.1, p.2.2)) c with
  | some s => s
  | none => 0
inductive Grown (every : List Call) (cap : Nat) : Grow → Prop
  | nil : Grown every cap []
  | snoc {L : Grow} {c : Call} {x : Scr} {s : Nat} {near : List Call} : Grown every cap L → x.length ≤ 4 → Steps near every (szL L) cap x s → (∀ d ∈ near, d ∈ L.map fun p => p.1) → c ∉ L.map (fun p => p.1) → Grown every cap (L ++ [(c, x, s)])
theorem lookC_app {α : Type} {l m : List (Call × α)} {c : Call} (h : c ∈ l.map fun p => p.1) : lookC (l ++ m) c = lookC l c := by
  induction l with
  | nil => cases h
  | cons p l ih =>
    obtain ⟨x, a⟩ := p
    rw [List.cons_append]
    unfold lookC
    split
    · rfl
    · rename_i e
      rcases List.mem_cons.mp h with q | q
      · exact absurd q.symm e
      · exact ih q
theorem szL_app {L M : Grow} {c : Call} (h : c ∈ L.map fun p => p.1) : szL (L ++ M) c = szL L c := by
  unfold szL
  rw [List.map_append, lookC_app (by simpa using h)]
theorem sum_congr {l : List Call} {f g : Call → Nat} (h : ∀ d ∈ l, f d = g d) : (l.map fun d => 1 + f d).sum = (l.map fun d => 1 + g d).sum := by
  induction l with
  | nil => rfl
  | cons d l ih =>
    rw [List.map_cons, List.map_cons, List.sum_cons, List.sum_cons, h d List.mem_cons_self, ih fun z hz => h z (List.mem_cons_of_mem _ hz)]
theorem Grown.nd {every : List Call} {cap : Nat} {L : Grow} (k : Grown every cap L) : (L.map fun p => p.1).Nodup := by
  induction k with
  | nil => exact List.nodup_nil
  | snoc _ _ _ _ hc ih =>
    rw [List.map_append]
    exact List.nodup_append.mpr ⟨ih, by simp, fun a ha b hb => by simp at hb; subst hb; exact fun q => hc (q ▸ ha)⟩
theorem Grown.get {every : List Call} {cap : Nat} {L : Grow} (k : Grown every cap L) : ∀ c x s, (c, x, s) ∈ L → x.length ≤ 4 ∧ Steps (L.map fun p => p.1) every (szL L) cap x s ∧ szL L c = s := by
  induction k with
  | nil => intro c x s h; cases h
  | @snoc L c x s near k hl hs hn hc ih =>
    intro c' x' s' h
    rcases List.mem_append.mp h with h | h
    · obtain ⟨h1, h2, h3⟩ := ih c' x' s' h
      have hm : c' ∈ L.map fun p => p.1 := List.mem_map.mpr ⟨_, h, rfl⟩
      refine ⟨h1, ⟨fun t ht => ?_, ?_, h2.le⟩, by rw [szL_app hm, h3]⟩
      · rcases h2.ok t ht with q | q
        · exact .inl ⟨q.1, by rw [List.map_append]; exact List.mem_append_left _ q.2⟩
        · exact .inr q
      · rw [h2.sz]
        exact sum_congr fun d hd => (szL_app (h2.near hd)).symm
    · have e := List.mem_singleton.mp h
      cases e
      refine ⟨hl, ⟨fun t ht => ?_, ?_, hs.le⟩, ?_⟩
      · rcases hs.ok t ht with q | q
        · exact .inl ⟨q.1, by rw [List.map_append]; exact List.mem_append_left _ (hn _ q.2)⟩
        · exact .inr q
      · rw [hs.sz]
        exact sum_congr fun d hd => (szL_app (hn _ (hs.near hd))).symm
      · unfold szL
        have nd := (Grown.snoc k hl hs hn hc).nd
        have : lookC ((L ++ [(c, x, s)]).map fun p => (p.1, p.2.2)) c = some s := lookC_of_mem (by rw [List.map_map]; exact nd) (by simp)
        rw [this]
/-- a service as it is drawn -/
structure ServDrawn (every : List Call) (cap : Nat) (L : Grow) (n : Str) (ds : List Str) (s : Serv) : Prop where
  w : ∀ i, s.1 = some i → 1 ≤ i ∧ i ≤ 4
  len : s.2.1.length ≤ 4
  st : ∃ k, Steps (L.map fun p => p.1) every (szL L) cap s.2.1 k
  ks : s.2.2.map (fun p => p.1) = ds
  ds : ∀ p ∈ s.2.2, 0 ≤ p.2.1 ∧ p.2.1 ≤ 99 ∧ ∃ k, ((n, some p.1), p.2.2, k) ∈ L
/-- what the draws give is a house -/
theorem drawn_ok {P : List (Str × List Str)} {N cap : Nat} (k : PairsOk P 6 N) (hN : N ≤ 4) (hcap : cap ≤ 30) {L : Grow} (gr : Grown (flatP P) cap L) (pm : (L.map fun p => p.1).Perm (flatP P)) {h : Home} (hk : h.map (fun p => p.1) = P.map fun p => p.1)
    (hs : ∀ n s ds, (n, s) ∈ h → (n, ds) ∈ P → ServDrawn (flatP P) cap L n ds s) : HomeOk h ∧ ∃ sz, Sized h sz := by
  have nd : (h.map fun p => p.1).Nodup := by rw [hk]; exact k.ns.nd
  have get : ∀ n s, (n, s) ∈ h → ∃ ds, (n, ds) ∈ P ∧ ServDrawn (flatP P) cap L n ds s := fun n s hm => by
    have : n ∈ P.map fun p => p.1 := by rw [← hk]; exact List.mem_map.mpr ⟨_, hm, rfl⟩
    obtain ⟨p, hp, rfl⟩ := List.mem_map.mp this
    exact ⟨p.2, hp, hs _ s p.2 hm hp⟩
  have call : ∀ {a m : Str}, (a, some m) ∈ flatP P → ∃ sv d, look h a = some sv ∧ look sv.2.2 m = some d := fun {a m} hm => by
    obtain ⟨ds, h1, h2⟩ := mem_flatP.mp hm
    have : a ∈ h.map fun p => p.1 := by rw [hk]; exact List.mem_map.mpr ⟨_, h1, rfl⟩
    obtain ⟨sv, hsv⟩ := look_some this
    have sd := hs a sv ds (look_mem hsv) h1
    obtain ⟨d, hd⟩ := look_some (show m ∈ sv.2.2.map fun p => p.1 by rw [sd.ks]; exact h2)
    exact ⟨sv, d, hsv, hd⟩
  have okx : ∀ {x : Scr} {s : Nat}, Steps (L.map fun p => p.1) (flatP P) (szL L) cap x s → x.length ≤ 4 → ScrOk h x := fun {x s} sx hl => by
    refine ⟨hl, fun t ht => ?_⟩
    have hm : (t.2.1, some t.2.2) ∈ flatP P := by
      rcases sx.ok t ht with q | q
      · exact pm.mem_iff.mp q.2
      · exact q.2
    obtain ⟨sv, d, h1, h2⟩ := call hm
    exact ⟨(sx.ok t ht).elim (fun q => .inl q.1) fun q => .inr q.1, sv, d, h1, h2⟩
  have home : HomeOk h := by
    refine ⟨by rw [hk]; exact k.ns, fun p hp => ?_⟩
    obtain ⟨ds, h1, sd⟩ := get p.1 p.2 hp
    obtain ⟨ks, hks⟩ := sd.st
    refine ⟨sd.w, okx hks sd.len, ?_, fun q hq => ?_⟩
    · rw [sd.ks]
      have := k.ds _ h1
      exact ⟨this.nd, this.pos, Nat.le_trans this.le hN, this.ok⟩
    · obtain ⟨a, b, k', hk'⟩ := sd.ds q hq
      obtain ⟨g1, g2, _⟩ := gr.get _ _ _ hk'
      exact ⟨a, b, okx g2 g1⟩
  refine ⟨home, fun c => match c.2 with
    | some _ => szL L c
    | none => match look h c.1 with
      | some sv => ((waitsOf sv.2.1).map fun d => 1 + szL L d).sum
      | none => 0, ⟨fun c x e => ?_, fun c x e => ?_⟩⟩
  all_goals
    obtain ⟨n, m⟩ := c
    unfold scrOf at e
    split at e
    · cases e
    rename_i sv hsv
    simp only at hsv
    obtain ⟨ds, h1, sd⟩ := get n sv (look_mem hsv)
    cases m with
    | none =>
      cases e
      obtain ⟨ks, hks⟩ := sd.st
      simp only [hsv]
      first
        | exact sum_congr fun d hd => by
            obtain ⟨t, _, rfl⟩ := List.mem_map.mp hd
            rfl
        | (rw [← hks.sz]; exact Nat.le_trans hks.le hcap)
    | some m =>
      simp only at e ⊢
      obtain ⟨d, hd, rfl⟩ := Option.map_eq_some_iff.mp e
      obtain ⟨_, _, k', hk'⟩ := sd.ds _ (look_mem hd)
      obtain ⟨g1, g2, g3⟩ := gr.get _ _ _ hk'
      rw [g3]
      first
        | (rw [g2.sz]
           exact sum_congr fun d hd => by
            obtain ⟨t, _, rfl⟩ := List.mem_map.mp hd
            rfl)
        | exact Nat.le_trans g2.le hcap
theorem isLst_p {st : Sto} {ds : List PyData} : isLst st (.p (.list ds)) = true := rfl
theorem mIndex_strs {st : Sto} {xs : List Str} {y : Str} (h : y ∈ xs) : mIndex (.p (.list (xs.map .str))) [.p (.str y)] st = .ok (.p (.int (xs.idxOf y : Nat))) st := by
  simp only [mIndex, val_list, strsOf_map, h, if_true, retI_eq]
theorem pair_0 {st : Sto} (a b : PyData) : oIx (.p (.tuple [a, b])) (.p (.int 0)) st = .ok (.p a) st := rfl
theorem pair_1 {st : Sto} (a b : PyData) : oIx (.p (.tuple [a, b])) (.p (.int 1)) st = .ok (.p b) st := rfl
theorem two_le : 2 ≤ sizeLine := by decide
theorem four_le : 4 ≤ sizeLine := by decide
end Pd
end

section
set_option Elab.async false
set_option linter.all false
set_option autoImplicit false
set_option maxRecDepth 100000
/-! Mx9: what is shown; dicts of pairs; loops over open lists; calmed houses. -/
namespace Pd
open PySem L2 PySem.W
/-! ### what is shown -/
structure ShOk (d : PyData) (n : Nat) : Prop where
  s : d.showable = true
  l : d.shown.length ≤ n
theorem ShOk.mono {d : PyData} {n m : Nat} (h : ShOk d n) (k : n ≤ m) : ShOk d m := ⟨h.s, Nat.le_trans h.l k⟩
theorem sh_none : ShOk .none 4 := ⟨rfl, by decide +kernel⟩
theorem sh_bool (b : Bool) : ShOk (.bool b) 5 := ⟨rfl, by cases b <;> decide +kernel⟩
theorem sh_five : ShOk (.int 5) 5 := ⟨by decide +kernel, by decide +kernel⟩
theorem sh_str {x : Str} (h : x.cps.size ≤ 8) (hc : ∀ c ∈ x.cps.toList, c ≤ 122) : ShOk (.str x) 82 := ⟨rfl, by
  have := StrLaws.reprText_len x fun c hcc => Nat.lt_of_le_of_lt (hc c hcc) (by decide)
  have e : x.length = x.cps.size := rfl
  show (reprText x).length ≤ 82
  omega⟩
theorem sh_name {x : Str} (h : NameOk x) : ShOk (.str x) 82 := sh_str h.2.1 fun c hc => (h.2.2 c hc).2
theorem textFrom_le (ts : List Str) (acc : Str) : (textFrom 0 acc ts).length ≤ acc.length + piled ts := by
  cases ts with
  | nil => exact Nat.le_add_right _ _
  | cons t r =>
    show (textFrom 1 (acc ++ (if 0 > 0 then ", " else "" : String) ++ t) r).length ≤ _
    rw [textFrom_length_pos r 1 _ (by omega), piled_cons, strLen_append, strLen_append]
    have : (((if 0 > 0 then ", " else "" : String) : Str)).length = 0 := by decide +kernel
    rw [this]; omega
theorem piled_le {n : Nat} : ∀ ts : List Str, (∀ t ∈ ts, t.length ≤ n) → piled ts ≤ ts.length * (n + 2)
  | [], _ => by simp [piled]
  | t :: r, h => by
    have h1 := piled_le r fun u hu => h u (List.mem_cons_of_mem _ hu)
    have h2 := h t List.mem_cons_self
    rw [piled_cons, List.length_cons, Nat.succ_mul]; omega
theorem sh_all {n : Nat} : ∀ ds : List PyData, (∀ d ∈ ds, ShOk d n) → PyData.showableAll ds = true ∧ (∀ t ∈ PyData.shownAll ds, t.length ≤ n) ∧ (PyData.shownAll ds).length = ds.length
  | [], _ => ⟨rfl, by simp [PyData.shownAll], rfl⟩
  | d :: ds, h => by
    obtain ⟨h1, h2, h3⟩ := sh_all ds fun e he => h e (List.mem_cons_of_mem _ he)
    have hd := h d List.mem_cons_self
    refine ⟨by rw [PyData.showableAll, hd.s, h1]; rfl, fun t ht => ?_, by rw [PyData.shownAll, List.length_cons, List.length_cons, h3]⟩
    rw [PyData.shownAll] at ht
    rcases List.mem_cons.mp ht with rfl | ht
    · exact hd.l
    · exact h2 t ht
theorem sh_list {n m : Nat} {ds : List PyData} (h : ∀ d ∈ ds, ShOk d n) (hl : ds.length ≤ m) : ShOk (.list ds) (m * (n + 2) + 2) := by
  obtain ⟨h1, h2, h3⟩ := sh_all ds h
  refine ⟨by rw [PyData.showable]; exact h1, ?_⟩
  rw [PyData.shown]
  unfold listText
  rw [strLen_append]
  have a := textFrom_le (PyData.shownAll ds) "["
  have b := piled_le _ h2
  have c : ("[" : Str).length = 1 := by decide +kernel
  have d : ("]" : Str).length = 1 := by decide +kernel
  rw [h3] at b
  have e := Nat.mul_le_mul_right (n + 2) hl
  omega
theorem sh_tuple {n m : Nat} {ds : List PyData} (h : ∀ d ∈ ds, ShOk d n) (hl : ds.length ≤ m) : ShOk (.tuple ds) (m * (n + 2) + 3) := by
  obtain ⟨h1, h2, h3⟩ := sh_all ds h
  refine ⟨by rw [PyData.showable]; exact h1, ?_⟩
  rw [PyData.shown]
  unfold tupleText
  rw [strLen_append, strLen_append]
  have b := piled_le _ h2
  have c : ("(" : Str).length = 1 := by decide +kernel
  have d : (((if (PyData.shownAll ds).length == 1 then ",)" else ")" : String) : Str)).length ≤ 2 := by split <;> decide +kernel
  have j : (Str.join ", " (PyData.shownAll ds)).length ≤ piled (PyData.shownAll ds) := by
    by_cases q : PyData.shownAll ds = []
    · rw [q]; decide +kernel
    · have := join_length_add _ q; omega
  rw [h3] at b
  have e := Nat.mul_le_mul_right (n + 2) hl
  omega
theorem sh_dict {m : Nat} {xs : List Str} (h : ∀ x ∈ xs, NameOk x) (hl : xs.length ≤ m) : ShOk (.dict (xs.map fun x => (.str x, .bool true))) (m * 91 + 2) := by
  have key : ∀ xs : List Str, (∀ x ∈ xs, NameOk x) → PyData.showableKv (xs.map fun x => (PyData.str x, PyData.bool true)) = true ∧ (∀ t ∈ PyData.shownKv (xs.map fun x => (PyData.str x, PyData.bool true)), t.length ≤ 89) ∧ (PyData.shownKv (xs.map fun x => (PyData.str x, PyData.bool true))).length = xs.length := by
    intro xs
    induction xs with
    | nil => intro _; exact ⟨rfl, by simp [PyData.shownKv], rfl⟩
    | cons x xs ih =>
      intro h
      obtain ⟨h1, h2, h3⟩ := ih fun y hy => h y (List.mem_cons_of_mem _ hy)
      have a := sh_name (h x List.mem_cons_self)
      have b := sh_bool true
      refine ⟨by rw [List.map_cons, PyData.showableKv, a.s, b.s, h1]; rfl, fun t ht => ?_, by rw [List.map_cons, PyData.shownKv, List.length_cons, h3, List.length_cons]⟩
      rw [List.map_cons, PyData.shownKv] at ht
      rcases List.mem_cons.mp ht with rfl | ht
      · rw [strLen_append, strLen_append]
        have c : (": " : Str).length = 2 := by decide +kernel
        have := a.l
        have := b.l
        omega
      · exact h2 t ht
  obtain ⟨h1, h2, h3⟩ := key xs h
  refine ⟨by rw [PyData.showable]; exact h1, ?_⟩
  rw [PyData.shown]
  unfold dictText
  rw [strLen_append, strLen_append]
  have b := piled_le _ h2
  have c : ("{" : Str).length = 1 := by decide +kernel
  have d : ("}" : Str).length = 1 := by decide +kernel
  have j : (Str.join ", " (PyData.shownKv (xs.map fun x => (PyData.str x, PyData.bool true)))).length ≤ piled (PyData.shownKv (xs.map fun x => (PyData.str x, PyData.bool true))) := by
    by_cases q : PyData.shownKv (xs.map fun x => (PyData.str x, PyData.bool true)) = []
    · rw [q]; decide +kernel
    · have := join_length_add _ q; omega
  rw [h3] at b
  have e := Nat.mul_le_mul_right (89 + 2) hl
  omega
/-! ### dict(pairs) -/
theorem pairsOf_map {α : Type} (f : α → PyData) : ∀ l : List (Str × α), pairsOf (l.map fun p => .tuple [.str p.1, f p.2]) = some (eD f l)
  | [] => rfl
  | p :: l => by
    rw [List.map_cons, pairsOf, pairsOf_map f l]
    rfl
theorem dMerge_eD {α : Type} (f : α → PyData) {l : List (Str × α)} (nd : (l.map fun p => p.1).Nodup) : dMerge (eD f l) = eD f l := by
  have key : ∀ (l acc : List (Str × α)), ((acc ++ l).map fun p => p.1).Nodup → (eD f l).foldl (fun acc kv => match keyOf kv.1 with | some k => dPut acc k kv.2 | none => acc) (eD f acc) = eD f (acc ++ l) := by
    intro l
    induction l with
    | nil => intro acc _; rw [List.append_nil]; rfl
    | cons p l ih =>
      intro acc h
      show (eD f l).foldl _ (dPut (eD f acc) (.inr p.1) (f p.2)) = _
      have hn : p.1 ∉ acc.map fun p => p.1 := by
        rw [List.map_append, List.map_cons] at h
        exact fun q => (List.nodup_append.mp h).2.2 _ q _ List.mem_cons_self rfl
      rw [dPut_new f hn, ih (acc ++ [(p.1, p.2)]) (by simpa using h)]
      simp
  have := key l [] nd
  exact this
theorem cDictP_map {α : Type} {st : Sto} (f : α → PyData) {l : List (Str × α)} (nd : (l.map fun p => p.1).Nodup) (hl : l.length ≤ 1000) : cDictP [.p (.list (l.map fun p => .tuple [.str p.1, f p.2]))] st = .ok (.o st.length) (st ++ [.dic (eD f l)]) := by
  have hs : (eD f l).length ≤ sizeLine := by rw [eD_len]; exact sizeLine_big (by omega)
  simp only [cDictP, val_list, pairsOf_map, hs, if_true, dMerge_eD f nd]
/-! ### a loop over an open list -/
theorem forO_ok {tg : SemG} {b : SemS} {n : Nat} {Q : Fl → Sto → Prop} (ds : List PyData) (I : Nat → En → Sto → Prop) (at' : ∀ i en st, I i en st → lstAt st n = some ds)
    (step : ∀ i d en st, ds[i]? = some d → I i en st → Ok (tg (.p d) en st) fun en1 st1 => Ok (b en1 st1) (Turn (I (i + 1)) Q)) (done : ∀ en st, I ds.length en st → Q (.nx en) st) :
    ∀ (fuel i : Nat) (en : En) (st : Sto), i ≤ ds.length → ds.length - i < fuel → I i en st → Ok (forO tg b n fuel i en st) Q
  | 0, i, en, st, _, h, _ => absurd h (Nat.not_lt_zero _)
  | f + 1, i, en, st, hi, hf, h => by
    unfold forO
    rw [at' i en st h]
    simp only
    cases hd : ds[i]? with
    | none =>
      have : i = ds.length := by
        have := List.getElem?_eq_none_iff.mp hd
        omega
      subst this
      exact done en st h
    | some d =>
      have hlt := (List.getElem?_eq_some_iff.mp hd).1
      simp only
      rw [ok_bind]
      refine (step i d en st hd h).mono fun en1 st1 h1 => ?_
      rw [ok_bind]
      refine h1.mono fun fl st2 h2 => ?_
      cases fl with
      | nx en2 => exact forO_ok ds I at' step done f (i + 1) en2 st2 (by omega) (by omega) h2
      | ct en2 => exact forO_ok ds I at' step done f (i + 1) en2 st2 (by omega) (by omega) h2
      | bk en2 => exact h2
      | rt w => exact h2
theorem lstAt_lst {st : Sto} {n : Nat} {ds : List PyData} (h : st[n]? = some (.lst ds)) : lstAt st n = some ds := by simp only [lstAt, h]
/-! ### remove -/
theorem place_str {l : List Str} {x : Str} (h : x ∈ l) : ∃ j, dPlace (l.map .str) (.str x) = some j ∧ l[j]? = some x := by
  have e : dPlace (l.map .str) (.str x) = l.findIdx? fun y => decide (y = x) := place_datum l x
  rw [e]
  cases hf : l.findIdx? fun y => decide (y = x) with
  | none =>
    have := List.findIdx?_eq_none_iff.mp hf x h
    simp at this
  | some j =>
    refine ⟨j, rfl, ?_⟩
    obtain ⟨h1, h2, _⟩ := List.findIdx?_eq_some_iff_getElem.mp hf
    rw [List.getElem?_eq_getElem h1]
    congr 1
    simpa using h2
theorem mRemove_str {st : Sto} {n : Nat} {l : List Str} {x : Str} (hs : st[n]? = some (.lst (l.map .str))) (h : x ∈ l) : ∃ j, l[j]? = some x ∧ mRemove (.o n) [.p (.str x)] st = .ok (.p .none) (st.set n (.lst ((l.eraseIdx j).map .str))) := by
  obtain ⟨j, h1, h2⟩ := place_str h
  refine ⟨j, h2, ?_⟩
  have p1 : (PyData.plainAll (l.map PyData.str) && (PyData.str x).plain && decide ((PyData.str x).depth ≤ 60)) = true := by
    rw [plainAll_str]; rfl
  simp only [mRemove, hs, val_str, p1, if_true, h1, eraseIdx_map']
/-! ### a name that nobody has -/
theorem mul8 (c : Nat) : (Txt.mul (one c) 8).cps.toList = List.replicate 8 c := by
  unfold Txt.mul one
  rfl
theorem mul8_inj {a b : Nat} (h : Txt.mul (one a) 8 = Txt.mul (one b) 8) : a = b := by
  have := congrArg (fun s => s.cps.toList) h
  simp only [mul8] at this
  simpa using this
theorem free_name {xs : List Str} (h : xs.length ≤ 25) : (List.range' 97 26).filter (fun c => !decide (Txt.mul (one c) 8 ∈ xs)) ≠ [] := by
  intro e
  have h1 : ∀ c ∈ List.range' 97 26, Txt.mul (one c) 8 ∈ xs := by
    intro c hc
    have := List.filter_eq_nil_iff.mp e c hc
    simpa using this
  have h2 := nodup_len ((List.range' 97 26).map fun c => Txt.mul (one c) 8) xs (List.pairwise_map.mpr ((List.nodup_range' (s := 97) (n := 26)).imp fun hne q => hne (mul8_inj q))) fun x hx => by
    obtain ⟨c, hc, rfl⟩ := List.mem_map.mp hx
    exact h1 c hc
  simp at h2; omega
theorem nameOk_mul8 {c : Nat} (h : 97 ≤ c ∧ c ≤ 122) : NameOk (Txt.mul (one c) 8) := by
  have e := mul8 c
  have l : (Txt.mul (one c) 8).cps.size = 8 := by rw [← Array.length_toList, e]; rfl
  refine ⟨by omega, by omega, fun x hx => ?_⟩
  rw [e] at hx
  rw [List.eq_of_mem_replicate hx]; exact h
/-! ### a calmed house -/
structure Calmed (h h' : Home) : Prop where
  pm : (h'.map fun p => p.1).Perm (h.map fun p => p.1)
  sv : ∀ n s', (n, s') ∈ h' → ∃ s, look h n = some s ∧ s'.1 = s.1 ∧ s'.2.2 = s.2.2 ∧ s'.2.1.length ≤ 4 ∧ (∀ t ∈ s'.2.1, t ∈ s.2.1) ∧ ((waitsOf s'.2.1).Sublist (waitsOf s.2.1))
theorem sublist_sum {l m : List Call} (h : l.Sublist m) (f : Call → Nat) : (l.map f).sum ≤ (m.map f).sum := by
  induction h with
  | slnil => exact Nat.le_refl _
  | cons a _ ih => rw [List.map_cons, List.sum_cons]; omega
  | cons_cons a _ ih => rw [List.map_cons, List.map_cons, List.sum_cons, List.sum_cons]; omega
theorem Calmed.look {h h' : Home} (g : HomeOk h) (k : Calmed h h') {n : Str} {s : Serv} (hs : Pd.look h n = some s) : ∃ s', Pd.look h' n = some s' ∧ s'.1 = s.1 ∧ s'.2.2 = s.2.2 ∧ s'.2.1.length ≤ 4 ∧ (∀ t ∈ s'.2.1, t ∈ s.2.1) ∧ ((waitsOf s'.2.1).Sublist (waitsOf s.2.1)) := by
  have : n ∈ h'.map fun p => p.1 := k.pm.mem_iff.mpr (List.mem_map.mpr ⟨_, look_mem hs, rfl⟩)
  obtain ⟨s', hs'⟩ := look_some this
  obtain ⟨s2, h1, h2⟩ := k.sv n s' (look_mem hs')
  rw [hs] at h1; cases h1
  exact ⟨s', hs', h2⟩
theorem Calmed.step {h h' : Home} (g : HomeOk h) (k : Calmed h h') {t : Step} (ht : StepOk h t) : StepOk h' t := by
  obtain ⟨h1, sv, m, h2, h3⟩ := ht
  obtain ⟨s', e1, _, e3, _⟩ := k.look g h2
  exact ⟨h1, s', m, e1, by rw [e3]; exact h3⟩
theorem calmed_ok {h h' : Home} (g : HomeOk h) {sz : Call → Nat} (z : Sized h sz) (k : Calmed h h') : HomeOk h' ∧ ∃ sz, Sized h' sz := by
  have nd : (h'.map fun p => p.1).Nodup := k.pm.nodup_iff.mpr g.ns.nd
  have home : HomeOk h' := by
    refine ⟨⟨nd, by rw [k.pm.length_eq]; exact g.ns.pos, by rw [k.pm.length_eq]; exact g.ns.le, fun x hx => g.ns.ok x (k.pm.mem_iff.mp hx)⟩, fun p hp => ?_⟩
    obtain ⟨s, hs, e1, e2, e3, e4, e5⟩ := k.sv p.1 p.2 hp
    have gs := g.sv _ (look_mem hs)
    refine ⟨by rw [e1]; exact gs.w, ⟨e3, fun t ht => k.step g (gs.st.2 t (e4 t ht))⟩, by rw [e2]; exact gs.ns, fun d hd => ?_⟩
    rw [e2] at hd
    have := gs.ds d hd
    exact ⟨this.1, this.2.1, this.2.2.1, fun t ht => k.step g (this.2.2.2 t ht)⟩
  have meth : ∀ {n m : Str} {x : Scr}, scrOf h' (n, some m) = some x → scrOf h (n, some m) = some x := fun {n m x} e => by
    unfold scrOf at e ⊢
    split at e
    · cases e
    · rename_i sv hsv
      obtain ⟨s, hs, _, e2, _⟩ := k.sv n sv (look_mem hsv)
      simp only at hs e ⊢
      rw [hs]
      rw [e2] at e
      exact e
  refine ⟨home, fun c => match c.2 with
    | some _ => sz c
    | none => match look h' c.1 with
      | some sv => ((waitsOf sv.2.1).map fun d => 1 + sz d).sum
      | none => 0, ⟨fun c x e => ?_, fun c x e => ?_⟩⟩
  · obtain ⟨n, m⟩ := c
    cases m with
    | some m =>
      simp only
      rw [z.eq _ _ (meth e)]
      exact sum_congr fun d hd => by obtain ⟨t, _, rfl⟩ := List.mem_map.mp hd; rfl
    | none =>
      unfold scrOf at e
      split at e
      · cases e
      · rename_i sv hsv
        cases e
        simp only at hsv ⊢
        simp only [hsv]
        exact sum_congr fun d hd => by obtain ⟨t, _, rfl⟩ := List.mem_map.mp hd; rfl
  · obtain ⟨n, m⟩ := c
    cases m with
    | some m => exact z.le _ _ (meth e)
    | none =>
      unfold scrOf at e
      split at e
      · cases e
      · rename_i sv hsv
        cases e
        simp only at hsv ⊢
        simp only [hsv]
        obtain ⟨s, hs, _, _, _, _, e5⟩ := k.sv n sv (look_mem hsv)
        have sc : scrOf h (n, none) = some s.2.1 := by simp [scrOf, hs]
        have h1 := z.le _ _ sc
        rw [z.eq _ _ sc] at h1
        exact Nat.le_trans (sublist_sum e5 _) h1
end Pd
end

section
set_option Elab.async false
set_option linter.all false
set_option autoImplicit false
set_option maxRecDepth 100000
/-! Mx10: closed sets; a key of a dict set anew; what a service needs; == of what two houses hold. -/
namespace Pd
open PySem L2 PySem.W
/-! ### closed sets -/
def Clsd (N : Str → Str → Prop) (S : List Str) : Prop := ∀ x ∈ S, ∃ y ∈ S, N x y
/-- no set but the empty one waits within itself -/
def Cured (ks : List Str) (N : Str → Str → Prop) : Prop := ∀ S : List Str, (∀ x ∈ S, x ∈ ks) → Clsd N S → S = []
/-- the table tells who needs whom -/
structure NeedT (ks : List Str) (N : Str → Str → Prop) (T : List (Str × List Str)) : Prop where
  ks : ∀ x, x ∈ T.map (fun p => p.1) ↔ x ∈ ks
  vs : ∀ x v, look T x = some v → ∀ y, y ∈ v ↔ N x y
def nd1 (T : List (Str × List Str)) (l : List Str) (x : Str) : Bool := ((look T x).getD []).any fun y => decide (y ∈ l)
/-- so large that it holds each closed set -/
structure Big (ks : List Str) (N : Str → Str → Prop) (l : List Str) : Prop where
  sub : ∀ x ∈ l, x ∈ ks
  big : ∀ S : List Str, (∀ x ∈ S, x ∈ ks) → Clsd N S → ∀ x ∈ S, x ∈ l
section
variable {ks l : List Str} {N : Str → Str → Prop} {T : List (Str × List Str)}
theorem NeedT.get (h : NeedT ks N T) {x : Str} (hx : x ∈ ks) : ∃ v, look T x = some v ∧ ∀ y, y ∈ v ↔ N x y := by
  obtain ⟨v, hv⟩ := look_some ((h.ks x).mpr hx)
  exact ⟨v, hv, h.vs x v hv⟩
theorem NeedT.nd1 (h : NeedT ks N T) {x : Str} (hx : x ∈ ks) : Pd.nd1 T l x = true ↔ ∃ y ∈ l, N x y := by
  obtain ⟨v, hv, e⟩ := h.get hx
  simp only [Pd.nd1, hv, Option.getD_some, List.any_eq_true, decide_eq_true_eq]
  exact ⟨fun ⟨y, h1, h2⟩ => ⟨y, h2, (e y).mp h1⟩, fun ⟨y, h1, h2⟩ => ⟨y, (e y).mpr h2, h1⟩⟩
theorem Big.all (h : ∀ x, x ∈ l ↔ x ∈ ks) : Big ks N l := ⟨fun x hx => (h x).mp hx, fun S hs _ x hx => (h x).mpr (hs x hx)⟩
theorem Big.step (h : NeedT ks N T) (b : Big ks N l) : Big ks N (l.filter (Pd.nd1 T l)) :=
  ⟨fun x hx => b.sub x (List.mem_filter.mp hx).1, fun S hs hc x hx => List.mem_filter.mpr ⟨b.big S hs hc x hx, by
    obtain ⟨y, h1, h2⟩ := hc x hx
    exact (h.nd1 (hs x hx)).mpr ⟨y, b.big S hs hc y h1, h2⟩⟩⟩
theorem Big.done (h : NeedT ks N T) (b : Big ks N l) (hl : ∀ x ∈ l, Pd.nd1 T l x = true) : l = [] ↔ Cured ks N := by
  refine ⟨fun e S hs hc => ?_, fun c => c l b.sub fun x hx => (h.nd1 (b.sub x hx)).mp (hl x hx)⟩
  cases S with
  | nil => rfl
  | cons x S =>
    have := b.big _ hs hc x List.mem_cons_self
    rw [e] at this
    cases this
theorem filter_len_all {α : Type} {p : α → Bool} {l : List α} (h : (l.filter p).length = l.length) : ∀ x ∈ l, p x = true := by
  have := List.filter_sublist (p := p) (l := l) |>.eq_of_length h
  intro x hx
  rw [← this] at hx
  exact (List.mem_filter.mp hx).2
theorem filter_len_lt {α : Type} {p : α → Bool} {l : List α} (h : l.all p = false) : (l.filter p).length < l.length := by
  refine Nat.lt_of_le_of_ne (List.length_filter_le ..) fun e => ?_
  have := List.all_eq_true.mpr (filter_len_all e)
  rw [h] at this; cases this
end
/-! ### a key of a dict set anew -/
section
variable {α : Type}
def updL (l : List (Str × α)) (k : Str) (a : α) : List (Str × α) := l.map fun p => if p.1 = k then (k, a) else p
theorem updL_keys (l : List (Str × α)) (k : Str) (a : α) : (updL l k a).map (fun p => p.1) = l.map fun p => p.1 := by
  unfold updL
  rw [List.map_map]
  refine List.map_congr_left fun p _ => ?_
  simp only [Function.comp_apply]
  split
  · rename_i h; exact h.symm
  · rfl
theorem updL_len (l : List (Str × α)) (k : Str) (a : α) : (updL l k a).length = l.length := List.length_map ..
theorem look_updL (l : List (Str × α)) (k x : Str) (a : α) : look (updL l k a) x = if x = k then (look l k).map fun _ => a else look l x := by
  induction l with
  | nil => simp [updL, look]
  | cons p l ih =>
    obtain ⟨u, b⟩ := p
    have e : updL ((u, b) :: l) k a = (if u = k then (k, a) else (u, b)) :: updL l k a := rfl
    rw [e]
    by_cases h1 : u = k
    · subst h1
      by_cases h2 : x = u
      · subst h2; simp [look]
      · simp only [if_true, look, if_neg h2, if_neg (Ne.symm h2)]
        rw [ih, if_neg h2]
    · by_cases h2 : x = k
      · subst h2
        simp only [if_neg h1, look, if_true]
        rw [ih, if_pos rfl]
      · simp only [if_neg h1, look, if_neg h2]
        rw [ih, if_neg h2]
theorem dPut_old (f : α → PyData) {l : List (Str × α)} {k : Str} {a : α} (h : k ∈ l.map (·.1)) : dPut (eD f l) (.inr k) (f a) = eD f (updL l k a) := by
  unfold dPut
  rw [if_pos]
  · simp only [eD, updL, List.map_map]
    refine List.map_congr_left fun p _ => ?_
    simp only [Function.comp_apply]
    by_cases e : p.1 = k
    · have e2 : keyOf (PyData.str p.1) = some (.inr k) := by rw [e]; rfl
      rw [if_pos e2, if_pos e, ← e]
    · have e2 : ¬ keyOf (PyData.str p.1) = some (.inr k) := fun z => e (Sum.inr.inj (Option.some.inj z))
      rw [if_neg e2, if_neg e]
  · rw [List.any_eq_true]
    obtain ⟨p, hp, e⟩ := List.mem_map.mp h
    exact ⟨_, List.mem_map.mpr ⟨p, hp, rfl⟩, by simp [keyOf, e]⟩
theorem oPut_dicU {st : Sto} {n : Nat} (f : α → PyData) {l : List (Str × α)} {k : Str} {a : α} (hs : st[n]? = some (.dic (eD f l))) (hz : l.length ≤ 1000) (h : k ∈ l.map (·.1)) : oPut (.o n) (.p (.str k)) (.p (f a)) st = some (st.set n (.dic (eD f (updL l k a)))) := by
  have := sizeLine_big (n := 1001) (by omega)
  simp only [oPut, hs, val_str, keyOf, eD_len, show l.length < sizeLine by omega, if_true, dPut_old f h]
end
/-! ### what a service needs -/
/-- x waits for a call of y: by its start, or, if it has workers and is not among the free, by a method -/
def Needs (h : Home) (free : List Str) (x y : Str) : Prop := (∃ d, Rch h (x, none) d ∧ d.1 = y) ∨ (x ∉ free ∧ ∃ i sc t, look h x = some (some i, sc, t) ∧ ∃ m ∈ t.map (fun p => p.1), ∃ d, Rch h (x, some m) d ∧ d.1 = y)
theorem needs_norm {h : Home} (g : HomeOk h) {free : List Str} {x y : Str} : Needs (norm h) free x y ↔ Needs h free x y := by
  unfold Needs
  have e : (∃ i sc t, look (norm h) x = some (some i, sc, t) ∧ ∃ m ∈ t.map (fun p => p.1), ∃ d, Rch (norm h) (x, some m) d ∧ d.1 = y) ↔ (∃ i sc t, look h x = some (some i, sc, t) ∧ ∃ m ∈ t.map (fun p => p.1), ∃ d, Rch h (x, some m) d ∧ d.1 = y) := by
    rw [look_norm g.ns.nd]
    constructor
    · rintro ⟨i, sc, t, h1, m, h2, d, h3, h4⟩
      obtain ⟨s, hs, e⟩ := Option.map_eq_some_iff.mp h1
      obtain ⟨a, b, c⟩ := s
      simp only [normS, Prod.mk.injEq] at e
      obtain ⟨rfl, rfl, rfl⟩ := e
      rw [sortA_keys, mem_srtS] at h2
      exact ⟨i, b, c, hs, m, h2, d, (rch_norm g).mp h3, h4⟩
    · rintro ⟨i, sc, t, h1, m, h2, d, h3, h4⟩
      refine ⟨i, sc, sortA t, by rw [h1]; rfl, m, by rw [sortA_keys, mem_srtS]; exact h2, d, (rch_norm g).mpr h3, h4⟩
  simp only [rch_norm g] at e ⊢
  rw [e]
theorem cured_congr {ks ks' : List Str} {N N' : Str → Str → Prop} (hk : ∀ x, x ∈ ks ↔ x ∈ ks') (hn : ∀ x y, N x y ↔ N' x y) : Cured ks N ↔ Cured ks' N' := by
  unfold Cured Clsd
  simp only [hk, hn]
/-! ### == of what two houses hold -/
theorem eqOk_str {n : Nat} (x : Str) : eqOk (n + 1) (.str x) = true := rfl
theorem eqOk_int {n : Nat} (i : Int) : eqOk (n + 1) (.int i) = true := rfl
theorem eqOk_tuple {n : Nat} {ds : List PyData} (h : ∀ d ∈ ds, eqOk n d = true) : eqOk (n + 1) (.tuple ds) = true := List.all_eq_true.mpr h
theorem eqOk_dict {α : Type} {n : Nat} (f : α → PyData) {l : List (Str × α)} (nd : (l.map fun p => p.1).Nodup) (h : ∀ p ∈ l, eqOk n (f p.2) = true) : eqOk (n + 1) (.dict (eD f l)) = true := by
  show (decide ((eD f l).map fun p => keyOf p.1).Nodup && ((eD f l).all fun p => (keyOf p.1).isSome && eqOk n p.2)) = true
  rw [Bool.and_eq_true_iff]
  constructor
  · refine decide_eq_true ?_
    have e : (eD f l).map (fun p => keyOf p.1) = (l.map fun p => p.1).map fun x => (some (.inr x) : Option Key) := by
      unfold eD
      rw [List.map_map, List.map_map]
      rfl
    rw [e]
    exact List.Pairwise.map _ (fun a b (hab : a ≠ b) z => hab (Sum.inr.inj (Option.some.inj z))) nd
  · refine List.all_eq_true.mpr fun p hp => ?_
    obtain ⟨q, hq, rfl⟩ := List.mem_map.mp hp
    simp only [keyOf, Option.isSome_some, Bool.true_and]
    exact h q hq
theorem eqOk_step {n : Nat} (s : Step) : eqOk (n + 2) (eStep s) = true := eqOk_tuple fun d hd => by
  simp only [List.mem_cons, List.not_mem_nil, or_false] at hd
  rcases hd with rfl | rfl | rfl <;> rfl
theorem eqOk_scr {n : Nat} (x : Scr) : eqOk (n + 3) (eScr x) = true := eqOk_tuple fun d hd => by
  obtain ⟨s, _, rfl⟩ := List.mem_map.mp hd
  exact eqOk_step s
theorem eqOk_deed {n : Nat} (d : Deed) : eqOk (n + 4) (eDeed d) = true := eqOk_tuple fun e he => by
  simp only [List.mem_cons, List.not_mem_nil, or_false] at he
  rcases he with rfl | rfl
  · rfl
  · exact eqOk_scr _
theorem eqOk_home {h : Home} (g : HomeOk h) : eqOk 50 (.dict (eD eServ h)) = true := eqOk_dict eServ g.ns.nd fun p hp => eqOk_tuple fun e he => by
  simp only [List.mem_cons, List.not_mem_nil, or_false] at he
  rcases he with rfl | rfl | rfl
  · cases p.2.1 <;> rfl
  · exact eqOk_scr _
  · exact eqOk_dict eDeed (g.sv p hp).ns.nd fun q _ => eqOk_deed q.2
theorem oEqS_dic {st : Sto} {n m : Nat} {h : Home} (g : HomeOk h) (h1 : st[n]? = some (.dic (eD eServ h))) (h2 : st[m]? = some (.dic (eD eServ h))) : oEqS (.o n) (.o m) st = .ok (.p (.bool true)) st := by
  simp only [oEqS, val_dic h1, val_dic h2]
  rw [if_pos ⟨trivial, eqOk_home g, rfl⟩]
  rfl
@[simp] theorem sIsC_eq {c : Str} {s : SemE} {en : En} {st : Sto} : sIsC c s en st = (s en st).bind fun w st => match insOf st w with
  | some (c', _) => if c' = c then retB true st else .bad
  | none => .bad := rfl
theorem oOwn_o {st : Sto} {c : Str} {f : Fn} {n m : Nat} {fs gs : List (Str × W)} (h1 : st[n]? = some (.ins c fs)) (h2 : st[m]? = some (.ins c gs)) : oOwn c f (.o n) (.o m) st = (f [.o n, .o m] st).bind fun r st' => match r with
    | .p (.bool t) => .ok (.p (.bool t)) st'
    | _ => .bad := by
  simp only [oOwn, insOf_o h1, insOf_o h2, and_self, if_true] <;> rfl
@[simp] theorem oNotB_bool {st : Sto} {a b : Bool} : oNotB (.p (.bool a)) (.p (.bool b)) st = .ok (.p (.bool (!decide (a = b)))) st := rfl
end Pd
end

section
set_option Elab.async false
set_option linter.all false
set_option maxRecDepth 100000
set_option maxHeartbeats 0
namespace HT
open PySem PySem.Spec PyProof.Rows L2 Pd
def top (i : Nat) : Stmt := PySem.Challenge.pw_ondemand_k15_what_a_cure_is.main.body.getD i (.Pass ⟨0, 0, 0, 0⟩)
abbrev Inn (f : Addr) (st : Stmt) (N : List Str) (x : Str) (P : Program) (w : World) (K : PySem.W.Frag) (mg : Str → Option Value) (base : Heap) (cdv : Value) (A : Around) (outer : List Env) (s : Shared) (H : Hp) (E : XK) : Cx := (cxOf CX0 P w K mg base N x (defScope st) f cdv A outer s H E).nox
/-- what is known of the module -/
structure Fx (K : PySem.W.Frag) (mg : Str → Option Value) : Prop where
  m_all : mg "all" = none
  m_any : mg "any" = none
  m_bool : mg "bool" = none
  m_dict : mg "dict" = none
  m_enumerate : mg "enumerate" = none
  m_int : mg "int" = none
  m_isinstance : mg "isinstance" = none
  m_len : mg "len" = none
  m_list : mg "list" = none
  m_max : mg "max" = none
  m_min : mg "min" = none
  m_range : mg "range" = none
  m_repr : mg "repr" = none
  m_set : mg "set" = none
  m_sorted : mg "sorted" = none
  m_str : mg "str" = none
  m_tuple : mg "tuple" = none
  g_LETTERS : ∃ t, mg "LETTERS" = some (.str "abcdefghijklmnopqrstuvwxyz" t)
  g_MOST_LETTERS : ∃ t, mg "MOST_LETTERS" = some (.int 8 t)
  g_MOST_SERVICES : ∃ t, mg "MOST_SERVICES" = some (.int 6 t)
  g_MOST_METHODS : ∃ t, mg "MOST_METHODS" = some (.int 4 t)
  g_MOST_STEPS : ∃ t, mg "MOST_STEPS" = some (.int 4 t)
  g_MOST_WORKERS : ∃ t, mg "MOST_WORKERS" = some (.int 4 t)
  g_MOST_WORTH : ∃ t, mg "MOST_WORTH" = some (.int 99 t)
  g_MOST_CALLS : ∃ t, mg "MOST_CALLS" = some (.int 30 t)
  house : ∃ C, mg "House" = some (.ref C) ∧ Cls K C ∧ NoAttr K C "names" ∧ NoAttr K C "parts" ∧ NoAttr K C "waited" ∧ NoAttr K C "wanted"
  isC : ∃ C, mg "House" = some (.ref C) ∧ C8.InsC K C
/-- the defs at a level -/
structure Tb (P : Program) (w : World) (K : PySem.W.Frag) (mg : Str → Option Value) (base : Heap) (k : Nat) (c : Nat → Fn) [Wd] : Prop where
  t0 : Cal P w K mg base "is_number" k 3 (c 0)
  t1 : Cal P w K mg base "is_name" k 1 (c 1)
  t2 : Cal P w K mg base "is_workers" k 1 (c 2)
  t3 : Cal P w K mg base "is_script" k 1 (c 3)
  t4 : Cal P w K mg base "is_method" k 1 (c 4)
  t5 : Cal P w K mg base "is_names" k 2 (c 5)
  t6 : Cal P w K mg base "is_service" k 1 (c 6)
  t7 : Cal P w K mg base "is_house_data" k 1 (c 7)
  t8 : Cal P w K mg base "script_in" k 2 (c 8)
  t9 : Cal P w K mg base "wait_calls" k 1 (c 9)
  t10 : Cal P w K mg base "waited_for" k 2 (c 10)
  t11 : Cal P w K mg base "calls_made" k 3 (c 11)
  t12 : Cal P w K mg base "all_scripts" k 1 (c 12)
  t13 : Cal P w K mg base "needs_in" k 3 (c 13)
  t14 : Cal P w K mg base "waits" k 3 (c 14)
  t15 : Cal P w K mg base "services_of" k 1 (c 15)
  t16 : Cal P w K mg base "reach" k 3 (c 16)
  t17 : Cal P w K mg base "are_services" k 2 (c 17)
  t18 : Cal P w K mg base "needs_one" k 3 (c 18)
  t19 : Cal P w K mg base "needs_table" k 1 (c 19)
  t20 : Cal P w K mg base "is_closed_by" k 2 (c 20)
  t21 : Cal P w K mg base "greatest_closed" k 1 (c 21)
  t22 : Cal P w K mg base "starts_table" k 1 (c 22)
  t23 : Cal P w K mg base "is_freed_by" k 3 (c 23)
  t24 : Cal P w K mg base "is_cure" k 2 (c 24)
  t25 : Cal P w K mg base "_law_begun" k 1 (c 25)
  t26 : Cal P w K mg base "_law_mixed" k 1 (c 26)
  t27 : Cal P w K mg base "_law_take" k 2 (c 27)
  t28 : Cal P w K mg base "_law_pick" k 2 (c 28)
  t29 : Cal P w K mg base "_law_shuffled" k 2 (c 29)
  t30 : Cal P w K mg base "_law_names" k 2 (c 30)
  t31 : Cal P w K mg base "_law_steps" k 5 (c 31)
  t32 : Cal P w K mg base "_law_home" k 4 (c 32)
  t33 : Cal P w K mg base "_law_script" k 2 (c 33)
  t34 : Cal P w K mg base "_law_waited" k 2 (c 34)
  t35 : Cal P w K mg base "_law_starts" k 1 (c 35)
  t36 : Cal P w K mg base "_law_needs" k 2 (c 36)
  t37 : Cal P w K mg base "_law_stuck" k 1 (c 37)
  t38 : Cal P w K mg base "_law_calm" k 2 (c 38)
  t39 : Cal P w K mg base "_law_drawn" k 4 (c 39)
  t40 : Cal P w K mg base "_law_absent" k 1 (c 40)
  t41 : Cal P w K mg base "_law_odds" k 1 (c 41)
  t42 : Mak P w K mg base "House" k 2 (c 42)
  t43 : Met P w K mg base "House" "__eq__" k 2 (c 43)
  t44 : Met P w K mg base "House" "need_service" k 2 (c 44)
  t45 : Met P w K mg base "House" "need_method" k 3 (c 45)
  t46 : Met P w K mg base "House" "need_script" k 3 (c 46)
  k24_10 : CalK P w K mg base "is_cure" k 2 ["services", "house"] [1, 0] (c 24)
  ar : ∀ (i : Nat) (ws : List W) (st : Sto), ws.length ≠ [3, 1, 1, 1, 1, 2, 1, 1, 2, 1, 2, 3, 1, 3, 3, 1, 3, 2, 3, 1, 2, 1, 1, 3, 2, 1, 1, 2, 2, 2, 2, 5, 4, 2, 2, 1, 2, 1, 2, 4, 1, 1, 2, 2, 2, 3, 3].getD i 0 → c i ws st = .bad
/-! ### is_number -/
abbrev N_0 : List Str := ["obj", "least", "most"]
theorem sc_0 : FnScope N_0 ["obj", "least", "most"] (defScope (top 17)) := ⟨rfl, rfl, rfl, by decide +kernel, rfl, by decide +kernel, by decide +kernel⟩
def b_0 (c : Nat → Fn) : SemS :=
    (sSeq (sIfS (sOr (sNot (sT (sIsi (isD "int") (sVar 0)))) (sT (sIsi (isD "bool") (sVar 0)))) (sRet (sC (.bool false))) sNext)
    (sRet (sAndV (sB oLe (sVar 1) (sVar 0)) (sOrV (sB oIsN (sVar 2) (sC .none)) (sB oLe (sVar 0) (sVar 2))))))
set_option linter.all false in
theorem ok_0 [Wd] {P : Program} {w : World} {K : PySem.W.Frag} {mg : Str → Option Value} {base : Heap} {k : Nat} {c : Nat → Fn} (hp : P = Wd.P ∧ w = Wd.w) (F : Fx K mg) (T : Tb P w K mg base k c) {f : Addr} {cdv : Value} {A : Around} {outer : List Env} {s : Shared} {H : Hp} {E : XK} (hr : Room (k + 1) (A.deeper (envOfC "is_number" (defScope (top 17)) s.heap.objs.size f cdv))) :
    SSs (Inn f (top 17) N_0 "is_number" P w K mg base cdv A outer s H E) E (defBody (top 17)) (b_0 c) := by
  have hu := room64 hr
  have hr0 := hr.mono (Nat.le_succ k)
  have sc := sc_0
  exact (sss_cons (ss_if (st_or (st_not (st_val (se_isi kn_int (se_var (pv 0)) (by rfl) (F.m_isinstance) (by rfl) (F.m_int) boot_int))) (st_or1 (st_val (se_isi kn_bool (se_var (pv 0)) (by rfl) (F.m_isinstance) (by rfl) (F.m_bool) boot_bool)))).pt (sss_one (ss_ret se_bl)) sss_nil)
    (sss_one (ss_ret (se_and (se_cmp op_le (pr_cI _) (se_var (pv 1)) (se_var (pv 0)) (nomark _)) (se_one (se_or (se_cmp op_isN pr_isN (se_var (pv 2)) se_non (nomark _)) (se_one (se_cmp op_le (pr_cI _) (se_var (pv 0)) (se_var (pv 2)) (nomark _)))))))))
/-! ### is_name -/
abbrev N_1 : List Str := ["obj", "letter"]
theorem sc_1 : FnScope N_1 ["obj"] (defScope (top 18)) := ⟨rfl, rfl, rfl, by decide +kernel, rfl, by decide +kernel, by decide +kernel⟩
def b_1 (c : Nat → Fn) : SemS :=
    (sSeq (sIfS (sOr (sNot (sT (sIsi (isD "str") (sVar 0)))) (sOr (sT (sB oEq (sVar 0) (sC (.str "")))) (sT (sB oGt (sCall cLen (sCons (sVar 0) sNil)) (sC (.int 8)))))) (sRet (sC (.bool false))) sNext)
    (sRet (sCall (cAll fun bs => bs.all id) (sCons (sLc (sItems (sVar 0)) (gN 1) tYesS (sB (oIn false) (sVar 1) (sC (.str "abcdefghijklmnopqrstuvwxyz"))) [1] keepL) sNil))))
set_option linter.all false in
theorem ok_1 [Wd] {P : Program} {w : World} {K : PySem.W.Frag} {mg : Str → Option Value} {base : Heap} {k : Nat} {c : Nat → Fn} (hp : P = Wd.P ∧ w = Wd.w) (F : Fx K mg) (T : Tb P w K mg base k c) {f : Addr} {cdv : Value} {A : Around} {outer : List Env} {s : Shared} {H : Hp} {E : XK} (hr : Room (k + 1) (A.deeper (envOfC "is_name" (defScope (top 18)) s.heap.objs.size f cdv))) :
    SSs (Inn f (top 18) N_1 "is_name" P w K mg base cdv A outer s H E) E (defBody (top 18)) (b_1 c) := by
  have hu := room64 hr
  have hr0 := hr.mono (Nat.le_succ k)
  have sc := sc_1
  obtain ⟨t_LETTERS, g_LETTERS⟩ := F.g_LETTERS
  obtain ⟨t_MOST_LETTERS, g_MOST_LETTERS⟩ := F.g_MOST_LETTERS
  exact (sss_cons (ss_if (st_or (st_not (st_val (se_isi kn_str (se_var (pv 0)) (by rfl) (F.m_isinstance) (by rfl) (F.m_str) boot_str))) (st_or (st_cmp (op_eqP hu) pr_eq (se_var (pv 0)) se_str (nomark _)) (st_or1 (st_cmp op_gt (pr_cI _) (se_callB call_lenD2 pr_len (by rfl) (F.m_len) boot_len (sa_cons (se_var (pv 0)) sa_nil)) (se_gint (by rfl) g_MOST_LETTERS) (nomark _))))).pt (sss_one (ss_ret se_bl)) sss_nil)
    (sss_one (ss_ret (se_callB (cr_all rfl) (pr_all _) (by rfl) (F.m_all) boot_all (sa_cons (lc_v [("letter", 1)] keepL_ok rfl sc.nd (si_seq (se_var (pv 0))) (blkOk_by (N := N_1) (sc := defScope (top 18)) (own := [("letter", 1)]) (by decide +kernel)) rfl (fun _ _ _ _ _ => (pg_name (i := 1) sc.nd rfl (by first | exact .inl rfl | exact .inr rfl))) (gw_name (by decide)) (fun _ _ _ _ _ => spts_nil) (fun _ _ _ _ _ => (se_cmp (op_inA hu) (pr_in false) (se_var (pv 1)) (se_gstr (by rfl) g_LETTERS) (by rfl)))) sa_nil)))))
/-! ### is_workers -/
abbrev N_2 : List Str := ["obj"]
theorem sc_2 : FnScope N_2 ["obj"] (defScope (top 19)) := ⟨rfl, rfl, rfl, by decide +kernel, rfl, by decide +kernel, by decide +kernel⟩
def b_2 (c : Nat → Fn) : SemS :=
    (sRet (sOrV (sB oIsN (sVar 0) (sC .none)) (sCall (c 0) (sCons (sVar 0) (sCons (sC (.int 1)) (sCons (sC (.int 4)) sNil))))))
set_option linter.all false in
theorem ok_2 [Wd] {P : Program} {w : World} {K : PySem.W.Frag} {mg : Str → Option Value} {base : Heap} {k : Nat} {c : Nat → Fn} (hp : P = Wd.P ∧ w = Wd.w) (F : Fx K mg) (T : Tb P w K mg base k c) {f : Addr} {cdv : Value} {A : Around} {outer : List Env} {s : Shared} {H : Hp} {E : XK} (hr : Room (k + 1) (A.deeper (envOfC "is_workers" (defScope (top 19)) s.heap.objs.size f cdv))) :
    SSs (Inn f (top 19) N_2 "is_workers" P w K mg base cdv A outer s H E) E (defBody (top 19)) (b_2 c) := by
  have hu := room64 hr
  have hr0 := hr.mono (Nat.le_succ k)
  have sc := sc_2
  obtain ⟨t_MOST_WORKERS, g_MOST_WORKERS⟩ := F.g_MOST_WORKERS
  exact (sss_one (ss_ret (se_or (se_cmp op_isN pr_isN (se_var (pv 0)) se_non (nomark _)) (se_one (se_call T.t0 hr0 (by rfl) (T.ar 0) (sa_cons (se_var (pv 0)) (sa_cons se_int (sa_cons (se_gint (by rfl) g_MOST_WORKERS) sa_nil))))))))
/-! ### is_script -/
abbrev N_3 : List Str := ["obj", "step", "part"]
theorem sc_3 : FnScope N_3 ["obj"] (defScope (top 20)) := ⟨rfl, rfl, rfl, by decide +kernel, rfl, by decide +kernel, by decide +kernel⟩
def b_3 (c : Nat → Fn) : SemS :=
    (sSeq (sIfS (sOr (sNot (sT (sIsi (isD "tuple") (sVar 0)))) (sT (sB oGt (sCall cLen (sCons (sVar 0) sNil)) (sC (.int 4))))) (sRet (sC (.bool false))) sNext)
    (sSeq (sFor (sItems (sVar 0)) (gN 1) (sSeq (sIfS (sOr (sNot (sT (sIsi (isD "tuple") (sVar 1)))) (sOr (sT (sB oNe (sCall cLen (sCons (sVar 1) sNil)) (sC (.int 3)))) (sNot (sT (sCall (cAll fun bs => bs.all id) (sCons (sLc (sItems (sVar 1)) (gN 2) tYesS (sIsi (isD "str") (sVar 2)) [2] keepL) sNil)))))) (sRet (sC (.bool false))) sNext)
    (sIfS (sT (sB (oIn true) (sB oIx (sVar 1) (sC (.int 0))) (sDisp mkT (sCons (sC (.str "wait")) (sCons (sC (.str "post")) sNil))))) (sRet (sC (.bool false))) sNext)))
    (sRet (sC (.bool true)))))
set_option linter.all false in
theorem ok_3 [Wd] {P : Program} {w : World} {K : PySem.W.Frag} {mg : Str → Option Value} {base : Heap} {k : Nat} {c : Nat → Fn} (hp : P = Wd.P ∧ w = Wd.w) (F : Fx K mg) (T : Tb P w K mg base k c) {f : Addr} {cdv : Value} {A : Around} {outer : List Env} {s : Shared} {H : Hp} {E : XK} (hr : Room (k + 1) (A.deeper (envOfC "is_script" (defScope (top 20)) s.heap.objs.size f cdv))) :
    SSs (Inn f (top 20) N_3 "is_script" P w K mg base cdv A outer s H E) E (defBody (top 20)) (b_3 c) := by
  have hu := room64 hr
  have hr0 := hr.mono (Nat.le_succ k)
  have sc := sc_3
  obtain ⟨t_MOST_STEPS, g_MOST_STEPS⟩ := F.g_MOST_STEPS
  exact (sss_cons (ss_if (st_or (st_not (st_val (se_isi kn_tuple (se_var (pv 0)) (by rfl) (F.m_isinstance) (by rfl) (F.m_tuple) boot_tuple))) (st_or1 (st_cmp op_gt (pr_cI _) (se_callB call_lenD2 pr_len (by rfl) (F.m_len) boot_len (sa_cons (se_var (pv 0)) sa_nil)) (se_gint (by rfl) g_MOST_STEPS) (nomark _)))).pt (sss_one (ss_ret se_bl)) sss_nil)
    (sss_cons (ss_for PassesOwn.never rfl (si_seq (se_var (pv 0))) (sg_name (i := 1) sc.nd rfl (by first | exact .inl rfl | exact .inr rfl)) (sss_cons (ss_if (st_or (st_not (st_val (se_isi kn_tuple (se_var (pv 1)) (by rfl) (F.m_isinstance) (by rfl) (F.m_tuple) boot_tuple))) (st_or (st_cmp (op_neP hu) pr_ne (se_callB call_lenD2 pr_len (by rfl) (F.m_len) boot_len (sa_cons (se_var (pv 1)) sa_nil)) se_int (nomark _)) (st_or1 (st_not (st_val (se_callB (cr_all rfl) (pr_all _) (by rfl) (F.m_all) boot_all (sa_cons (lc_v [("part", 2)] keepL_ok rfl sc.nd (si_seq (se_var (pv 1))) (blkOk_by (N := N_3) (sc := defScope (top 20)) (own := [("part", 2)]) (by decide +kernel)) rfl (fun _ _ _ _ _ => (pg_name (i := 2) sc.nd rfl (by first | exact .inl rfl | exact .inr rfl))) (gw_name (by decide)) (fun _ _ _ _ _ => spts_nil) (fun _ _ _ _ _ => (se_isi kn_str (se_var (pv 2)) (by rfl) (F.m_isinstance) (by rfl) (F.m_str) boot_str))) sa_nil))))))).pt (sss_one (ss_ret se_bl)) sss_nil)
    (sss_one (ss_if (st_cmp (op_notInA hu) (pr_in true) (se_ix hu (se_var (pv 1)) se_int) (se_tup (sa_cons se_str (sa_cons se_str sa_nil))) (by rfl)) (sss_one (ss_ret se_bl)) sss_nil))))
    (sss_one (ss_ret se_bl))))
/-! ### is_method -/
abbrev N_4 : List Str := ["obj"]
theorem sc_4 : FnScope N_4 ["obj"] (defScope (top 21)) := ⟨rfl, rfl, rfl, by decide +kernel, rfl, by decide +kernel, by decide +kernel⟩
def b_4 (c : Nat → Fn) : SemS :=
    (sRet (sAndV (sIsi (isD "tuple") (sVar 0)) (sAndV (sB oEq (sCall cLen (sCons (sVar 0) sNil)) (sC (.int 2))) (sAndV (sCall (c 0) (sCons (sB oIx (sVar 0) (sC (.int 0))) (sCons (sC (.int 0)) (sCons (sC (.int 99)) sNil)))) (sCall (c 3) (sCons (sB oIx (sVar 0) (sC (.int 1))) sNil))))))
set_option linter.all false in
theorem ok_4 [Wd] {P : Program} {w : World} {K : PySem.W.Frag} {mg : Str → Option Value} {base : Heap} {k : Nat} {c : Nat → Fn} (hp : P = Wd.P ∧ w = Wd.w) (F : Fx K mg) (T : Tb P w K mg base k c) {f : Addr} {cdv : Value} {A : Around} {outer : List Env} {s : Shared} {H : Hp} {E : XK} (hr : Room (k + 1) (A.deeper (envOfC "is_method" (defScope (top 21)) s.heap.objs.size f cdv))) :
    SSs (Inn f (top 21) N_4 "is_method" P w K mg base cdv A outer s H E) E (defBody (top 21)) (b_4 c) := by
  have hu := room64 hr
  have hr0 := hr.mono (Nat.le_succ k)
  have sc := sc_4
  obtain ⟨t_MOST_WORTH, g_MOST_WORTH⟩ := F.g_MOST_WORTH
  exact (sss_one (ss_ret (se_and (se_isi kn_tuple (se_var (pv 0)) (by rfl) (F.m_isinstance) (by rfl) (F.m_tuple) boot_tuple) (se_and (se_cmp (op_eqP hu) pr_eq (se_callB call_lenD2 pr_len (by rfl) (F.m_len) boot_len (sa_cons (se_var (pv 0)) sa_nil)) se_int (nomark _)) (se_and (se_call T.t0 hr0 (by rfl) (T.ar 0) (sa_cons (se_ix hu (se_var (pv 0)) se_int) (sa_cons se_int (sa_cons (se_gint (by rfl) g_MOST_WORTH) sa_nil)))) (se_one (se_call T.t3 hr0 (by rfl) (T.ar 3) (sa_cons (se_ix hu (se_var (pv 0)) se_int) sa_nil))))))))
/-! ### is_names -/
abbrev N_5 : List Str := ["obj", "most", "key"]
theorem sc_5 : FnScope N_5 ["obj", "most"] (defScope (top 22)) := ⟨rfl, rfl, rfl, by decide +kernel, rfl, by decide +kernel, by decide +kernel⟩
def b_5 (c : Nat → Fn) : SemS :=
    (sSeq (sIfS (sOr (sNot (sT (sIsi (isD "dict") (sVar 0)))) (sOr (sT (sB oEq (sCall cLen (sCons (sVar 0) sNil)) (sC (.int 0)))) (sT (sB oGt (sCall cLen (sCons (sVar 0) sNil)) (sVar 1))))) (sRet (sC (.bool false))) sNext)
    (sRet (sCall (cAll fun bs => bs.all id) (sCons (sLc (sItems (sCall (cListB mkL) (sCons (sVar 0) sNil))) (gN 2) tYesS (sCall (c 1) (sCons (sVar 2) sNil)) [2] keepL) sNil))))
set_option linter.all false in
theorem ok_5 [Wd] {P : Program} {w : World} {K : PySem.W.Frag} {mg : Str → Option Value} {base : Heap} {k : Nat} {c : Nat → Fn} (hp : P = Wd.P ∧ w = Wd.w) (F : Fx K mg) (T : Tb P w K mg base k c) {f : Addr} {cdv : Value} {A : Around} {outer : List Env} {s : Shared} {H : Hp} {E : XK} (hr : Room (k + 1) (A.deeper (envOfC "is_names" (defScope (top 22)) s.heap.objs.size f cdv))) :
    SSs (Inn f (top 22) N_5 "is_names" P w K mg base cdv A outer s H E) E (defBody (top 22)) (b_5 c) := by
  have hu := room64 hr
  have hr0 := hr.mono (Nat.le_succ k)
  have sc := sc_5
  exact (sss_cons (ss_if (st_or (st_not (st_val (se_isi kn_dict (se_var (pv 0)) (by rfl) (F.m_isinstance) (by rfl) (F.m_dict) boot_dict))) (st_or (st_cmp (op_eqP hu) pr_eq (se_callB call_lenD2 pr_len (by rfl) (F.m_len) boot_len (sa_cons (se_var (pv 0)) sa_nil)) se_int (nomark _)) (st_or1 (st_cmp op_gt (pr_cI _) (se_callB call_lenD2 pr_len (by rfl) (F.m_len) boot_len (sa_cons (se_var (pv 0)) sa_nil)) (se_var (pv 1)) (nomark _))))).pt (sss_one (ss_ret se_bl)) sss_nil)
    (sss_one (ss_ret (se_callB (cr_all rfl) (pr_all _) (by rfl) (F.m_all) boot_all (sa_cons (lc_v [("key", 2)] keepL_ok rfl sc.nd (si_seq (se_callTy (call_listA rfl) (pr_listA mkL_okE) (by rfl) (F.m_list) boot_list (sa_cons (se_var (pv 0)) sa_nil))) (blkOk_by (N := N_5) (sc := defScope (top 22)) (own := [("key", 2)]) (by decide +kernel)) rfl (fun _ _ _ _ _ => (pg_name (i := 2) sc.nd rfl (by first | exact .inl rfl | exact .inr rfl))) (gw_name (by decide)) (fun _ _ _ _ _ => spts_nil) (fun _ _ _ _ _ => (se_call T.t1 hr0 (by rfl) (T.ar 1) (sa_cons (se_var (pv 2)) sa_nil)))) sa_nil)))))
/-! ### is_service -/
abbrev N_6 : List Str := ["obj", "name"]
theorem sc_6 : FnScope N_6 ["obj"] (defScope (top 23)) := ⟨rfl, rfl, rfl, by decide +kernel, rfl, by decide +kernel, by decide +kernel⟩
def b_6 (c : Nat → Fn) : SemS :=
    (sSeq (sIfS (sOr (sNot (sT (sIsi (isD "tuple") (sVar 0)))) (sOr (sT (sB oNe (sCall cLen (sCons (sVar 0) sNil)) (sC (.int 3)))) (sOr (sNot (sT (sCall (c 2) (sCons (sB oIx (sVar 0) (sC (.int 0))) sNil)))) (sNot (sT (sCall (c 3) (sCons (sB oIx (sVar 0) (sC (.int 1))) sNil))))))) (sRet (sC (.bool false))) sNext)
    (sRet (sAndV (sCall (c 5) (sCons (sB oIx (sVar 0) (sC (.int 2))) (sCons (sC (.int 4)) sNil))) (sCall (cAll fun bs => bs.all id) (sCons (sLc (sItems (sCall (cListB mkL) (sCons (sB oIx (sVar 0) (sC (.int 2))) sNil))) (gN 1) tYesS (sCall (c 4) (sCons (sB oIx (sB oIx (sVar 0) (sC (.int 2))) (sVar 1)) sNil)) [1] keepL) sNil)))))
set_option linter.all false in
theorem ok_6 [Wd] {P : Program} {w : World} {K : PySem.W.Frag} {mg : Str → Option Value} {base : Heap} {k : Nat} {c : Nat → Fn} (hp : P = Wd.P ∧ w = Wd.w) (F : Fx K mg) (T : Tb P w K mg base k c) {f : Addr} {cdv : Value} {A : Around} {outer : List Env} {s : Shared} {H : Hp} {E : XK} (hr : Room (k + 1) (A.deeper (envOfC "is_service" (defScope (top 23)) s.heap.objs.size f cdv))) :
    SSs (Inn f (top 23) N_6 "is_service" P w K mg base cdv A outer s H E) E (defBody (top 23)) (b_6 c) := by
  have hu := room64 hr
  have hr0 := hr.mono (Nat.le_succ k)
  have sc := sc_6
  obtain ⟨t_MOST_METHODS, g_MOST_METHODS⟩ := F.g_MOST_METHODS
  exact (sss_cons (ss_if (st_or (st_not (st_val (se_isi kn_tuple (se_var (pv 0)) (by rfl) (F.m_isinstance) (by rfl) (F.m_tuple) boot_tuple))) (st_or (st_cmp (op_neP hu) pr_ne (se_callB call_lenD2 pr_len (by rfl) (F.m_len) boot_len (sa_cons (se_var (pv 0)) sa_nil)) se_int (nomark _)) (st_or (st_not (st_val (se_call T.t2 hr0 (by rfl) (T.ar 2) (sa_cons (se_ix hu (se_var (pv 0)) se_int) sa_nil)))) (st_or1 (st_not (st_val (se_call T.t3 hr0 (by rfl) (T.ar 3) (sa_cons (se_ix hu (se_var (pv 0)) se_int) sa_nil)))))))).pt (sss_one (ss_ret se_bl)) sss_nil)
    (sss_one (ss_ret (se_and (se_call T.t5 hr0 (by rfl) (T.ar 5) (sa_cons (se_ix hu (se_var (pv 0)) se_int) (sa_cons (se_gint (by rfl) g_MOST_METHODS) sa_nil))) (se_one (se_callB (cr_all rfl) (pr_all _) (by rfl) (F.m_all) boot_all (sa_cons (lc_v [("name", 1)] keepL_ok rfl sc.nd (si_seq (se_callTy (call_listA rfl) (pr_listA mkL_okE) (by rfl) (F.m_list) boot_list (sa_cons (se_ix hu (se_var (pv 0)) se_int) sa_nil))) (blkOk_by (N := N_6) (sc := defScope (top 23)) (own := [("name", 1)]) (by decide +kernel)) rfl (fun _ _ _ _ _ => (pg_name (i := 1) sc.nd rfl (by first | exact .inl rfl | exact .inr rfl))) (gw_name (by decide)) (fun _ _ _ _ _ => spts_nil) (fun _ _ _ _ _ => (se_call T.t4 hr0 (by rfl) (T.ar 4) (sa_cons (se_ix hu (se_ix hu (se_var (pv 0)) se_int) (se_var (pv 1))) sa_nil)))) sa_nil)))))))
/-! ### is_house_data -/
abbrev N_7 : List Str := ["obj", "method", "name", "script", "scripts", "service", "word"]
theorem sc_7 : FnScope N_7 ["obj"] (defScope (top 24)) := ⟨rfl, rfl, rfl, by decide +kernel, rfl, by decide +kernel, by decide +kernel⟩
def b_7 (c : Nat → Fn) : SemS :=
    (sSeq (sIfS (sOr (sNot (sT (sCall (c 5) (sCons (sVar 0) (sCons (sC (.int 6)) sNil))))) (sNot (sT (sCall (cAll fun bs => bs.all id) (sCons (sLc (sItems (sCall (cListB mkL) (sCons (sVar 0) sNil))) (gN 2) tYesS (sCall (c 6) (sCons (sB oIx (sVar 0) (sVar 2)) sNil)) [2] keepL) sNil))))) (sRet (sC (.bool false))) sNext)
    (sSeq (sFor (sItems (sCall (cListB mkL) (sCons (sVar 0) sNil))) (gN 2) (sSeq (sSet 4 (sB oAdd (sDisp mkL (sCons (sB oIx (sB oIx (sVar 0) (sVar 2)) (sC (.int 1))) sNil)) (sLc (sItems (sCall (cListB mkL) (sCons (sB oIx (sB oIx (sVar 0) (sVar 2)) (sC (.int 2))) sNil))) (gN 1) tYesS (sB oIx (sB oIx (sB oIx (sB oIx (sVar 0) (sVar 2)) (sC (.int 2))) (sVar 1)) (sC (.int 1))) [1] keepL)))
    (sFor (sItems (sVar 4)) (gN 3) (sFor (sItems (sVar 3)) (gTupS 3 (gConsS (gN 6) (gConsS (gN 5) (gConsS (gN 1) gNilS)))) (sIfS (sOr (sT (sB (oIn true) (sVar 5) (sVar 0))) (sT (sB (oIn true) (sVar 1) (sB oIx (sB oIx (sVar 0) (sVar 5)) (sC (.int 2)))))) (sRet (sC (.bool false))) sNext)))))
    (sRet (sC (.bool true)))))
set_option linter.all false in
theorem ok_7 [Wd] {P : Program} {w : World} {K : PySem.W.Frag} {mg : Str → Option Value} {base : Heap} {k : Nat} {c : Nat → Fn} (hp : P = Wd.P ∧ w = Wd.w) (F : Fx K mg) (T : Tb P w K mg base k c) {f : Addr} {cdv : Value} {A : Around} {outer : List Env} {s : Shared} {H : Hp} {E : XK} (hr : Room (k + 1) (A.deeper (envOfC "is_house_data" (defScope (top 24)) s.heap.objs.size f cdv))) :
    SSs (Inn f (top 24) N_7 "is_house_data" P w K mg base cdv A outer s H E) E (defBody (top 24)) (b_7 c) := by
  have hu := room64 hr
  have hr0 := hr.mono (Nat.le_succ k)
  have sc := sc_7
  obtain ⟨t_MOST_SERVICES, g_MOST_SERVICES⟩ := F.g_MOST_SERVICES
  exact (sss_cons (ss_if (st_or (st_not (st_val (se_call T.t5 hr0 (by rfl) (T.ar 5) (sa_cons (se_var (pv 0)) (sa_cons (se_gint (by rfl) g_MOST_SERVICES) sa_nil))))) (st_or1 (st_not (st_val (se_callB (cr_all rfl) (pr_all _) (by rfl) (F.m_all) boot_all (sa_cons (lc_v [("name", 2)] keepL_ok rfl sc.nd (si_seq (se_callTy (call_listA rfl) (pr_listA mkL_okE) (by rfl) (F.m_list) boot_list (sa_cons (se_var (pv 0)) sa_nil))) (blkOk_by (N := N_7) (sc := defScope (top 24)) (own := [("name", 2)]) (by decide +kernel)) rfl (fun _ _ _ _ _ => (pg_name (i := 2) sc.nd rfl (by first | exact .inl rfl | exact .inr rfl))) (gw_name (by decide)) (fun _ _ _ _ _ => spts_nil) (fun _ _ _ _ _ => (se_call T.t6 hr0 (by rfl) (T.ar 6) (sa_cons (se_ix hu (se_var (pv 0)) (se_var (pv 2))) sa_nil)))) sa_nil)))))).pt (sss_one (ss_ret se_bl)) sss_nil)
    (sss_cons (ss_for PassesOwn.never rfl (si_seq (se_callTy (call_listA rfl) (pr_listA mkL_okE) (by rfl) (F.m_list) boot_list (sa_cons (se_var (pv 0)) sa_nil))) (sg_name (i := 2) sc.nd rfl (by first | exact .inl rfl | exact .inr rfl)) (sss_cons (ss_set (i := 4) sc.nd rfl (by first | exact .inl rfl | exact .inr rfl) (se_op op_addP pr_add (se_lst (sa_cons (se_ix hu (se_ix hu (se_var (pv 0)) (se_var (pv 2))) se_int) sa_nil)) (lc_v [("method", 1)] keepL_ok rfl sc.nd (si_seq (se_callTy (call_listA rfl) (pr_listA mkL_okE) (by rfl) (F.m_list) boot_list (sa_cons (se_ix hu (se_ix hu (se_var (pv 0)) (se_var (pv 2))) se_int) sa_nil))) (blkOk_by (N := N_7) (sc := defScope (top 24)) (own := [("method", 1)]) (by decide +kernel)) rfl (fun _ _ _ _ _ => (pg_name (i := 1) sc.nd rfl (by first | exact .inl rfl | exact .inr rfl))) (gw_name (by decide)) (fun _ _ _ _ _ => spts_nil) (fun _ _ _ _ _ => (se_ix hu (se_ix hu (se_ix hu (se_ix hu (se_var (pv 0)) (se_var (pv 2))) se_int) (se_var (pv 1))) se_int)))))
    (sss_one (ss_for PassesOwn.never rfl (si_seq (se_var (pv 4))) (sg_name (i := 3) sc.nd rfl (by first | exact .inl rfl | exact .inr rfl)) (sss_one (ss_for PassesOwn.never rfl (si_seq (se_var (pv 3))) (sg_tup rfl (sgs_cons (sg_name (i := 6) sc.nd rfl (by first | exact .inl rfl | exact .inr rfl)) (sgs_cons (sg_name (i := 5) sc.nd rfl (by first | exact .inl rfl | exact .inr rfl)) (sgs_cons (sg_name (i := 1) sc.nd rfl (by first | exact .inl rfl | exact .inr rfl)) sgs_nil)))) (sss_one (ss_if (st_or (st_cmp (op_notInA hu) (pr_in true) (se_var (pv 5)) (se_var (pv 0)) (by rfl)) (st_or1 (st_cmp (op_notInA hu) (pr_in true) (se_var (pv 1)) (se_ix hu (se_ix hu (se_var (pv 0)) (se_var (pv 5))) se_int) (by rfl)))).pt (sss_one (ss_ret se_bl)) sss_nil))))))))
    (sss_one (ss_ret se_bl))))
/-! ### script_in -/
abbrev N_8 : List Str := ["parts", "call", "method", "service"]
theorem sc_8 : FnScope N_8 ["parts", "call"] (defScope (top 25)) := ⟨rfl, rfl, rfl, by decide +kernel, rfl, by decide +kernel, by decide +kernel⟩
def b_8 (c : Nat → Fn) : SemS :=
    (sSeq (sAsg (sVar 1) (gTupS 2 (gConsS (gN 3) (gConsS (gN 2) gNilS))))
    (sRet (sIf (sT (sB oIsN (sVar 2) (sC .none))) (sB oIx (sB oIx (sVar 0) (sVar 3)) (sC (.int 1))) (sB oIx (sB oIx (sB oIx (sB oIx (sVar 0) (sVar 3)) (sC (.int 2))) (sVar 2)) (sC (.int 1))))))
set_option linter.all false in
theorem ok_8 [Wd] {P : Program} {w : World} {K : PySem.W.Frag} {mg : Str → Option Value} {base : Heap} {k : Nat} {c : Nat → Fn} (hp : P = Wd.P ∧ w = Wd.w) (F : Fx K mg) (T : Tb P w K mg base k c) {f : Addr} {cdv : Value} {A : Around} {outer : List Env} {s : Shared} {H : Hp} {E : XK} (hr : Room (k + 1) (A.deeper (envOfC "script_in" (defScope (top 25)) s.heap.objs.size f cdv))) :
    SSs (Inn f (top 25) N_8 "script_in" P w K mg base cdv A outer s H E) E (defBody (top 25)) (b_8 c) := by
  have hu := room64 hr
  have hr0 := hr.mono (Nat.le_succ k)
  have sc := sc_8
  exact (sss_cons (ss_asg (se_var (pv 1)) (sg_tup rfl (sgs_cons (sg_name (i := 3) sc.nd rfl (by first | exact .inl rfl | exact .inr rfl)) (sgs_cons (sg_name (i := 2) sc.nd rfl (by first | exact .inl rfl | exact .inr rfl)) sgs_nil))))
    (sss_one (ss_ret (se_ifexp (st_cmp op_isN pr_isN (se_var (pv 2)) se_non (nomark _)) (se_ix hu (se_ix hu (se_var (pv 0)) (se_var (pv 3))) se_int) (se_ix hu (se_ix hu (se_ix hu (se_ix hu (se_var (pv 0)) (se_var (pv 3))) se_int) (se_var (pv 2))) se_int)))))
/-! ### wait_calls -/
abbrev N_9 : List Str := ["script", "word", "service", "method"]
theorem sc_9 : FnScope N_9 ["script"] (defScope (top 26)) := ⟨rfl, rfl, rfl, by decide +kernel, rfl, by decide +kernel, by decide +kernel⟩
def b_9 (c : Nat → Fn) : SemS :=
    (sRet (sLc (sItems (sVar 0)) (gTupS 3 (gConsS (gN 1) (gConsS (gN 2) (gConsS (gN 3) gNilS)))) (sT (sB oEq (sVar 1) (sC (.str "wait")))) (sDisp mkT (sCons (sVar 2) (sCons (sVar 3) sNil))) [1, 2, 3] keepO))
set_option linter.all false in
theorem ok_9 [Wd] {P : Program} {w : World} {K : PySem.W.Frag} {mg : Str → Option Value} {base : Heap} {k : Nat} {c : Nat → Fn} (hp : P = Wd.P ∧ w = Wd.w) (F : Fx K mg) (T : Tb P w K mg base k c) {f : Addr} {cdv : Value} {A : Around} {outer : List Env} {s : Shared} {H : Hp} {E : XK} (hr : Room (k + 1) (A.deeper (envOfC "wait_calls" (defScope (top 26)) s.heap.objs.size f cdv))) :
    SSs (Inn f (top 26) N_9 "wait_calls" P w K mg base cdv A outer s H E) E (defBody (top 26)) (b_9 c) := by
  have hu := room64 hr
  have hr0 := hr.mono (Nat.le_succ k)
  have sc := sc_9
  exact (sss_one (ss_ret (lc_v [("word", 1), ("service", 2), ("method", 3)] keepO_ok rfl sc.nd (si_seq (se_var (pv 0))) (blkOk_by (N := N_9) (sc := defScope (top 26)) (own := [("word", 1), ("service", 2), ("method", 3)]) (by decide +kernel)) rfl (fun _ _ _ _ _ => (pg_tup rfl (pgs_cons (pg_name (i := 1) sc.nd rfl (by first | exact .inl rfl | exact .inr rfl)) (pgs_cons (pg_name (i := 2) sc.nd rfl (by first | exact .inl rfl | exact .inr rfl)) (pgs_cons (pg_name (i := 3) sc.nd rfl (by first | exact .inl rfl | exact .inr rfl)) pgs_nil))))) (gw_tup (gws_cons (gw_name (by decide)) (gws_cons (gw_name (by decide)) (gws_cons (gw_name (by decide)) gws_nil)))) (fun _ _ _ _ _ => (spts_one (st_cmp (op_eqP hu) pr_eq (se_var (pv 1)) se_str (nomark _)))) (fun _ _ _ _ _ => (se_tup (sa_cons (se_var (pv 2)) (sa_cons (se_var (pv 3)) sa_nil)))))))
/-! ### waited_for -/
abbrev N_10 : List Str := ["parts", "call", "found", "other", "rest"]
theorem sc_10 : FnScope N_10 ["parts", "call"] (defScope (top 27)) := ⟨rfl, rfl, rfl, by decide +kernel, rfl, by decide +kernel, by decide +kernel⟩
def b_10 (c : Nat → Fn) : SemS :=
    (sSeq (sPar 2 4 (sCons sDictT (sCons (sCall (c 9) (sCons (sCall (c 8) (sCons (sVar 0) (sCons (sVar 1) sNil))) sNil)) sNil)))
    (sSeq (whileN (sT (sB oNe (sVar 4) (sDisp mkL sNil))) (sSeq (sSet 3 (sBm mPop (sVar 4) sNil))
    (sIfS (sT (sB (oInT true) (sVar 3) (sVar 2))) (sSeq (sPutT (sVar 2) (sVar 3) (sC (.bool true)))
    (sSet 4 (sB oAddO (sVar 4) (sCall (c 9) (sCons (sCall (c 8) (sCons (sVar 0) (sCons (sVar 3) sNil))) sNil))))) sNext)) 4096)
    (sRet (sCall (cSortedA mkL) (sCons (sCall (cListB mkL) (sCons (sVar 2) sNil)) sNil)))))
set_option linter.all false in
theorem ok_10 [Wd] {P : Program} {w : World} {K : PySem.W.Frag} {mg : Str → Option Value} {base : Heap} {k : Nat} {c : Nat → Fn} (hp : P = Wd.P ∧ w = Wd.w) (F : Fx K mg) (T : Tb P w K mg base k c) {f : Addr} {cdv : Value} {A : Around} {outer : List Env} {s : Shared} {H : Hp} {E : XK} (hr : Room (k + 1) (A.deeper (envOfC "waited_for" (defScope (top 27)) s.heap.objs.size f cdv))) :
    SSs (Inn f (top 27) N_10 "waited_for" P w K mg base cdv A outer s H E) E (defBody (top 27)) (b_10 c) := by
  have hu := room64 hr
  have hr0 := hr.mono (Nat.le_succ k)
  have sc := sc_10
  exact (sss_cons (ss_par (i := 2) (j := 4) rfl sc.nd rfl rfl (by decide) (by rfl) (by rfl) (sa_cons se_dictT (sa_cons (se_call T.t9 hr0 (by rfl) (T.ar 9) (sa_cons (se_call T.t8 hr0 (by rfl) (T.ar 8) (sa_cons (se_var (pv 0)) (sa_cons (se_var (pv 1)) sa_nil))) sa_nil)) sa_nil)) (by rfl))
    (sss_cons (ss_while 4096 PassesOwn.never (st_cmp (op_neP hu) pr_ne (se_var (pv 4)) (se_lst sa_nil) (nomark _)) (sss_cons (ss_set (i := 3) sc.nd rfl (by first | exact .inl rfl | exact .inr rfl) (se_pop (se_var (pv 4))))
    (sss_one (ss_if (st_cmp (op_notInT hp hu) (pr_inT true) (se_var (pv 3)) (se_var (pv 2)) (by rfl)) (sss_cons (ss_putT hp hu (se_var (pv 2)) (se_var (pv 3)) se_bl)
    (sss_one (ss_set (i := 4) sc.nd rfl (by first | exact .inl rfl | exact .inr rfl) (se_op op_cat pr_addO (se_var (pv 4)) (se_call T.t9 hr0 (by rfl) (T.ar 9) (sa_cons (se_call T.t8 hr0 (by rfl) (T.ar 8) (sa_cons (se_var (pv 0)) (sa_cons (se_var (pv 3)) sa_nil))) sa_nil)))))) sss_nil))))
    (sss_one (ss_ret (se_callB (call_sortA rfl hu) (pr_sortA mkL_okE) (by rfl) (F.m_sorted) boot_sorted (sa_cons (se_callTy (call_listA rfl) (pr_listA mkL_okE) (by rfl) (F.m_list) boot_list (sa_cons (se_var (pv 2)) sa_nil)) sa_nil))))))
/-! ### calls_made -/
abbrev N_11 : List Str := ["parts", "call", "known", "found", "other"]
theorem sc_11 : FnScope N_11 ["parts", "call", "known"] (defScope (top 28)) := ⟨rfl, rfl, rfl, by decide +kernel, rfl, by decide +kernel, by decide +kernel⟩
def b_11 (c : Nat → Fn) : SemS :=
    (sSeq (sIfS (sT (sB (oInT true) (sVar 1) (sVar 2))) (sSeq (sSet 3 (sC (.int 0)))
    (sSeq (sFor (sItems (sFrz (sCall (c 9) (sCons (sCall (c 8) (sCons (sVar 0) (sCons (sVar 1) sNil))) sNil)))) (gN 4) (sAugI 3 (fun i j => i + j) (sB oAdd (sC (.int 1)) (sCall (c 11) (sCons (sVar 0) (sCons (sVar 4) (sCons (sVar 2) sNil)))))))
    (sPutT (sVar 2) (sVar 1) (sVar 3)))) sNext)
    (sRet (sB oIxT (sVar 2) (sVar 1))))
set_option linter.all false in
theorem ok_11 [Wd] {P : Program} {w : World} {K : PySem.W.Frag} {mg : Str → Option Value} {base : Heap} {k : Nat} {c : Nat → Fn} (hp : P = Wd.P ∧ w = Wd.w) (F : Fx K mg) (T : Tb P w K mg base k c) {f : Addr} {cdv : Value} {A : Around} {outer : List Env} {s : Shared} {H : Hp} {E : XK} (hr : Room (k + 1) (A.deeper (envOfC "calls_made" (defScope (top 28)) s.heap.objs.size f cdv))) :
    SSs (Inn f (top 28) N_11 "calls_made" P w K mg base cdv A outer s H E) E (defBody (top 28)) (b_11 c) := by
  have hu := room64 hr
  have hr0 := hr.mono (Nat.le_succ k)
  have sc := sc_11
  exact (sss_cons (ss_if (st_cmp (op_notInT hp hu) (pr_inT true) (se_var (pv 1)) (se_var (pv 2)) (by rfl)) (sss_cons (ss_set (i := 3) sc.nd rfl (by first | exact .inl rfl | exact .inr rfl) se_int)
    (sss_cons (ss_for PassesOwn.never rfl (si_seq (se_frz (se_call T.t9 hr0 (by rfl) (T.ar 9) (sa_cons (se_call T.t8 hr0 (by rfl) (T.ar 8) (sa_cons (se_var (pv 0)) (sa_cons (se_var (pv 1)) sa_nil))) sa_nil)))) (sg_name (i := 4) sc.nd rfl (by first | exact .inl rfl | exact .inr rfl)) (sss_one (ss_augI ip_add sc.nd (i := 3) rfl (by first | exact .inl rfl | exact .inr rfl) (se_op op_addP pr_add se_int (se_call T.t11 hr0 (by rfl) (T.ar 11) (sa_cons (se_var (pv 0)) (sa_cons (se_var (pv 4)) (sa_cons (se_var (pv 2)) sa_nil))))))))
    (sss_one (ss_putT hp hu (se_var (pv 2)) (se_var (pv 1)) (se_var (pv 3)))))) sss_nil)
    (sss_one (ss_ret (se_ixT hp hu (se_var (pv 2)) (se_var (pv 1))))))
/-! ### all_scripts -/
abbrev N_12 : List Str := ["parts", "starts", "name", "method"]
theorem sc_12 : FnScope N_12 ["parts"] (defScope (top 29)) := ⟨rfl, rfl, rfl, by decide +kernel, rfl, by decide +kernel, by decide +kernel⟩
def b_12 (c : Nat → Fn) : SemS :=
    (sSeq (sSet 1 (sLc (sItems (sCall (cListB mkL) (sCons (sVar 0) sNil))) (gN 2) tYesS (sDisp mkT (sCons (sVar 2) (sCons (sC .none) sNil))) [2] keepL))
    (sRet (sB oAdd (sVar 1) (sLc2 (sItems (sCall (cListB mkL) (sCons (sVar 0) sNil))) (gN 2) tYesS (sItems (sCall (cListB mkL) (sCons (sB oIx (sB oIx (sVar 0) (sVar 2)) (sC (.int 2))) sNil))) (gN 3) tYesS (sDisp mkT (sCons (sVar 2) (sCons (sVar 3) sNil))) [2, 3] [3] keepL))))
set_option linter.all false in
theorem ok_12 [Wd] {P : Program} {w : World} {K : PySem.W.Frag} {mg : Str → Option Value} {base : Heap} {k : Nat} {c : Nat → Fn} (hp : P = Wd.P ∧ w = Wd.w) (F : Fx K mg) (T : Tb P w K mg base k c) {f : Addr} {cdv : Value} {A : Around} {outer : List Env} {s : Shared} {H : Hp} {E : XK} (hr : Room (k + 1) (A.deeper (envOfC "all_scripts" (defScope (top 29)) s.heap.objs.size f cdv))) :
    SSs (Inn f (top 29) N_12 "all_scripts" P w K mg base cdv A outer s H E) E (defBody (top 29)) (b_12 c) := by
  have hu := room64 hr
  have hr0 := hr.mono (Nat.le_succ k)
  have sc := sc_12
  exact (sss_cons (set_lc_v [("name", 2)] (i := 1) keepL_ok rfl sc.nd rfl (by rfl) (by rfl) (si_seq (se_callTy (call_listA rfl) (pr_listA mkL_okE) (by rfl) (F.m_list) boot_list (sa_cons (se_var (pv 0)) sa_nil))) (blkOk_by (N := N_12) (sc := defScope (top 29)) (own := [("name", 2)]) (by decide +kernel)) rfl (fun _ _ _ _ _ => (pg_name (i := 2) sc.nd rfl (by first | exact .inl rfl | exact .inr rfl))) (gw_name (by decide)) (fun _ _ _ _ _ => spts_nil) (fun _ _ _ _ _ => (se_tup (sa_cons (se_var (pv 2)) (sa_cons se_non sa_nil)))))
    (sss_one (ss_ret (se_op op_addP pr_add (se_var (pv 1)) (lc2_v [("name", 2), ("method", 3)] keepL_ok rfl sc.nd (si_seq (se_callTy (call_listA rfl) (pr_listA mkL_okE) (by rfl) (F.m_list) boot_list (sa_cons (se_var (pv 0)) sa_nil))) (blkOk_by (N := N_12) (sc := defScope (top 29)) (own := [("name", 2), ("method", 3)]) (by decide +kernel)) rfl (by decide) (fun _ _ _ _ _ => (pg_name (i := 2) sc.nd rfl (by first | exact .inl rfl | exact .inr rfl))) (gw_name (by decide)) (fun _ _ _ _ _ => spts_nil) (fun _ _ _ _ _ => (si_seq (se_callTy (call_listA rfl) (pr_listA mkL_okE) (by rfl) (F.m_list) boot_list (sa_cons (se_ix hu (se_ix hu (se_var (pv 0)) (se_var (pv 2))) se_int) sa_nil)))) (fun _ _ _ _ _ => (pg_name (i := 3) sc.nd rfl (by first | exact .inl rfl | exact .inr rfl))) (gw_name (by decide)) (fun _ _ _ _ _ => spts_nil) (fun _ _ _ _ _ => (se_tup (sa_cons (se_var (pv 2)) (sa_cons (se_var (pv 3)) sa_nil)))))))))
/-! ### needs_in -/
abbrev N_13 : List Str := ["parts", "waited", "name", "found", "method", "call"]
theorem sc_13 : FnScope N_13 ["parts", "waited", "name"] (defScope (top 30)) := ⟨rfl, rfl, rfl, by decide +kernel, rfl, by decide +kernel, by decide +kernel⟩
def b_13 (c : Nat → Fn) : SemS :=
    (sSeq (sSet 3 (sLc (sItems (sB oIxT (sVar 1) (sDisp mkT (sCons (sVar 2) (sCons (sC .none) sNil))))) (gN 5) tYesS (sB oIx (sVar 5) (sC (.int 0))) [5] keepL))
    (sSeq (sIfS (sT (sB oNotN (sB oIx (sB oIx (sVar 0) (sVar 2)) (sC (.int 0))) (sC .none))) (sFor (sItems (sCall (cListB mkL) (sCons (sB oIx (sB oIx (sVar 0) (sVar 2)) (sC (.int 2))) sNil))) (gN 4) (sSet 3 (sB oAdd (sVar 3) (sLc (sItems (sB oIxT (sVar 1) (sDisp mkT (sCons (sVar 2) (sCons (sVar 4) sNil))))) (gN 5) tYesS (sB oIx (sVar 5) (sC (.int 0))) [5] keepL)))) sNext)
    (sRet (sSortSet mkL (sVar 3)))))
set_option linter.all false in
theorem ok_13 [Wd] {P : Program} {w : World} {K : PySem.W.Frag} {mg : Str → Option Value} {base : Heap} {k : Nat} {c : Nat → Fn} (hp : P = Wd.P ∧ w = Wd.w) (F : Fx K mg) (T : Tb P w K mg base k c) {f : Addr} {cdv : Value} {A : Around} {outer : List Env} {s : Shared} {H : Hp} {E : XK} (hr : Room (k + 1) (A.deeper (envOfC "needs_in" (defScope (top 30)) s.heap.objs.size f cdv))) :
    SSs (Inn f (top 30) N_13 "needs_in" P w K mg base cdv A outer s H E) E (defBody (top 30)) (b_13 c) := by
  have hu := room64 hr
  have hr0 := hr.mono (Nat.le_succ k)
  have sc := sc_13
  exact (sss_cons (set_lc_v [("call", 5)] (i := 3) keepL_ok rfl sc.nd rfl (by rfl) (by rfl) (si_seq (se_ixT hp hu (se_var (pv 1)) (se_tup (sa_cons (se_var (pv 2)) (sa_cons se_non sa_nil))))) (blkOk_by (N := N_13) (sc := defScope (top 30)) (own := [("call", 5)]) (by decide +kernel)) rfl (fun _ _ _ _ _ => (pg_name (i := 5) sc.nd rfl (by first | exact .inl rfl | exact .inr rfl))) (gw_name (by decide)) (fun _ _ _ _ _ => spts_nil) (fun _ _ _ _ _ => (se_ix hu (se_var (pv 5)) se_int)))
    (sss_cons (ss_if (st_cmp op_notN pr_notN (se_ix hu (se_ix hu (se_var (pv 0)) (se_var (pv 2))) se_int) se_non (nomark _)) (sss_one (ss_for PassesOwn.never rfl (si_seq (se_callTy (call_listA rfl) (pr_listA mkL_okE) (by rfl) (F.m_list) boot_list (sa_cons (se_ix hu (se_ix hu (se_var (pv 0)) (se_var (pv 2))) se_int) sa_nil))) (sg_name (i := 4) sc.nd rfl (by first | exact .inl rfl | exact .inr rfl)) (sss_one (ss_set (i := 3) sc.nd rfl (by first | exact .inl rfl | exact .inr rfl) (se_op op_addP pr_add (se_var (pv 3)) (lc_v [("call", 5)] keepL_ok rfl sc.nd (si_seq (se_ixT hp hu (se_var (pv 1)) (se_tup (sa_cons (se_var (pv 2)) (sa_cons (se_var (pv 4)) sa_nil))))) (blkOk_by (N := N_13) (sc := defScope (top 30)) (own := [("call", 5)]) (by decide +kernel)) rfl (fun _ _ _ _ _ => (pg_name (i := 5) sc.nd rfl (by first | exact .inl rfl | exact .inr rfl))) (gw_name (by decide)) (fun _ _ _ _ _ => spts_nil) (fun _ _ _ _ _ => (se_ix hu (se_var (pv 5)) se_int)))))))) sss_nil)
    (sss_one (ss_ret (se_sortSet mkL_okE rfl hu (by rfl) (F.m_sorted) (by rfl) (F.m_set) (se_var (pv 3)))))))
/-! ### waits -/
abbrev N_14 : List Str := ["house", "service", "method"]
theorem sc_14 : FnScope N_14 ["house", "service", "method"] (defScope (top 33)) := ⟨rfl, rfl, rfl, by decide +kernel, rfl, by decide +kernel, by decide +kernel⟩
def b_14 (c : Nat → Fn) : SemS :=
    (sSeq (sDo (sMeth "House" "need_script" (c 46) (sVar 0) (sCons (sVar 1) (sCons (sVar 2) sNil))))
    (sRet (sCall (cListB mkL) (sCons (sB oIxT (sFldG "House" "waited" (sVar 0)) (sDisp mkT (sCons (sVar 1) (sCons (sVar 2) sNil)))) sNil))))
set_option linter.all false in
theorem ok_14 [Wd] {P : Program} {w : World} {K : PySem.W.Frag} {mg : Str → Option Value} {base : Heap} {k : Nat} {c : Nat → Fn} (hp : P = Wd.P ∧ w = Wd.w) (F : Fx K mg) (T : Tb P w K mg base k c) {f : Addr} {cdv : Value} {A : Around} {outer : List Env} {s : Shared} {H : Hp} {E : XK} (hr : Room (k + 1) (A.deeper (envOfC "waits" (defScope (top 33)) s.heap.objs.size f cdv))) :
    SSs (Inn f (top 33) N_14 "waits" P w K mg base cdv A outer s H E) E (defBody (top 33)) (b_14 c) := by
  have hu := room64 hr
  have hr0 := hr.mono (Nat.le_succ k)
  have sc := sc_14
  obtain ⟨C, hC, cl, n_names, n_parts, n_waited, n_wanted⟩ := F.house
  exact (sss_cons (ss_expr (se_meth T.t46 hr0 (T.ar 46) (se_var (pv 0)) (sa_cons (se_var (pv 1)) (sa_cons (se_var (pv 2)) sa_nil))))
    (sss_one (ss_ret (se_callTy (call_listA rfl) (pr_listA mkL_okE) (by rfl) (F.m_list) boot_list (sa_cons (se_ixT hp hu (se_fld (se_var (pv 0)) hC cl n_waited) (se_tup (sa_cons (se_var (pv 1)) (sa_cons (se_var (pv 2)) sa_nil)))) sa_nil)))))
/-! ### services_of -/
abbrev N_15 : List Str := ["calls", "call"]
theorem sc_15 : FnScope N_15 ["calls"] (defScope (top 34)) := ⟨rfl, rfl, rfl, by decide +kernel, rfl, by decide +kernel, by decide +kernel⟩
def b_15 (c : Nat → Fn) : SemS :=
    (sRet (sSortSet mkL (sLc (sItems (sVar 0)) (gN 1) tYesS (sB oIx (sVar 1) (sC (.int 0))) [1] keepL)))
set_option linter.all false in
theorem ok_15 [Wd] {P : Program} {w : World} {K : PySem.W.Frag} {mg : Str → Option Value} {base : Heap} {k : Nat} {c : Nat → Fn} (hp : P = Wd.P ∧ w = Wd.w) (F : Fx K mg) (T : Tb P w K mg base k c) {f : Addr} {cdv : Value} {A : Around} {outer : List Env} {s : Shared} {H : Hp} {E : XK} (hr : Room (k + 1) (A.deeper (envOfC "services_of" (defScope (top 34)) s.heap.objs.size f cdv))) :
    SSs (Inn f (top 34) N_15 "services_of" P w K mg base cdv A outer s H E) E (defBody (top 34)) (b_15 c) := by
  have hu := room64 hr
  have hr0 := hr.mono (Nat.le_succ k)
  have sc := sc_15
  exact (sss_one (ss_ret (se_sortSet mkL_okE rfl hu (by rfl) (F.m_sorted) (by rfl) (F.m_set) (lc_v [("call", 1)] keepL_ok rfl sc.nd (si_seq (se_var (pv 0))) (blkOk_by (N := N_15) (sc := defScope (top 34)) (own := [("call", 1)]) (by decide +kernel)) rfl (fun _ _ _ _ _ => (pg_name (i := 1) sc.nd rfl (by first | exact .inl rfl | exact .inr rfl))) (gw_name (by decide)) (fun _ _ _ _ _ => spts_nil) (fun _ _ _ _ _ => (se_ix hu (se_var (pv 1)) se_int))))))
/-! ### reach -/
abbrev N_16 : List Str := ["house", "service", "method"]
theorem sc_16 : FnScope N_16 ["house", "service", "method"] (defScope (top 35)) := ⟨rfl, rfl, rfl, by decide +kernel, rfl, by decide +kernel, by decide +kernel⟩
def b_16 (c : Nat → Fn) : SemS :=
    (sRet (sCall (c 15) (sCons (sCall (c 14) (sCons (sVar 0) (sCons (sVar 1) (sCons (sVar 2) sNil)))) sNil)))
set_option linter.all false in
theorem ok_16 [Wd] {P : Program} {w : World} {K : PySem.W.Frag} {mg : Str → Option Value} {base : Heap} {k : Nat} {c : Nat → Fn} (hp : P = Wd.P ∧ w = Wd.w) (F : Fx K mg) (T : Tb P w K mg base k c) {f : Addr} {cdv : Value} {A : Around} {outer : List Env} {s : Shared} {H : Hp} {E : XK} (hr : Room (k + 1) (A.deeper (envOfC "reach" (defScope (top 35)) s.heap.objs.size f cdv))) :
    SSs (Inn f (top 35) N_16 "reach" P w K mg base cdv A outer s H E) E (defBody (top 35)) (b_16 c) := by
  have hu := room64 hr
  have hr0 := hr.mono (Nat.le_succ k)
  have sc := sc_16
  exact (sss_one (ss_ret (se_call T.t15 hr0 (by rfl) (T.ar 15) (sa_cons (se_call T.t14 hr0 (by rfl) (T.ar 14) (sa_cons (se_var (pv 0)) (sa_cons (se_var (pv 1)) (sa_cons (se_var (pv 2)) sa_nil)))) sa_nil))))
/-! ### are_services -/
abbrev N_17 : List Str := ["house", "obj", "name"]
theorem sc_17 : FnScope N_17 ["house", "obj"] (defScope (top 37)) := ⟨rfl, rfl, rfl, by decide +kernel, rfl, by decide +kernel, by decide +kernel⟩
def b_17 (c : Nat → Fn) : SemS :=
    (sSeq (sIfS (sNot (sT (sIsi (fun d => isD "list" d || isD "tuple" d) (sVar 1)))) (sRet (sC (.bool false))) sNext)
    (sSeq (sIfS (sNot (sT (sCall (cAll fun bs => bs.all id) (sCons (sLc (sItems (sVar 1)) (gN 2) tYesS (sAndV (sIsi (isD "str") (sVar 2)) (sB (oIn false) (sVar 2) (sFldG "House" "parts" (sVar 0)))) [2] keepL) sNil)))) (sRet (sC (.bool false))) sNext)
    (sRet (sB oEq (sLenSet (sVar 1)) (sCall cLen (sCons (sVar 1) sNil))))))
set_option linter.all false in
theorem ok_17 [Wd] {P : Program} {w : World} {K : PySem.W.Frag} {mg : Str → Option Value} {base : Heap} {k : Nat} {c : Nat → Fn} (hp : P = Wd.P ∧ w = Wd.w) (F : Fx K mg) (T : Tb P w K mg base k c) {f : Addr} {cdv : Value} {A : Around} {outer : List Env} {s : Shared} {H : Hp} {E : XK} (hr : Room (k + 1) (A.deeper (envOfC "are_services" (defScope (top 37)) s.heap.objs.size f cdv))) :
    SSs (Inn f (top 37) N_17 "are_services" P w K mg base cdv A outer s H E) E (defBody (top 37)) (b_17 c) := by
  have hu := room64 hr
  have hr0 := hr.mono (Nat.le_succ k)
  have sc := sc_17
  obtain ⟨C, hC, cl, n_names, n_parts, n_waited, n_wanted⟩ := F.house
  exact (sss_cons (ss_if (st_not (st_val (se_isi2 kn_list kn_tuple (se_var (pv 1)) (by rfl) (F.m_isinstance) (by rfl) (F.m_list) boot_list (by rfl) (F.m_tuple) boot_tuple))) (sss_one (ss_ret se_bl)) sss_nil)
    (sss_cons (ss_if (st_not (st_val (se_callB (cr_all rfl) (pr_all _) (by rfl) (F.m_all) boot_all (sa_cons (lc_v [("name", 2)] keepL_ok rfl sc.nd (si_seq (se_var (pv 1))) (blkOk_by (N := N_17) (sc := defScope (top 37)) (own := [("name", 2)]) (by decide +kernel)) rfl (fun _ _ _ _ _ => (pg_name (i := 2) sc.nd rfl (by first | exact .inl rfl | exact .inr rfl))) (gw_name (by decide)) (fun _ _ _ _ _ => spts_nil) (fun _ _ _ _ _ => (se_and (se_isi kn_str (se_var (pv 2)) (by rfl) (F.m_isinstance) (by rfl) (F.m_str) boot_str) (se_one (se_cmp (op_inA hu) (pr_in false) (se_var (pv 2)) (se_fld (se_var (pv 0)) hC cl n_parts) (by rfl)))))) sa_nil)))) (sss_one (ss_ret se_bl)) sss_nil)
    (sss_one (ss_ret (se_cmp (op_eqP hu) pr_eq (se_lenSet rfl (by rfl) (F.m_len) (by rfl) (F.m_set) (se_var (pv 1))) (se_callB call_lenD2 pr_len (by rfl) (F.m_len) boot_len (sa_cons (se_var (pv 1)) sa_nil)) (nomark _))))))
/-! ### needs_one -/
abbrev N_18 : List Str := ["table", "name", "some", "other"]
theorem sc_18 : FnScope N_18 ["table", "name", "some"] (defScope (top 38)) := ⟨rfl, rfl, rfl, by decide +kernel, rfl, by decide +kernel, by decide +kernel⟩
def b_18 (c : Nat → Fn) : SemS :=
    (sRet (sCall (cAll fun bs => bs.any id) (sCons (sLc (sItems (sB oIx (sVar 0) (sVar 1))) (gN 3) tYesS (sB (oIn false) (sVar 3) (sVar 2)) [3] keepL) sNil)))
set_option linter.all false in
theorem ok_18 [Wd] {P : Program} {w : World} {K : PySem.W.Frag} {mg : Str → Option Value} {base : Heap} {k : Nat} {c : Nat → Fn} (hp : P = Wd.P ∧ w = Wd.w) (F : Fx K mg) (T : Tb P w K mg base k c) {f : Addr} {cdv : Value} {A : Around} {outer : List Env} {s : Shared} {H : Hp} {E : XK} (hr : Room (k + 1) (A.deeper (envOfC "needs_one" (defScope (top 38)) s.heap.objs.size f cdv))) :
    SSs (Inn f (top 38) N_18 "needs_one" P w K mg base cdv A outer s H E) E (defBody (top 38)) (b_18 c) := by
  have hu := room64 hr
  have hr0 := hr.mono (Nat.le_succ k)
  have sc := sc_18
  exact (sss_one (ss_ret (se_callB (cr_any rfl) (pr_all _) (by rfl) (F.m_any) boot_any (sa_cons (lc_v [("other", 3)] keepL_ok rfl sc.nd (si_seq (se_ix hu (se_var (pv 0)) (se_var (pv 1)))) (blkOk_by (N := N_18) (sc := defScope (top 38)) (own := [("other", 3)]) (by decide +kernel)) rfl (fun _ _ _ _ _ => (pg_name (i := 3) sc.nd rfl (by first | exact .inl rfl | exact .inr rfl))) (gw_name (by decide)) (fun _ _ _ _ _ => spts_nil) (fun _ _ _ _ _ => (se_cmp (op_inA hu) (pr_in false) (se_var (pv 3)) (se_var (pv 2)) (by rfl)))) sa_nil))))
/-! ### needs_table -/
abbrev N_19 : List Str := ["house", "name"]
theorem sc_19 : FnScope N_19 ["house"] (defScope (top 39)) := ⟨rfl, rfl, rfl, by decide +kernel, rfl, by decide +kernel, by decide +kernel⟩
def b_19 (c : Nat → Fn) : SemS :=
    (sRet (sDc dputK (sItems (sFldG "House" "names" (sVar 0))) (gN 1) tYesS (sVar 1) (sB oIx (sFldG "House" "wanted" (sVar 0)) (sVar 1)) [1] keepDO))
set_option linter.all false in
theorem ok_19 [Wd] {P : Program} {w : World} {K : PySem.W.Frag} {mg : Str → Option Value} {base : Heap} {k : Nat} {c : Nat → Fn} (hp : P = Wd.P ∧ w = Wd.w) (F : Fx K mg) (T : Tb P w K mg base k c) {f : Addr} {cdv : Value} {A : Around} {outer : List Env} {s : Shared} {H : Hp} {E : XK} (hr : Room (k + 1) (A.deeper (envOfC "needs_table" (defScope (top 39)) s.heap.objs.size f cdv))) :
    SSs (Inn f (top 39) N_19 "needs_table" P w K mg base cdv A outer s H E) E (defBody (top 39)) (b_19 c) := by
  have hu := room64 hr
  have hr0 := hr.mono (Nat.le_succ k)
  have sc := sc_19
  obtain ⟨C, hC, cl, n_names, n_parts, n_waited, n_wanted⟩ := F.house
  exact (sss_one (ss_ret (dcK_v [("name", 1)] rfl sc.nd (si_seq (se_fld (se_var (pv 0)) hC cl n_names)) (blkOk_by (N := N_19) (sc := defScope (top 39)) (own := [("name", 1)]) (by decide +kernel)) rfl (fun _ _ _ _ _ => (pg_name (i := 1) sc.nd rfl (by first | exact .inl rfl | exact .inr rfl))) (gw_name (by decide)) (fun _ _ _ _ _ => spts_nil) (fun _ _ _ _ _ => (se_var (pv 1))) (fun _ _ _ _ _ => (se_ix hu (se_fld (se_var (pv 0)) hC cl n_wanted) (se_var (pv 1)))))))
/-! ### is_closed_by -/
abbrev N_20 : List Str := ["table", "some", "name"]
theorem sc_20 : FnScope N_20 ["table", "some"] (defScope (top 40)) := ⟨rfl, rfl, rfl, by decide +kernel, rfl, by decide +kernel, by decide +kernel⟩
def b_20 (c : Nat → Fn) : SemS :=
    (sRet (sCall (cAll fun bs => bs.all id) (sCons (sLc (sItems (sVar 1)) (gN 2) tYesS (sCall (c 18) (sCons (sVar 0) (sCons (sVar 2) (sCons (sVar 1) sNil)))) [2] keepL) sNil)))
set_option linter.all false in
theorem ok_20 [Wd] {P : Program} {w : World} {K : PySem.W.Frag} {mg : Str → Option Value} {base : Heap} {k : Nat} {c : Nat → Fn} (hp : P = Wd.P ∧ w = Wd.w) (F : Fx K mg) (T : Tb P w K mg base k c) {f : Addr} {cdv : Value} {A : Around} {outer : List Env} {s : Shared} {H : Hp} {E : XK} (hr : Room (k + 1) (A.deeper (envOfC "is_closed_by" (defScope (top 40)) s.heap.objs.size f cdv))) :
    SSs (Inn f (top 40) N_20 "is_closed_by" P w K mg base cdv A outer s H E) E (defBody (top 40)) (b_20 c) := by
  have hu := room64 hr
  have hr0 := hr.mono (Nat.le_succ k)
  have sc := sc_20
  exact (sss_one (ss_ret (se_callB (cr_all rfl) (pr_all _) (by rfl) (F.m_all) boot_all (sa_cons (lc_v [("name", 2)] keepL_ok rfl sc.nd (si_seq (se_var (pv 1))) (blkOk_by (N := N_20) (sc := defScope (top 40)) (own := [("name", 2)]) (by decide +kernel)) rfl (fun _ _ _ _ _ => (pg_name (i := 2) sc.nd rfl (by first | exact .inl rfl | exact .inr rfl))) (gw_name (by decide)) (fun _ _ _ _ _ => spts_nil) (fun _ _ _ _ _ => (se_call T.t18 hr0 (by rfl) (T.ar 18) (sa_cons (se_var (pv 0)) (sa_cons (se_var (pv 2)) (sa_cons (se_var (pv 1)) sa_nil)))))) sa_nil))))
/-! ### greatest_closed -/
abbrev N_21 : List Str := ["table", "found", "name"]
theorem sc_21 : FnScope N_21 ["table"] (defScope (top 41)) := ⟨rfl, rfl, rfl, by decide +kernel, rfl, by decide +kernel, by decide +kernel⟩
def b_21 (c : Nat → Fn) : SemS :=
    (sSeq (sSet 1 (sCall (cSortedA mkL) (sCons (sCall (cListB mkL) (sCons (sVar 0) sNil)) sNil)))
    (sSeq (whileN (sNot (sT (sCall (c 20) (sCons (sVar 0) (sCons (sVar 1) sNil))))) (sSet 1 (sLc (sItems (sVar 1)) (gN 2) (sT (sCall (c 18) (sCons (sVar 0) (sCons (sVar 2) (sCons (sVar 1) sNil))))) (sVar 2) [2] keepL)) 4096)
    (sRet (sVar 1))))
set_option linter.all false in
theorem ok_21 [Wd] {P : Program} {w : World} {K : PySem.W.Frag} {mg : Str → Option Value} {base : Heap} {k : Nat} {c : Nat → Fn} (hp : P = Wd.P ∧ w = Wd.w) (F : Fx K mg) (T : Tb P w K mg base k c) {f : Addr} {cdv : Value} {A : Around} {outer : List Env} {s : Shared} {H : Hp} {E : XK} (hr : Room (k + 1) (A.deeper (envOfC "greatest_closed" (defScope (top 41)) s.heap.objs.size f cdv))) :
    SSs (Inn f (top 41) N_21 "greatest_closed" P w K mg base cdv A outer s H E) E (defBody (top 41)) (b_21 c) := by
  have hu := room64 hr
  have hr0 := hr.mono (Nat.le_succ k)
  have sc := sc_21
  exact (sss_cons (ss_set (i := 1) sc.nd rfl (by first | exact .inl rfl | exact .inr rfl) (se_callB (call_sortA rfl hu) (pr_sortA mkL_okE) (by rfl) (F.m_sorted) boot_sorted (sa_cons (se_callTy (call_listA rfl) (pr_listA mkL_okE) (by rfl) (F.m_list) boot_list (sa_cons (se_var (pv 0)) sa_nil)) sa_nil)))
    (sss_cons (ss_while 4096 PassesOwn.never (st_not (st_val (se_call T.t20 hr0 (by rfl) (T.ar 20) (sa_cons (se_var (pv 0)) (sa_cons (se_var (pv 1)) sa_nil))))) (sss_one (ss_set (i := 1) sc.nd rfl (by first | exact .inl rfl | exact .inr rfl) (lc_v [("name", 2)] keepL_ok rfl sc.nd (si_seq (se_var (pv 1))) (blkOk_by (N := N_21) (sc := defScope (top 41)) (own := [("name", 2)]) (by decide +kernel)) rfl (fun _ _ _ _ _ => (pg_name (i := 2) sc.nd rfl (by first | exact .inl rfl | exact .inr rfl))) (gw_name (by decide)) (fun _ _ _ _ _ => (spts_one (st_val (se_call T.t18 hr0 (by rfl) (T.ar 18) (sa_cons (se_var (pv 0)) (sa_cons (se_var (pv 2)) (sa_cons (se_var (pv 1)) sa_nil))))))) (fun _ _ _ _ _ => (se_var (pv 2)))))))
    (sss_one (ss_ret (se_var (pv 1))))))
/-! ### starts_table -/
abbrev N_22 : List Str := ["house", "name"]
theorem sc_22 : FnScope N_22 ["house"] (defScope (top 43)) := ⟨rfl, rfl, rfl, by decide +kernel, rfl, by decide +kernel, by decide +kernel⟩
def b_22 (c : Nat → Fn) : SemS :=
    (sRet (sDc dputK (sItems (sFldG "House" "names" (sVar 0))) (gN 1) tYesS (sVar 1) (sCall (c 16) (sCons (sVar 0) (sCons (sVar 1) (sCons (sC .none) sNil)))) [1] keepDO))
set_option linter.all false in
theorem ok_22 [Wd] {P : Program} {w : World} {K : PySem.W.Frag} {mg : Str → Option Value} {base : Heap} {k : Nat} {c : Nat → Fn} (hp : P = Wd.P ∧ w = Wd.w) (F : Fx K mg) (T : Tb P w K mg base k c) {f : Addr} {cdv : Value} {A : Around} {outer : List Env} {s : Shared} {H : Hp} {E : XK} (hr : Room (k + 1) (A.deeper (envOfC "starts_table" (defScope (top 43)) s.heap.objs.size f cdv))) :
    SSs (Inn f (top 43) N_22 "starts_table" P w K mg base cdv A outer s H E) E (defBody (top 43)) (b_22 c) := by
  have hu := room64 hr
  have hr0 := hr.mono (Nat.le_succ k)
  have sc := sc_22
  obtain ⟨C, hC, cl, n_names, n_parts, n_waited, n_wanted⟩ := F.house
  exact (sss_one (ss_ret (dcK_v [("name", 1)] rfl sc.nd (si_seq (se_fld (se_var (pv 0)) hC cl n_names)) (blkOk_by (N := N_22) (sc := defScope (top 43)) (own := [("name", 1)]) (by decide +kernel)) rfl (fun _ _ _ _ _ => (pg_name (i := 1) sc.nd rfl (by first | exact .inl rfl | exact .inr rfl))) (gw_name (by decide)) (fun _ _ _ _ _ => spts_nil) (fun _ _ _ _ _ => (se_var (pv 1))) (fun _ _ _ _ _ => (se_call T.t16 hr0 (by rfl) (T.ar 16) (sa_cons (se_var (pv 0)) (sa_cons (se_var (pv 1)) (sa_cons se_non sa_nil))))))))
/-! ### is_freed_by -/
abbrev N_23 : List Str := ["table", "starts", "some", "name"]
theorem sc_23 : FnScope N_23 ["table", "starts", "some"] (defScope (top 44)) := ⟨rfl, rfl, rfl, by decide +kernel, rfl, by decide +kernel, by decide +kernel⟩
def b_23 (c : Nat → Fn) : SemS :=
    (sRet (sB oEq (sCall (c 21) (sCons (sDc dputK (sItems (sCall (cListB mkL) (sCons (sVar 0) sNil))) (gN 3) tYesS (sVar 3) (sIf (sT (sB (oIn false) (sVar 3) (sVar 2))) (sB oIx (sVar 1) (sVar 3)) (sB oIx (sVar 0) (sVar 3))) [3] keepDO) sNil)) (sDisp mkL sNil)))
set_option linter.all false in
theorem ok_23 [Wd] {P : Program} {w : World} {K : PySem.W.Frag} {mg : Str → Option Value} {base : Heap} {k : Nat} {c : Nat → Fn} (hp : P = Wd.P ∧ w = Wd.w) (F : Fx K mg) (T : Tb P w K mg base k c) {f : Addr} {cdv : Value} {A : Around} {outer : List Env} {s : Shared} {H : Hp} {E : XK} (hr : Room (k + 1) (A.deeper (envOfC "is_freed_by" (defScope (top 44)) s.heap.objs.size f cdv))) :
    SSs (Inn f (top 44) N_23 "is_freed_by" P w K mg base cdv A outer s H E) E (defBody (top 44)) (b_23 c) := by
  have hu := room64 hr
  have hr0 := hr.mono (Nat.le_succ k)
  have sc := sc_23
  exact (sss_one (ss_ret (se_cmp (op_eqP hu) pr_eq (se_call T.t21 hr0 (by rfl) (T.ar 21) (sa_cons (dcK_v [("name", 3)] rfl sc.nd (si_seq (se_callTy (call_listA rfl) (pr_listA mkL_okE) (by rfl) (F.m_list) boot_list (sa_cons (se_var (pv 0)) sa_nil))) (blkOk_by (N := N_23) (sc := defScope (top 44)) (own := [("name", 3)]) (by decide +kernel)) rfl (fun _ _ _ _ _ => (pg_name (i := 3) sc.nd rfl (by first | exact .inl rfl | exact .inr rfl))) (gw_name (by decide)) (fun _ _ _ _ _ => spts_nil) (fun _ _ _ _ _ => (se_var (pv 3))) (fun _ _ _ _ _ => (se_ifexp (st_cmp (op_inA hu) (pr_in false) (se_var (pv 3)) (se_var (pv 2)) (by rfl)) (se_ix hu (se_var (pv 1)) (se_var (pv 3))) (se_ix hu (se_var (pv 0)) (se_var (pv 3)))))) sa_nil)) (se_lst sa_nil) (nomark _))))
/-! ### is_cure -/
abbrev N_24 : List Str := ["house", "services"]
theorem sc_24 : FnScope N_24 ["house", "services"] (defScope (top 45)) := ⟨rfl, rfl, rfl, by decide +kernel, rfl, by decide +kernel, by decide +kernel⟩
def b_24 (c : Nat → Fn) : SemS :=
    (sRet (sAndV (sCall (c 17) (sCons (sVar 0) (sCons (sVar 1) sNil))) (sCall (c 23) (sCons (sCall (c 19) (sCons (sVar 0) sNil)) (sCons (sCall (c 22) (sCons (sVar 0) sNil)) (sCons (sVar 1) sNil))))))
set_option linter.all false in
theorem ok_24 [Wd] {P : Program} {w : World} {K : PySem.W.Frag} {mg : Str → Option Value} {base : Heap} {k : Nat} {c : Nat → Fn} (hp : P = Wd.P ∧ w = Wd.w) (F : Fx K mg) (T : Tb P w K mg base k c) {f : Addr} {cdv : Value} {A : Around} {outer : List Env} {s : Shared} {H : Hp} {E : XK} (hr : Room (k + 1) (A.deeper (envOfC "is_cure" (defScope (top 45)) s.heap.objs.size f cdv))) :
    SSs (Inn f (top 45) N_24 "is_cure" P w K mg base cdv A outer s H E) E (defBody (top 45)) (b_24 c) := by
  have hu := room64 hr
  have hr0 := hr.mono (Nat.le_succ k)
  have sc := sc_24
  exact (sss_one (ss_ret (se_and (se_call T.t17 hr0 (by rfl) (T.ar 17) (sa_cons (se_var (pv 0)) (sa_cons (se_var (pv 1)) sa_nil))) (se_one (se_call T.t23 hr0 (by rfl) (T.ar 23) (sa_cons (se_call T.t19 hr0 (by rfl) (T.ar 19) (sa_cons (se_var (pv 0)) sa_nil)) (sa_cons (se_call T.t22 hr0 (by rfl) (T.ar 22) (sa_cons (se_var (pv 0)) sa_nil)) (sa_cons (se_var (pv 1)) sa_nil))))))))
/-! ### _law_begun -/
abbrev N_25 : List Str := ["_law_script_here", "_law_wide", "_law_cell"]
theorem sc_25 : FnScope N_25 ["_law_script_here"] (defScope (top 47)) := ⟨rfl, rfl, rfl, by decide +kernel, rfl, by decide +kernel, by decide +kernel⟩
def b_25 (c : Nat → Fn) : SemS :=
    (sSeq (sSet 1 (sLc (sItems (sVar 0)) (gN 2) (sT (sB oGe (sVar 2) (sB oPow (sC (.int 10)) (sC (.int 18))))) (sB oSub (sVar 2) (sB oPow (sC (.int 10)) (sC (.int 18)))) [2] keepO))
    (sRet (sRcd ["great", "cells", "rest", "turn"] (sCons (sVar 1) (sCons (sCall (cListB mkL) (sCons (sVar 0) sNil)) (sCons (sC (.int 0)) (sCons (sC (.int 0)) sNil)))))))
set_option linter.all false in
theorem ok_25 [Wd] {P : Program} {w : World} {K : PySem.W.Frag} {mg : Str → Option Value} {base : Heap} {k : Nat} {c : Nat → Fn} (hp : P = Wd.P ∧ w = Wd.w) (F : Fx K mg) (T : Tb P w K mg base k c) {f : Addr} {cdv : Value} {A : Around} {outer : List Env} {s : Shared} {H : Hp} {E : XK} (hr : Room (k + 1) (A.deeper (envOfC "_law_begun" (defScope (top 47)) s.heap.objs.size f cdv))) :
    SSs (Inn f (top 47) N_25 "_law_begun" P w K mg base cdv A outer s H E) E (defBody (top 47)) (b_25 c) := by
  have hu := room64 hr
  have hr0 := hr.mono (Nat.le_succ k)
  have sc := sc_25
  exact (sss_cons (set_lc_v [("_law_cell", 2)] (i := 1) keepO_ok rfl sc.nd rfl (by rfl) (by rfl) (si_seq (se_var (pv 0))) (blkOk_by (N := N_25) (sc := defScope (top 47)) (own := [("_law_cell", 2)]) (by decide +kernel)) rfl (fun _ _ _ _ _ => (pg_name (i := 2) sc.nd rfl (by first | exact .inl rfl | exact .inr rfl))) (gw_name (by decide)) (fun _ _ _ _ _ => (spts_one (st_cmp op_ge (pr_cI _) (se_var (pv 2)) (se_op op_pow pr_pow se_int se_int) (nomark _)))) (fun _ _ _ _ _ => (se_op op_sub pr_sub (se_var (pv 2)) (se_op op_pow pr_pow se_int se_int))))
    (sss_one (ss_ret (se_rcd (sps_cons (se_var (pv 1)) (sps_cons (se_callTy (call_listA rfl) (pr_listA mkL_okE) (by rfl) (F.m_list) boot_list (sa_cons (se_var (pv 0)) sa_nil)) (sps_cons se_int (sps_cons se_int sps_nil)))) rfl rfl (by simp) (by decide) (by decide)))))
/-! ### _law_mixed -/
abbrev N_26 : List Str := ["_law_state", "_law_blend", "_law_cell", "_law_found", "_law_prime", "_law_turn"]
theorem sc_26 : FnScope N_26 ["_law_state"] (defScope (top 48)) := ⟨rfl, rfl, rfl, by decide +kernel, rfl, by decide +kernel, by decide +kernel⟩
def b_26 (c : Nat → Fn) : SemS :=
    (sSeq (sSet 5 (sB oAdd (sB oIx (sVar 0) (sC (.str "turn"))) (sC (.int 1))))
    (sSeq (sPut (sVar 0) (sC (.str "turn")) (sVar 5))
    (sSeq (sSet 3 (sC (.int 0)))
    (sSeq (sFor (sItems (sDisp mkL (sCons (sC (.int 2147483629)) (sCons (sC (.int 2147483587)) (sCons (sC (.int 2147483579)) (sCons (sC (.int 2147483563)) (sCons (sC (.int 2147483549)) (sCons (sC (.int 2147483543)) sNil)))))))) (gN 4) (sSeq (sSet 1 (sB oAdd (sB oMul (sC (.int 130363)) (sVar 5)) (sB oDiv (sVar 4) (sC (.int 13)))))
    (sSeq (sFor (sItems (sB oIx (sVar 0) (sC (.str "cells")))) (gN 2) (sSet 1 (sB oMod (sCall cInt (sCons (sB oAdd (sB oMul (sVar 1) (sC (.int 48271))) (sVar 2)) sNil)) (sVar 4))))
    (sSet 3 (sB oAdd (sB oMul (sVar 3) (sC (.int 2147483647))) (sB oMod (sCall cInt (sCons (sB oPow (sVar 1) (sC (.int 5))) sNil)) (sVar 4)))))))
    (sRet (sVar 3))))))
set_option linter.all false in
theorem ok_26 [Wd] {P : Program} {w : World} {K : PySem.W.Frag} {mg : Str → Option Value} {base : Heap} {k : Nat} {c : Nat → Fn} (hp : P = Wd.P ∧ w = Wd.w) (F : Fx K mg) (T : Tb P w K mg base k c) {f : Addr} {cdv : Value} {A : Around} {outer : List Env} {s : Shared} {H : Hp} {E : XK} (hr : Room (k + 1) (A.deeper (envOfC "_law_mixed" (defScope (top 48)) s.heap.objs.size f cdv))) :
    SSs (Inn f (top 48) N_26 "_law_mixed" P w K mg base cdv A outer s H E) E (defBody (top 48)) (b_26 c) := by
  have hu := room64 hr
  have hr0 := hr.mono (Nat.le_succ k)
  have sc := sc_26
  exact (sss_cons (ss_set (i := 5) sc.nd rfl (by first | exact .inl rfl | exact .inr rfl) (se_op op_addP pr_add (se_ix hu (se_var (pv 0)) se_str) se_int))
    (sss_cons (ss_put hu (se_var (pv 0)) se_str (se_var (pv 5)))
    (sss_cons (ss_set (i := 3) sc.nd rfl (by first | exact .inl rfl | exact .inr rfl) se_int)
    (sss_cons (ss_for PassesOwn.never rfl (si_seq (se_lst (sa_cons se_int (sa_cons se_int (sa_cons se_int (sa_cons se_int (sa_cons se_int (sa_cons se_int sa_nil)))))))) (sg_name (i := 4) sc.nd rfl (by first | exact .inl rfl | exact .inr rfl)) (sss_cons (ss_set (i := 1) sc.nd rfl (by first | exact .inl rfl | exact .inr rfl) (se_op op_addP pr_add (se_op op_mulP pr_mul se_int (se_var (pv 5))) (se_op op_fdiv pr_div (se_var (pv 4)) se_int)))
    (sss_cons (ss_for PassesOwn.never rfl (si_seq (se_ix hu (se_var (pv 0)) se_str)) (sg_name (i := 2) sc.nd rfl (by first | exact .inl rfl | exact .inr rfl)) (sss_one (ss_set (i := 1) sc.nd rfl (by first | exact .inl rfl | exact .inr rfl) (se_op op_mod pr_mod (se_callTy call_int1 pr_int (by rfl) (F.m_int) boot_int (sa_cons (se_op op_addP pr_add (se_op op_mulP pr_mul (se_var (pv 1)) se_int) (se_var (pv 2))) sa_nil)) (se_var (pv 4))))))
    (sss_one (ss_set (i := 3) sc.nd rfl (by first | exact .inl rfl | exact .inr rfl) (se_op op_addP pr_add (se_op op_mulP pr_mul (se_var (pv 3)) se_int) (se_op op_mod pr_mod (se_callTy call_int1 pr_int (by rfl) (F.m_int) boot_int (sa_cons (se_op op_pow pr_pow (se_var (pv 1)) se_int) sa_nil)) (se_var (pv 4)))))))))
    (sss_one (ss_ret (se_var (pv 3))))))))
/-! ### _law_take -/
abbrev N_27 : List Str := ["_law_state", "_law_size", "_law_found"]
theorem sc_27 : FnScope N_27 ["_law_state", "_law_size"] (defScope (top 49)) := ⟨rfl, rfl, rfl, by decide +kernel, rfl, by decide +kernel, by decide +kernel⟩
def b_27 (c : Nat → Fn) : SemS :=
    (sSeq (sIfS (sAnd (sT (sB oEq (sB oIx (sVar 0) (sC (.str "rest"))) (sC (.int 0)))) (sT (sB oNe (sB oIx (sVar 0) (sC (.str "great"))) (sDisp mkL sNil)))) (sPut (sVar 0) (sC (.str "rest")) (sBm mPopAt (sB oIx (sVar 0) (sC (.str "great"))) (sCons (sC (.int 0)) sNil))) (sIfS (sT (sB oEq (sB oIx (sVar 0) (sC (.str "rest"))) (sC (.int 0)))) (sPut (sVar 0) (sC (.str "rest")) (sCall (c 26) (sCons (sVar 0) sNil))) sNext))
    (sSeq (sSet 2 (sB oMod (sCall cInt (sCons (sB oIx (sVar 0) (sC (.str "rest"))) sNil)) (sVar 1)))
    (sSeq (sPut (sVar 0) (sC (.str "rest")) (sB oDiv (sB oIx (sVar 0) (sC (.str "rest"))) (sVar 1)))
    (sRet (sVar 2)))))
set_option linter.all false in
theorem ok_27 [Wd] {P : Program} {w : World} {K : PySem.W.Frag} {mg : Str → Option Value} {base : Heap} {k : Nat} {c : Nat → Fn} (hp : P = Wd.P ∧ w = Wd.w) (F : Fx K mg) (T : Tb P w K mg base k c) {f : Addr} {cdv : Value} {A : Around} {outer : List Env} {s : Shared} {H : Hp} {E : XK} (hr : Room (k + 1) (A.deeper (envOfC "_law_take" (defScope (top 49)) s.heap.objs.size f cdv))) :
    SSs (Inn f (top 49) N_27 "_law_take" P w K mg base cdv A outer s H E) E (defBody (top 49)) (b_27 c) := by
  have hu := room64 hr
  have hr0 := hr.mono (Nat.le_succ k)
  have sc := sc_27
  exact (sss_cons (ss_if (st_and (st_cmp (op_eqP hu) pr_eq (se_ix hu (se_var (pv 0)) se_str) se_int (nomark _)) (st_and1 (st_cmp (op_neP hu) pr_ne (se_ix hu (se_var (pv 0)) se_str) (se_lst sa_nil) (nomark _)))).pt (sss_one (ss_put hu (se_var (pv 0)) se_str (se_popAt (se_ix hu (se_var (pv 0)) se_str) (sa_cons se_int sa_nil)))) (sss_one (ss_if (st_cmp (op_eqP hu) pr_eq (se_ix hu (se_var (pv 0)) se_str) se_int (nomark _)) (sss_one (ss_put hu (se_var (pv 0)) se_str (se_call T.t26 hr0 (by rfl) (T.ar 26) (sa_cons (se_var (pv 0)) sa_nil)))) sss_nil)))
    (sss_cons (ss_set (i := 2) sc.nd rfl (by first | exact .inl rfl | exact .inr rfl) (se_op op_mod pr_mod (se_callTy call_int1 pr_int (by rfl) (F.m_int) boot_int (sa_cons (se_ix hu (se_var (pv 0)) se_str) sa_nil)) (se_var (pv 1))))
    (sss_cons (ss_put hu (se_var (pv 0)) se_str (se_op op_fdiv pr_div (se_ix hu (se_var (pv 0)) se_str) (se_var (pv 1))))
    (sss_one (ss_ret (se_var (pv 2)))))))
/-! ### _law_pick -/
abbrev N_28 : List Str := ["_law_state", "_law_some"]
theorem sc_28 : FnScope N_28 ["_law_state", "_law_some"] (defScope (top 50)) := ⟨rfl, rfl, rfl, by decide +kernel, rfl, by decide +kernel, by decide +kernel⟩
def b_28 (c : Nat → Fn) : SemS :=
    (sRet (sB oIx (sVar 1) (sCall (c 27) (sCons (sVar 0) (sCons (sCall cLen (sCons (sVar 1) sNil)) sNil)))))
set_option linter.all false in
theorem ok_28 [Wd] {P : Program} {w : World} {K : PySem.W.Frag} {mg : Str → Option Value} {base : Heap} {k : Nat} {c : Nat → Fn} (hp : P = Wd.P ∧ w = Wd.w) (F : Fx K mg) (T : Tb P w K mg base k c) {f : Addr} {cdv : Value} {A : Around} {outer : List Env} {s : Shared} {H : Hp} {E : XK} (hr : Room (k + 1) (A.deeper (envOfC "_law_pick" (defScope (top 50)) s.heap.objs.size f cdv))) :
    SSs (Inn f (top 50) N_28 "_law_pick" P w K mg base cdv A outer s H E) E (defBody (top 50)) (b_28 c) := by
  have hu := room64 hr
  have hr0 := hr.mono (Nat.le_succ k)
  have sc := sc_28
  exact (sss_one (ss_ret (se_ix hu (se_var (pv 1)) (se_call T.t27 hr0 (by rfl) (T.ar 27) (sa_cons (se_var (pv 0)) (sa_cons (se_callB call_lenD2 pr_len (by rfl) (F.m_len) boot_len (sa_cons (se_var (pv 1)) sa_nil)) sa_nil))))))
/-! ### _law_shuffled -/
abbrev N_29 : List Str := ["_law_state", "_law_some", "_law_found", "_law_left"]
theorem sc_29 : FnScope N_29 ["_law_state", "_law_some"] (defScope (top 51)) := ⟨rfl, rfl, rfl, by decide +kernel, rfl, by decide +kernel, by decide +kernel⟩
def b_29 (c : Nat → Fn) : SemS :=
    (sSeq (sPar 3 2 (sCons (sCall (cListB mkO) (sCons (sVar 1) sNil)) (sCons (sDisp mkO sNil) sNil)))
    (sSeq (whileN (sT (sB oNe (sVar 3) (sDisp mkL sNil))) (sDo (sBm mAppend (sVar 2) (sCons (sBm mPopAt (sVar 3) (sCons (sCall (c 27) (sCons (sVar 0) (sCons (sCall cLen (sCons (sVar 3) sNil)) sNil))) sNil)) sNil))) 4096)
    (sRet (sFrz (sVar 2)))))
set_option linter.all false in
theorem ok_29 [Wd] {P : Program} {w : World} {K : PySem.W.Frag} {mg : Str → Option Value} {base : Heap} {k : Nat} {c : Nat → Fn} (hp : P = Wd.P ∧ w = Wd.w) (F : Fx K mg) (T : Tb P w K mg base k c) {f : Addr} {cdv : Value} {A : Around} {outer : List Env} {s : Shared} {H : Hp} {E : XK} (hr : Room (k + 1) (A.deeper (envOfC "_law_shuffled" (defScope (top 51)) s.heap.objs.size f cdv))) :
    SSs (Inn f (top 51) N_29 "_law_shuffled" P w K mg base cdv A outer s H E) E (defBody (top 51)) (b_29 c) := by
  have hu := room64 hr
  have hr0 := hr.mono (Nat.le_succ k)
  have sc := sc_29
  exact (sss_cons (ss_par (i := 3) (j := 2) rfl sc.nd rfl rfl (by decide) (by rfl) (by rfl) (sa_cons (se_callTy (call_listA rfl) (pr_listA mkO_okE) (by rfl) (F.m_list) boot_list (sa_cons (se_var (pv 1)) sa_nil)) (sa_cons (se_lstO sa_nil) sa_nil)) (by rfl))
    (sss_cons (ss_while 4096 PassesOwn.never (st_cmp (op_neP hu) pr_ne (se_var (pv 3)) (se_lst sa_nil) (nomark _)) (sss_one (ss_expr (se_append (se_var (pv 2)) (sa_cons (se_popAt (se_var (pv 3)) (sa_cons (se_call T.t27 hr0 (by rfl) (T.ar 27) (sa_cons (se_var (pv 0)) (sa_cons (se_callB call_lenD2 pr_len (by rfl) (F.m_len) boot_len (sa_cons (se_var (pv 3)) sa_nil)) sa_nil))) sa_nil)) sa_nil)))))
    (sss_one (ss_ret (se_frz (se_var (pv 2)))))))
/-! ### _law_names -/
abbrev N_30 : List Str := ["_law_state", "_law_many", "_law_k", "_law_letters", "_law_name", "_law_names_here", "_law_way", "_law_words", "_law_j", "_law_letter"]
theorem sc_30 : FnScope N_30 ["_law_state", "_law_many"] (defScope (top 52)) := ⟨rfl, rfl, rfl, by decide +kernel, rfl, by decide +kernel, by decide +kernel⟩
def b_30 (c : Nat → Fn) : SemS :=
    (sSeq (sSet 3 (sC (.str "abcdefghijklmnopqrstuvwxyz")))
    (sSeq (sSet 7 (sDisp mkL (sCons (sC (.str "wait")) (sCons (sC (.str "post")) (sCons (sC (.str "start")) (sCons (sC (.str "method")) (sCons (sC (.str "any")) (sCons (sC (.str "down")) (sCons (sC (.str "up")) (sCons (sC (.str "starting")) (sCons (sC (.str "go")) (sCons (sC (.str "none")) (sCons (sC (.str "a")) (sCons (sC (.str "ab")) (sCons (sC (.str "zzzzzzzz")) sNil)))))))))))))))
    (sSeq (sSet 5 (sDisp mkO sNil))
    (sSeq (sFor (sRange1 (sVar 1)) (gN 2) (sSeq (sPar 6 4 (sCons (sCall (c 27) (sCons (sVar 0) (sCons (sC (.int 4)) sNil))) (sCons (sCall (c 28) (sCons (sVar 0) (sCons (sVar 7) sNil))) sNil)))
    (sSeq (sIfS (sT (sB oEq (sVar 6) (sC (.int 0)))) (sSet 4 (sJoin (sC (.str "")) (sLc (sRange1 (sB oAdd (sC (.int 1)) (sCall (c 27) (sCons (sVar 0) (sCons (sC (.int 8)) sNil))))) (gN 8) tYesS (sCall (c 28) (sCons (sVar 0) (sCons (sVar 3) sNil))) [8] keepL))) sNext)
    (sSeq (sIfS (sAnd (sT (sB oEq (sVar 6) (sC (.int 1)))) (sT (sB oNe (sVar 5) (sDisp mkL sNil)))) (sSet 4 (sSl (sB oAdd (sB oIx (sVar 5) (sC (.int (-1)))) (sCall (c 28) (sCons (sVar 0) (sCons (sVar 3) sNil)))) oNone (oSome (sC (.int 8))))) sNext)
    (sSeq (sIfS (sT (sB (oIn false) (sVar 4) (sVar 5))) (sSet 4 (sB oIx (sLc (sItems (sVar 3)) (gN 9) (sT (sB (oIn true) (sVar 9) (sVar 5))) (sVar 9) [9] keepL) (sC (.int 0)))) sNext)
    (sDo (sBm mAppend (sVar 5) (sCons (sVar 4) sNil))))))))
    (sRet (sFrz (sVar 5)))))))
set_option linter.all false in
theorem ok_30 [Wd] {P : Program} {w : World} {K : PySem.W.Frag} {mg : Str → Option Value} {base : Heap} {k : Nat} {c : Nat → Fn} (hp : P = Wd.P ∧ w = Wd.w) (F : Fx K mg) (T : Tb P w K mg base k c) {f : Addr} {cdv : Value} {A : Around} {outer : List Env} {s : Shared} {H : Hp} {E : XK} (hr : Room (k + 1) (A.deeper (envOfC "_law_names" (defScope (top 52)) s.heap.objs.size f cdv))) :
    SSs (Inn f (top 52) N_30 "_law_names" P w K mg base cdv A outer s H E) E (defBody (top 52)) (b_30 c) := by
  have hu := room64 hr
  have hr0 := hr.mono (Nat.le_succ k)
  have sc := sc_30
  exact (sss_cons (ss_set (i := 3) sc.nd rfl (by first | exact .inl rfl | exact .inr rfl) se_str)
    (sss_cons (ss_set (i := 7) sc.nd rfl (by first | exact .inl rfl | exact .inr rfl) (se_lst (sa_cons se_str (sa_cons se_str (sa_cons se_str (sa_cons se_str (sa_cons se_str (sa_cons se_str (sa_cons se_str (sa_cons se_str (sa_cons se_str (sa_cons se_str (sa_cons se_str (sa_cons se_str (sa_cons se_str sa_nil)))))))))))))))
    (sss_cons (ss_set (i := 5) sc.nd rfl (by first | exact .inl rfl | exact .inr rfl) (se_lstO sa_nil))
    (sss_cons (ss_for PassesOwn.never rfl (si_range1 (by rfl) (F.m_range) (se_var (pv 1))) (sg_name (i := 2) sc.nd rfl (by first | exact .inl rfl | exact .inr rfl)) (sss_cons (ss_par (i := 6) (j := 4) rfl sc.nd rfl rfl (by decide) (by rfl) (by rfl) (sa_cons (se_call T.t27 hr0 (by rfl) (T.ar 27) (sa_cons (se_var (pv 0)) (sa_cons se_int sa_nil))) (sa_cons (se_call T.t28 hr0 (by rfl) (T.ar 28) (sa_cons (se_var (pv 0)) (sa_cons (se_var (pv 7)) sa_nil))) sa_nil)) (by rfl))
    (sss_cons (ss_if (st_cmp (op_eqP hu) pr_eq (se_var (pv 6)) se_int (nomark _)) (sss_one (ss_set (i := 4) sc.nd rfl (by first | exact .inl rfl | exact .inr rfl) (se_join se_str (lc_v [("_law_j", 8)] keepL_ok rfl sc.nd (si_range1 (by rfl) (F.m_range) (se_op op_addP pr_add se_int (se_call T.t27 hr0 (by rfl) (T.ar 27) (sa_cons (se_var (pv 0)) (sa_cons se_int sa_nil))))) (blkOk_by (N := N_30) (sc := defScope (top 52)) (own := [("_law_j", 8)]) (by decide +kernel)) rfl (fun _ _ _ _ _ => (pg_name (i := 8) sc.nd rfl (by first | exact .inl rfl | exact .inr rfl))) (gw_name (by decide)) (fun _ _ _ _ _ => spts_nil) (fun _ _ _ _ _ => (se_call T.t28 hr0 (by rfl) (T.ar 28) (sa_cons (se_var (pv 0)) (sa_cons (se_var (pv 3)) sa_nil)))))))) sss_nil)
    (sss_cons (ss_if (st_and (st_cmp (op_eqP hu) pr_eq (se_var (pv 6)) se_int (nomark _)) (st_and1 (st_cmp (op_neP hu) pr_ne (se_var (pv 5)) (se_lst sa_nil) (nomark _)))).pt (sss_one (ss_set (i := 4) sc.nd rfl (by first | exact .inl rfl | exact .inr rfl) (se_sl (se_op op_addP pr_add (se_ix hu (se_var (pv 5)) se_neg) (se_call T.t28 hr0 (by rfl) (T.ar 28) (sa_cons (se_var (pv 0)) (sa_cons (se_var (pv 3)) sa_nil)))) so_none (so_some se_int)))) sss_nil)
    (sss_cons (ss_if (st_cmp (op_inA hu) (pr_in false) (se_var (pv 4)) (se_var (pv 5)) (by rfl)) (sss_one (ss_set (i := 4) sc.nd rfl (by first | exact .inl rfl | exact .inr rfl) (se_ix hu (lc_v [("_law_letter", 9)] keepL_ok rfl sc.nd (si_seq (se_var (pv 3))) (blkOk_by (N := N_30) (sc := defScope (top 52)) (own := [("_law_letter", 9)]) (by decide +kernel)) rfl (fun _ _ _ _ _ => (pg_name (i := 9) sc.nd rfl (by first | exact .inl rfl | exact .inr rfl))) (gw_name (by decide)) (fun _ _ _ _ _ => (spts_one (st_cmp (op_notInA hu) (pr_in true) (se_var (pv 9)) (se_var (pv 5)) (by rfl)))) (fun _ _ _ _ _ => (se_var (pv 9)))) se_int))) sss_nil)
    (sss_one (ss_expr (se_append (se_var (pv 5)) (sa_cons (se_var (pv 4)) sa_nil)))))))))
    (sss_one (ss_ret (se_frz (se_var (pv 5)))))))))
/-! ### _law_steps -/
abbrev N_31 : List Str := ["_law_state", "_law_near", "_law_every", "_law_sizes", "_law_cap", "_law_k", "_law_pair", "_law_post", "_law_size", "_law_steps_here"]
theorem sc_31 : FnScope N_31 ["_law_state", "_law_near", "_law_every", "_law_sizes", "_law_cap"] (defScope (top 53)) := ⟨rfl, rfl, rfl, by decide +kernel, rfl, by decide +kernel, by decide +kernel⟩
def b_31 (c : Nat → Fn) : SemS :=
    (sSeq (sPar 9 8 (sCons (sDisp mkO sNil) (sCons (sC (.int 0)) sNil)))
    (sSeq (sFor (sRange1 (sCall (c 27) (sCons (sVar 0) (sCons (sC (.int 5)) sNil)))) (gN 5) (sSeq (sPar 7 6 (sCons (sB oEq (sCall (c 27) (sCons (sVar 0) (sCons (sC (.int 4)) sNil))) (sC (.int 0))) (sCons (sCall (c 28) (sCons (sVar 0) (sCons (sVar 2) sNil))) sNil)))
    (sIfS (sT (sVar 7)) (sDo (sBm mAppend (sVar 9) (sCons (sDisp mkT (sCons (sC (.str "post")) (sCons (sB oIx (sVar 6) (sC (.int 0))) (sCons (sB oIx (sVar 6) (sC (.int 1))) sNil)))) sNil))) (sIfS (sT (sB oNe (sVar 1) (sDisp mkL sNil))) (sSeq (sSet 6 (sCall (c 28) (sCons (sVar 0) (sCons (sVar 1) sNil))))
    (sIfS (sT (sB oLe (sB oAdd (sB oAdd (sVar 8) (sC (.int 1))) (sB oIxT (sVar 3) (sVar 6))) (sVar 4))) (sSeq (sDo (sBm mAppend (sVar 9) (sCons (sDisp mkT (sCons (sC (.str "wait")) (sCons (sB oIx (sVar 6) (sC (.int 0))) (sCons (sB oIx (sVar 6) (sC (.int 1))) sNil)))) sNil)))
    (sSet 8 (sB oAdd (sB oAdd (sVar 8) (sC (.int 1))) (sB oIxT (sVar 3) (sVar 6))))) sNext)) sNext))))
    (sRet (sDisp mkT (sCons (sCall cTupOf (sCons (sVar 9) sNil)) (sCons (sVar 8) sNil))))))
set_option linter.all false in
theorem ok_31 [Wd] {P : Program} {w : World} {K : PySem.W.Frag} {mg : Str → Option Value} {base : Heap} {k : Nat} {c : Nat → Fn} (hp : P = Wd.P ∧ w = Wd.w) (F : Fx K mg) (T : Tb P w K mg base k c) {f : Addr} {cdv : Value} {A : Around} {outer : List Env} {s : Shared} {H : Hp} {E : XK} (hr : Room (k + 1) (A.deeper (envOfC "_law_steps" (defScope (top 53)) s.heap.objs.size f cdv))) :
    SSs (Inn f (top 53) N_31 "_law_steps" P w K mg base cdv A outer s H E) E (defBody (top 53)) (b_31 c) := by
  have hu := room64 hr
  have hr0 := hr.mono (Nat.le_succ k)
  have sc := sc_31
  exact (sss_cons (ss_par (i := 9) (j := 8) rfl sc.nd rfl rfl (by decide) (by rfl) (by rfl) (sa_cons (se_lstO sa_nil) (sa_cons se_int sa_nil)) (by rfl))
    (sss_cons (ss_for PassesOwn.never rfl (si_range1 (by rfl) (F.m_range) (se_call T.t27 hr0 (by rfl) (T.ar 27) (sa_cons (se_var (pv 0)) (sa_cons se_int sa_nil)))) (sg_name (i := 5) sc.nd rfl (by first | exact .inl rfl | exact .inr rfl)) (sss_cons (ss_par (i := 7) (j := 6) rfl sc.nd rfl rfl (by decide) (by rfl) (by rfl) (sa_cons (se_cmp (op_eqP hu) pr_eq (se_call T.t27 hr0 (by rfl) (T.ar 27) (sa_cons (se_var (pv 0)) (sa_cons se_int sa_nil))) se_int (nomark _)) (sa_cons (se_call T.t28 hr0 (by rfl) (T.ar 28) (sa_cons (se_var (pv 0)) (sa_cons (se_var (pv 2)) sa_nil))) sa_nil)) (by rfl))
    (sss_one (ss_if (st_val (se_var (pv 7))) (sss_one (ss_expr (se_append (se_var (pv 9)) (sa_cons (se_tup (sa_cons se_str (sa_cons (se_ix hu (se_var (pv 6)) se_int) (sa_cons (se_ix hu (se_var (pv 6)) se_int) sa_nil)))) sa_nil)))) (sss_one (ss_if (st_cmp (op_neP hu) pr_ne (se_var (pv 1)) (se_lst sa_nil) (nomark _)) (sss_cons (ss_set (i := 6) sc.nd rfl (by first | exact .inl rfl | exact .inr rfl) (se_call T.t28 hr0 (by rfl) (T.ar 28) (sa_cons (se_var (pv 0)) (sa_cons (se_var (pv 1)) sa_nil))))
    (sss_one (ss_if (st_cmp op_le (pr_cI _) (se_op op_addP pr_add (se_op op_addP pr_add (se_var (pv 8)) se_int) (se_ixT hp hu (se_var (pv 3)) (se_var (pv 6)))) (se_var (pv 4)) (nomark _)) (sss_cons (ss_expr (se_append (se_var (pv 9)) (sa_cons (se_tup (sa_cons se_str (sa_cons (se_ix hu (se_var (pv 6)) se_int) (sa_cons (se_ix hu (se_var (pv 6)) se_int) sa_nil)))) sa_nil)))
    (sss_one (ss_set (i := 8) sc.nd rfl (by first | exact .inl rfl | exact .inr rfl) (se_op op_addP pr_add (se_op op_addP pr_add (se_var (pv 8)) se_int) (se_ixT hp hu (se_var (pv 3)) (se_var (pv 6))))))) sss_nil))) sss_nil))))))
    (sss_one (ss_ret (se_tup (sa_cons (se_callTy call_tuple_of pr_tupOf (by rfl) (F.m_tuple) boot_tuple (sa_cons (se_var (pv 9)) sa_nil)) (sa_cons (se_var (pv 8)) sa_nil)))))))
/-! ### _law_home -/
abbrev N_32 : List Str := ["_law_state", "_law_most", "_law_many", "_law_cap", "_law_at", "_law_begin", "_law_free", "_law_home_here", "_law_made", "_law_name", "_law_names_here", "_law_near", "_law_pair", "_law_pairs", "_law_ranked", "_law_scripts", "_law_sizes", "_law_table", "_law_way", "_law_other", "_law_deed"]
theorem sc_32 : FnScope N_32 ["_law_state", "_law_most", "_law_many", "_law_cap"] (defScope (top 54)) := ⟨rfl, rfl, rfl, by decide +kernel, rfl, by decide +kernel, by decide +kernel⟩
def b_32 (c : Nat → Fn) : SemS :=
    (sSeq (sParN [18, 10] (sCons (sCall (c 27) (sCons (sVar 0) (sCons (sC (.int 3)) sNil))) (sCons (sCall (c 30) (sCons (sVar 0) (sCons (sB oAdd (sC (.int 1)) (sCall (c 27) (sCons (sVar 0) (sCons (sVar 1) sNil)))) sNil))) sNil)))
    (sSeq (sParN [6, 13] (sCons (sCall (c 28) (sCons (sVar 0) (sCons (sVar 10) sNil))) (sCons (sDisp mkL sNil) sNil)))
    (sSeq (sFor (sItems (sVar 10)) (gN 9) (sSet 13 (sB oAdd (sVar 13) (sLc (sItems (sCall (c 30) (sCons (sVar 0) (sCons (sB oAdd (sC (.int 1)) (sCall (c 27) (sCons (sVar 0) (sCons (sVar 2) sNil)))) sNil)))) (gN 20) tYesS (sDisp mkT (sCons (sVar 9) (sCons (sVar 20) sNil))) [20] keepL))))
    (sSeq (sParN [14, 16, 15, 7] (sCons (sCall (c 29) (sCons (sVar 0) (sCons (sVar 13) sNil))) (sCons sDictT (sCons sDictT (sCons sDict0 sNil)))))
    (sSeq (sFor (sEnumA (sVar 14)) (gTupS 2 (gConsS (gN 4) (gConsS (gN 12) gNilS))) (sSeq (sSet 11 (sLc (sItems (sSl (sVar 14) oNone (oSome (sVar 4)))) (gN 19) (sOr (sT (sB oEq (sVar 18) (sC (.int 0)))) (sOr (sAnd (sT (sB oEq (sVar 18) (sC (.int 2)))) (sT (sB oEq (sB oIx (sVar 12) (sC (.int 0))) (sVar 6)))) (sT (sB oLt (sBm mIndex (sVar 10) (sCons (sB oIx (sVar 19) (sC (.int 0))) sNil)) (sBm mIndex (sVar 10) (sCons (sB oIx (sVar 12) (sC (.int 0))) sNil)))))) (sVar 19) [19] keepL))
    (sSeq (sSet 8 (sCall (c 31) (sCons (sVar 0) (sCons (sVar 11) (sCons (sVar 13) (sCons (sVar 16) (sCons (sVar 3) sNil)))))))
    (sSeq (sPutT (sVar 15) (sVar 12) (sB oIx (sVar 8) (sC (.int 0))))
    (sPutT (sVar 16) (sVar 12) (sB oIx (sVar 8) (sC (.int 1))))))))
    (sSeq (sFor (sEnumA (sVar 10)) (gTupS 2 (gConsS (gN 4) (gConsS (gN 9) gNilS))) (sSeq (sSet 11 (sLc (sItems (sVar 14)) (gN 19) (sOr (sT (sB oEq (sVar 18) (sC (.int 0)))) (sOr (sAnd (sT (sB oEq (sVar 18) (sC (.int 2)))) (sT (sB oEq (sVar 9) (sVar 6)))) (sT (sB oLt (sBm mIndex (sVar 10) (sCons (sB oIx (sVar 19) (sC (.int 0))) sNil)) (sVar 4))))) (sVar 19) [19] keepL))
    (sSeq (sSet 5 (sIf (sT (sB oGt (sCall (c 27) (sCons (sVar 0) (sCons (sC (.int 3)) sNil))) (sC (.int 0)))) (sB oIx (sCall (c 31) (sCons (sVar 0) (sCons (sVar 11) (sCons (sVar 13) (sCons (sVar 16) (sCons (sVar 3) sNil)))))) (sC (.int 0))) (sDisp mkT sNil)))
    (sSeq (sSet 17 sDict0)
    (sSeq (sFor (sItems (sLc (sItems (sVar 13)) (gN 19) (sT (sB oEq (sB oIx (sVar 19) (sC (.int 0))) (sVar 9))) (sVar 19) [19] keepL)) (gN 12) (sPut (sVar 17) (sB oIx (sVar 12) (sC (.int 1))) (sDisp mkT (sCons (sCall (c 27) (sCons (sVar 0) (sCons (sC (.int 100)) sNil))) (sCons (sB oIxT (sVar 15) (sVar 12)) sNil)))))
    (sPut (sVar 7) (sVar 9) (sDisp mkT (sCons (sCall (c 28) (sCons (sVar 0) (sCons (sDisp mkL (sCons (sC .none) (sCons (sC (.int 1)) (sCons (sC (.int 1)) (sCons (sC (.int 2)) (sCons (sC (.int 3)) (sCons (sC (.int 4)) sNil))))))) sNil))) (sCons (sVar 5) (sCons (sFrz (sVar 17)) sNil))))))))))
    (sRet (sFrz (sVar 7)))))))))
set_option linter.all false in
theorem ok_32 [Wd] {P : Program} {w : World} {K : PySem.W.Frag} {mg : Str → Option Value} {base : Heap} {k : Nat} {c : Nat → Fn} (hp : P = Wd.P ∧ w = Wd.w) (F : Fx K mg) (T : Tb P w K mg base k c) {f : Addr} {cdv : Value} {A : Around} {outer : List Env} {s : Shared} {H : Hp} {E : XK} (hr : Room (k + 1) (A.deeper (envOfC "_law_home" (defScope (top 54)) s.heap.objs.size f cdv))) :
    SSs (Inn f (top 54) N_32 "_law_home" P w K mg base cdv A outer s H E) E (defBody (top 54)) (b_32 c) := by
  have hu := room64 hr
  have hr0 := hr.mono (Nat.le_succ k)
  have sc := sc_32
  exact (sss_cons (ss_parN (is := [18, 10]) rfl (sa_cons (se_call T.t27 hr0 (by rfl) (T.ar 27) (sa_cons (se_var (pv 0)) (sa_cons se_int sa_nil))) (sa_cons (se_call T.t30 hr0 (by rfl) (T.ar 30) (sa_cons (se_var (pv 0)) (sa_cons (se_op op_addP pr_add se_int (se_call T.t27 hr0 (by rfl) (T.ar 27) (sa_cons (se_var (pv 0)) (sa_cons (se_var (pv 1)) sa_nil)))) sa_nil))) sa_nil)) (pgs_cons (pg_name (i := 18) sc.nd rfl (by first | exact .inl rfl | exact .inr rfl)) (pgs_cons (pg_name (i := 10) sc.nd rfl (by first | exact .inl rfl | exact .inr rfl)) pgs_nil)))
    (sss_cons (ss_parN (is := [6, 13]) rfl (sa_cons (se_call T.t28 hr0 (by rfl) (T.ar 28) (sa_cons (se_var (pv 0)) (sa_cons (se_var (pv 10)) sa_nil))) (sa_cons (se_lst sa_nil) sa_nil)) (pgs_cons (pg_name (i := 6) sc.nd rfl (by first | exact .inl rfl | exact .inr rfl)) (pgs_cons (pg_name (i := 13) sc.nd rfl (by first | exact .inl rfl | exact .inr rfl)) pgs_nil)))
    (sss_cons (ss_for PassesOwn.never rfl (si_seq (se_var (pv 10))) (sg_name (i := 9) sc.nd rfl (by first | exact .inl rfl | exact .inr rfl)) (sss_one (ss_set (i := 13) sc.nd rfl (by first | exact .inl rfl | exact .inr rfl) (se_op op_addP pr_add (se_var (pv 13)) (lc_v [("_law_deed", 20)] keepL_ok rfl sc.nd (si_seq (se_call T.t30 hr0 (by rfl) (T.ar 30) (sa_cons (se_var (pv 0)) (sa_cons (se_op op_addP pr_add se_int (se_call T.t27 hr0 (by rfl) (T.ar 27) (sa_cons (se_var (pv 0)) (sa_cons (se_var (pv 2)) sa_nil)))) sa_nil)))) (blkOk_by (N := N_32) (sc := defScope (top 54)) (own := [("_law_deed", 20)]) (by decide +kernel)) rfl (fun _ _ _ _ _ => (pg_name (i := 20) sc.nd rfl (by first | exact .inl rfl | exact .inr rfl))) (gw_name (by decide)) (fun _ _ _ _ _ => spts_nil) (fun _ _ _ _ _ => (se_tup (sa_cons (se_var (pv 9)) (sa_cons (se_var (pv 20)) sa_nil)))))))))
    (sss_cons (ss_parN (is := [14, 16, 15, 7]) rfl (sa_cons (se_call T.t29 hr0 (by rfl) (T.ar 29) (sa_cons (se_var (pv 0)) (sa_cons (se_var (pv 13)) sa_nil))) (sa_cons se_dictT (sa_cons se_dictT (sa_cons se_dict0 sa_nil)))) (pgs_cons (pg_name (i := 14) sc.nd rfl (by first | exact .inl rfl | exact .inr rfl)) (pgs_cons (pg_name (i := 16) sc.nd rfl (by first | exact .inl rfl | exact .inr rfl)) (pgs_cons (pg_name (i := 15) sc.nd rfl (by first | exact .inl rfl | exact .inr rfl)) (pgs_cons (pg_name (i := 7) sc.nd rfl (by first | exact .inl rfl | exact .inr rfl)) pgs_nil)))))
    (sss_cons (ss_for PassesOwn.never rfl (si_enumA (by rfl) (F.m_enumerate) (se_var (pv 14))) (sg_tup rfl (sgs_cons (sg_name (i := 4) sc.nd rfl (by first | exact .inl rfl | exact .inr rfl)) (sgs_cons (sg_name (i := 12) sc.nd rfl (by first | exact .inl rfl | exact .inr rfl)) sgs_nil))) (sss_cons (set_lc_v [("_law_other", 19)] (i := 11) keepL_ok rfl sc.nd rfl (by rfl) (by rfl) (si_seq (se_sl (se_var (pv 14)) so_none (so_some (se_var (pv 4))))) (blkOk_by (N := N_32) (sc := defScope (top 54)) (own := [("_law_other", 19)]) (by decide +kernel)) rfl (fun _ _ _ _ _ => (pg_name (i := 19) sc.nd rfl (by first | exact .inl rfl | exact .inr rfl))) (gw_name (by decide)) (fun _ _ _ _ _ => (spts_one (st_or (st_cmp (op_eqP hu) pr_eq (se_var (pv 18)) se_int (nomark _)) (st_or (st_and (st_cmp (op_eqP hu) pr_eq (se_var (pv 18)) se_int (nomark _)) (st_and1 (st_cmp (op_eqP hu) pr_eq (se_ix hu (se_var (pv 12)) se_int) (se_var (pv 6)) (nomark _)))).pt (st_or1 (st_cmp op_lt (pr_cI _) (se_index (se_var (pv 10)) (sa_cons (se_ix hu (se_var (pv 19)) se_int) sa_nil)) (se_index (se_var (pv 10)) (sa_cons (se_ix hu (se_var (pv 12)) se_int) sa_nil)) (nomark _))))).pt)) (fun _ _ _ _ _ => (se_var (pv 19))))
    (sss_cons (ss_set (i := 8) sc.nd rfl (by first | exact .inl rfl | exact .inr rfl) (se_call T.t31 hr0 (by rfl) (T.ar 31) (sa_cons (se_var (pv 0)) (sa_cons (se_var (pv 11)) (sa_cons (se_var (pv 13)) (sa_cons (se_var (pv 16)) (sa_cons (se_var (pv 3)) sa_nil)))))))
    (sss_cons (ss_putT hp hu (se_var (pv 15)) (se_var (pv 12)) (se_ix hu (se_var (pv 8)) se_int))
    (sss_one (ss_putT hp hu (se_var (pv 16)) (se_var (pv 12)) (se_ix hu (se_var (pv 8)) se_int)))))))
    (sss_cons (ss_for PassesOwn.never rfl (si_enumA (by rfl) (F.m_enumerate) (se_var (pv 10))) (sg_tup rfl (sgs_cons (sg_name (i := 4) sc.nd rfl (by first | exact .inl rfl | exact .inr rfl)) (sgs_cons (sg_name (i := 9) sc.nd rfl (by first | exact .inl rfl | exact .inr rfl)) sgs_nil))) (sss_cons (set_lc_v [("_law_other", 19)] (i := 11) keepL_ok rfl sc.nd rfl (by rfl) (by rfl) (si_seq (se_var (pv 14))) (blkOk_by (N := N_32) (sc := defScope (top 54)) (own := [("_law_other", 19)]) (by decide +kernel)) rfl (fun _ _ _ _ _ => (pg_name (i := 19) sc.nd rfl (by first | exact .inl rfl | exact .inr rfl))) (gw_name (by decide)) (fun _ _ _ _ _ => (spts_one (st_or (st_cmp (op_eqP hu) pr_eq (se_var (pv 18)) se_int (nomark _)) (st_or (st_and (st_cmp (op_eqP hu) pr_eq (se_var (pv 18)) se_int (nomark _)) (st_and1 (st_cmp (op_eqP hu) pr_eq (se_var (pv 9)) (se_var (pv 6)) (nomark _)))).pt (st_or1 (st_cmp op_lt (pr_cI _) (se_index (se_var (pv 10)) (sa_cons (se_ix hu (se_var (pv 19)) se_int) sa_nil)) (se_var (pv 4)) (nomark _))))).pt)) (fun _ _ _ _ _ => (se_var (pv 19))))
    (sss_cons (ss_set (i := 5) sc.nd rfl (by first | exact .inl rfl | exact .inr rfl) (se_ifexp (st_cmp op_gt (pr_cI _) (se_call T.t27 hr0 (by rfl) (T.ar 27) (sa_cons (se_var (pv 0)) (sa_cons se_int sa_nil))) se_int (nomark _)) (se_ix hu (se_call T.t31 hr0 (by rfl) (T.ar 31) (sa_cons (se_var (pv 0)) (sa_cons (se_var (pv 11)) (sa_cons (se_var (pv 13)) (sa_cons (se_var (pv 16)) (sa_cons (se_var (pv 3)) sa_nil)))))) se_int) (se_tup sa_nil)))
    (sss_cons (ss_set (i := 17) sc.nd rfl (by first | exact .inl rfl | exact .inr rfl) se_dict0)
    (sss_cons (ss_for PassesOwn.never rfl (si_seq (lc_v [("_law_other", 19)] keepL_ok rfl sc.nd (si_seq (se_var (pv 13))) (blkOk_by (N := N_32) (sc := defScope (top 54)) (own := [("_law_other", 19)]) (by decide +kernel)) rfl (fun _ _ _ _ _ => (pg_name (i := 19) sc.nd rfl (by first | exact .inl rfl | exact .inr rfl))) (gw_name (by decide)) (fun _ _ _ _ _ => (spts_one (st_cmp (op_eqP hu) pr_eq (se_ix hu (se_var (pv 19)) se_int) (se_var (pv 9)) (nomark _)))) (fun _ _ _ _ _ => (se_var (pv 19))))) (sg_name (i := 12) sc.nd rfl (by first | exact .inl rfl | exact .inr rfl)) (sss_one (ss_put hu (se_var (pv 17)) (se_ix hu (se_var (pv 12)) se_int) (se_tup (sa_cons (se_call T.t27 hr0 (by rfl) (T.ar 27) (sa_cons (se_var (pv 0)) (sa_cons se_int sa_nil))) (sa_cons (se_ixT hp hu (se_var (pv 15)) (se_var (pv 12))) sa_nil))))))
    (sss_one (ss_put hu (se_var (pv 7)) (se_var (pv 9)) (se_tup (sa_cons (se_call T.t28 hr0 (by rfl) (T.ar 28) (sa_cons (se_var (pv 0)) (sa_cons (se_lst (sa_cons se_non (sa_cons se_int (sa_cons se_int (sa_cons se_int (sa_cons se_int (sa_cons se_int sa_nil))))))) sa_nil))) (sa_cons (se_var (pv 5)) (sa_cons (se_frz (se_var (pv 17))) sa_nil)))))))))))
    (sss_one (ss_ret (se_frz (se_var (pv 7)))))))))))
/-! ### _law_script -/
abbrev N_33 : List Str := ["_law_home_here", "_law_pair", "_law_deed", "_law_name"]
theorem sc_33 : FnScope N_33 ["_law_home_here", "_law_pair"] (defScope (top 55)) := ⟨rfl, rfl, rfl, by decide +kernel, rfl, by decide +kernel, by decide +kernel⟩
def b_33 (c : Nat → Fn) : SemS :=
    (sSeq (sAsg (sVar 1) (gTupS 2 (gConsS (gN 3) (gConsS (gN 2) gNilS))))
    (sRet (sIf (sT (sB oIsN (sVar 2) (sC .none))) (sB oIx (sB oIx (sVar 0) (sVar 3)) (sC (.int 1))) (sB oIx (sB oIx (sB oIx (sB oIx (sVar 0) (sVar 3)) (sC (.int 2))) (sVar 2)) (sC (.int 1))))))
set_option linter.all false in
theorem ok_33 [Wd] {P : Program} {w : World} {K : PySem.W.Frag} {mg : Str → Option Value} {base : Heap} {k : Nat} {c : Nat → Fn} (hp : P = Wd.P ∧ w = Wd.w) (F : Fx K mg) (T : Tb P w K mg base k c) {f : Addr} {cdv : Value} {A : Around} {outer : List Env} {s : Shared} {H : Hp} {E : XK} (hr : Room (k + 1) (A.deeper (envOfC "_law_script" (defScope (top 55)) s.heap.objs.size f cdv))) :
    SSs (Inn f (top 55) N_33 "_law_script" P w K mg base cdv A outer s H E) E (defBody (top 55)) (b_33 c) := by
  have hu := room64 hr
  have hr0 := hr.mono (Nat.le_succ k)
  have sc := sc_33
  exact (sss_cons (ss_asg (se_var (pv 1)) (sg_tup rfl (sgs_cons (sg_name (i := 3) sc.nd rfl (by first | exact .inl rfl | exact .inr rfl)) (sgs_cons (sg_name (i := 2) sc.nd rfl (by first | exact .inl rfl | exact .inr rfl)) sgs_nil))))
    (sss_one (ss_ret (se_ifexp (st_cmp op_isN pr_isN (se_var (pv 2)) se_non (nomark _)) (se_ix hu (se_ix hu (se_var (pv 0)) (se_var (pv 3))) se_int) (se_ix hu (se_ix hu (se_ix hu (se_ix hu (se_var (pv 0)) (se_var (pv 3))) se_int) (se_var (pv 2))) se_int)))))
/-! ### _law_waited -/
abbrev N_34 : List Str := ["_law_home_here", "_law_pair", "_law_deed", "_law_met", "_law_name", "_law_rest", "_law_word"]
theorem sc_34 : FnScope N_34 ["_law_home_here", "_law_pair"] (defScope (top 56)) := ⟨rfl, rfl, rfl, by decide +kernel, rfl, by decide +kernel, by decide +kernel⟩
def b_34 (c : Nat → Fn) : SemS :=
    (sSeq (sPar 3 5 (sCons (sDisp mkO sNil) (sCons (sDisp mkO (sCons (sVar 1) sNil)) sNil)))
    (sSeq (whileN (sT (sB oNe (sVar 5) (sDisp mkL sNil))) (sFor (sItems (sCall (c 33) (sCons (sVar 0) (sCons (sBm mPop (sVar 5) sNil) sNil)))) (gTupS 3 (gConsS (gN 6) (gConsS (gN 4) (gConsS (gN 2) gNilS)))) (sIfS (sAnd (sT (sB oEq (sVar 6) (sC (.str "wait")))) (sT (sB (oIn true) (sDisp mkT (sCons (sVar 4) (sCons (sVar 2) sNil))) (sVar 3)))) (sSeq (sDo (sBm mAppend (sVar 3) (sCons (sDisp mkT (sCons (sVar 4) (sCons (sVar 2) sNil))) sNil)))
    (sDo (sBm mAppend (sVar 5) (sCons (sDisp mkT (sCons (sVar 4) (sCons (sVar 2) sNil))) sNil)))) sNext)) 4096)
    (sRet (sFrz (sVar 3)))))
set_option linter.all false in
theorem ok_34 [Wd] {P : Program} {w : World} {K : PySem.W.Frag} {mg : Str → Option Value} {base : Heap} {k : Nat} {c : Nat → Fn} (hp : P = Wd.P ∧ w = Wd.w) (F : Fx K mg) (T : Tb P w K mg base k c) {f : Addr} {cdv : Value} {A : Around} {outer : List Env} {s : Shared} {H : Hp} {E : XK} (hr : Room (k + 1) (A.deeper (envOfC "_law_waited" (defScope (top 56)) s.heap.objs.size f cdv))) :
    SSs (Inn f (top 56) N_34 "_law_waited" P w K mg base cdv A outer s H E) E (defBody (top 56)) (b_34 c) := by
  have hu := room64 hr
  have hr0 := hr.mono (Nat.le_succ k)
  have sc := sc_34
  exact (sss_cons (ss_par (i := 3) (j := 5) rfl sc.nd rfl rfl (by decide) (by rfl) (by rfl) (sa_cons (se_lstO sa_nil) (sa_cons (se_lstO (sa_cons (se_var (pv 1)) sa_nil)) sa_nil)) (by rfl))
    (sss_cons (ss_while 4096 PassesOwn.never (st_cmp (op_neP hu) pr_ne (se_var (pv 5)) (se_lst sa_nil) (nomark _)) (sss_one (ss_for PassesOwn.never rfl (si_seq (se_call T.t33 hr0 (by rfl) (T.ar 33) (sa_cons (se_var (pv 0)) (sa_cons (se_pop (se_var (pv 5))) sa_nil)))) (sg_tup rfl (sgs_cons (sg_name (i := 6) sc.nd rfl (by first | exact .inl rfl | exact .inr rfl)) (sgs_cons (sg_name (i := 4) sc.nd rfl (by first | exact .inl rfl | exact .inr rfl)) (sgs_cons (sg_name (i := 2) sc.nd rfl (by first | exact .inl rfl | exact .inr rfl)) sgs_nil)))) (sss_one (ss_if (st_and (st_cmp (op_eqP hu) pr_eq (se_var (pv 6)) se_str (nomark _)) (st_and1 (st_cmp (op_notInA hu) (pr_in true) (se_tup (sa_cons (se_var (pv 4)) (sa_cons (se_var (pv 2)) sa_nil))) (se_var (pv 3)) (by rfl)))).pt (sss_cons (ss_expr (se_append (se_var (pv 3)) (sa_cons (se_tup (sa_cons (se_var (pv 4)) (sa_cons (se_var (pv 2)) sa_nil))) sa_nil)))
    (sss_one (ss_expr (se_append (se_var (pv 5)) (sa_cons (se_tup (sa_cons (se_var (pv 4)) (sa_cons (se_var (pv 2)) sa_nil))) sa_nil))))) sss_nil)))))
    (sss_one (ss_ret (se_frz (se_var (pv 3)))))))
/-! ### _law_starts -/
abbrev N_35 : List Str := ["_law_home_here", "_law_name", "_law_pair"]
theorem sc_35 : FnScope N_35 ["_law_home_here"] (defScope (top 57)) := ⟨rfl, rfl, rfl, by decide +kernel, rfl, by decide +kernel, by decide +kernel⟩
def b_35 (c : Nat → Fn) : SemS :=
    (sRet (sCall cDictP (sCons (sLc (sItems (sVar 0)) (gN 1) tYesS (sDisp mkT (sCons (sVar 1) (sCons (sSortSet mkL (sLc (sItems (sCall (c 34) (sCons (sVar 0) (sCons (sDisp mkT (sCons (sVar 1) (sCons (sC .none) sNil))) sNil)))) (gN 2) tYesS (sB oIx (sVar 2) (sC (.int 0))) [2] keepL)) sNil))) [1] keepL) sNil)))
set_option linter.all false in
theorem ok_35 [Wd] {P : Program} {w : World} {K : PySem.W.Frag} {mg : Str → Option Value} {base : Heap} {k : Nat} {c : Nat → Fn} (hp : P = Wd.P ∧ w = Wd.w) (F : Fx K mg) (T : Tb P w K mg base k c) {f : Addr} {cdv : Value} {A : Around} {outer : List Env} {s : Shared} {H : Hp} {E : XK} (hr : Room (k + 1) (A.deeper (envOfC "_law_starts" (defScope (top 57)) s.heap.objs.size f cdv))) :
    SSs (Inn f (top 57) N_35 "_law_starts" P w K mg base cdv A outer s H E) E (defBody (top 57)) (b_35 c) := by
  have hu := room64 hr
  have hr0 := hr.mono (Nat.le_succ k)
  have sc := sc_35
  exact (sss_one (ss_ret (se_callTy (call_dictP rfl) pr_dictP (by rfl) (F.m_dict) boot_dict (sa_cons (lc_v [("_law_name", 1)] keepL_ok rfl sc.nd (si_seq (se_var (pv 0))) (blkOk_by (N := N_35) (sc := defScope (top 57)) (own := [("_law_name", 1)]) (by decide +kernel)) rfl (fun _ _ _ _ _ => (pg_name (i := 1) sc.nd rfl (by first | exact .inl rfl | exact .inr rfl))) (gw_name (by decide)) (fun _ _ _ _ _ => spts_nil) (fun _ _ _ _ _ => (se_tup (sa_cons (se_var (pv 1)) (sa_cons (se_sortSet mkL_okE rfl hu (by rfl) (F.m_sorted) (by rfl) (F.m_set) (lc_v [("_law_pair", 2)] keepL_ok rfl sc.nd (si_seq (se_call T.t34 hr0 (by rfl) (T.ar 34) (sa_cons (se_var (pv 0)) (sa_cons (se_tup (sa_cons (se_var (pv 1)) (sa_cons se_non sa_nil))) sa_nil)))) (blkOk_by (own := [("_law_pair", 2)]) (by rfl)) rfl (fun _ _ _ _ _ => (pg_name (i := 2) sc.nd rfl (by first | exact .inl rfl | exact .inr rfl))) (gw_name (by decide)) (fun _ _ _ _ _ => spts_nil) (fun _ _ _ _ _ => (se_ix hu (se_var (pv 2)) se_int)))) sa_nil))))) sa_nil))))
/-! ### _law_needs -/
abbrev N_36 : List Str := ["_law_home_here", "_law_free", "_law_deed", "_law_found", "_law_name", "_law_pair"]
theorem sc_36 : FnScope N_36 ["_law_home_here", "_law_free"] (defScope (top 58)) := ⟨rfl, rfl, rfl, by decide +kernel, rfl, by decide +kernel, by decide +kernel⟩
def b_36 (c : Nat → Fn) : SemS :=
    (sSeq (sSet 3 (sCall (c 35) (sCons (sVar 0) sNil)))
    (sSeq (sFor (sItems (sVar 0)) (gN 4) (sIfS (sAnd (sT (sB oNotN (sB oIx (sB oIx (sVar 0) (sVar 4)) (sC (.int 0))) (sC .none))) (sT (sB (oIn true) (sVar 4) (sVar 1)))) (sFor (sItems (sB oIx (sB oIx (sVar 0) (sVar 4)) (sC (.int 2)))) (gN 2) (sPut (sVar 3) (sVar 4) (sB oAdd (sB oIx (sVar 3) (sVar 4)) (sLc (sItems (sCall (c 34) (sCons (sVar 0) (sCons (sDisp mkT (sCons (sVar 4) (sCons (sVar 2) sNil))) sNil)))) (gN 5) tYesS (sB oIx (sVar 5) (sC (.int 0))) [5] keepL)))) sNext))
    (sRet (sFrz (sVar 3)))))
set_option linter.all false in
theorem ok_36 [Wd] {P : Program} {w : World} {K : PySem.W.Frag} {mg : Str → Option Value} {base : Heap} {k : Nat} {c : Nat → Fn} (hp : P = Wd.P ∧ w = Wd.w) (F : Fx K mg) (T : Tb P w K mg base k c) {f : Addr} {cdv : Value} {A : Around} {outer : List Env} {s : Shared} {H : Hp} {E : XK} (hr : Room (k + 1) (A.deeper (envOfC "_law_needs" (defScope (top 58)) s.heap.objs.size f cdv))) :
    SSs (Inn f (top 58) N_36 "_law_needs" P w K mg base cdv A outer s H E) E (defBody (top 58)) (b_36 c) := by
  have hu := room64 hr
  have hr0 := hr.mono (Nat.le_succ k)
  have sc := sc_36
  exact (sss_cons (ss_set (i := 3) sc.nd rfl (by first | exact .inl rfl | exact .inr rfl) (se_call T.t35 hr0 (by rfl) (T.ar 35) (sa_cons (se_var (pv 0)) sa_nil)))
    (sss_cons (ss_for PassesOwn.never rfl (si_seq (se_var (pv 0))) (sg_name (i := 4) sc.nd rfl (by first | exact .inl rfl | exact .inr rfl)) (sss_one (ss_if (st_and (st_cmp op_notN pr_notN (se_ix hu (se_ix hu (se_var (pv 0)) (se_var (pv 4))) se_int) se_non (nomark _)) (st_and1 (st_cmp (op_notInA hu) (pr_in true) (se_var (pv 4)) (se_var (pv 1)) (by rfl)))).pt (sss_one (ss_for PassesOwn.never rfl (si_seq (se_ix hu (se_ix hu (se_var (pv 0)) (se_var (pv 4))) se_int)) (sg_name (i := 2) sc.nd rfl (by first | exact .inl rfl | exact .inr rfl)) (sss_one (ss_put hu (se_var (pv 3)) (se_var (pv 4)) (se_op op_addP pr_add (se_ix hu (se_var (pv 3)) (se_var (pv 4))) (lc_v [("_law_pair", 5)] keepL_ok rfl sc.nd (si_seq (se_call T.t34 hr0 (by rfl) (T.ar 34) (sa_cons (se_var (pv 0)) (sa_cons (se_tup (sa_cons (se_var (pv 4)) (sa_cons (se_var (pv 2)) sa_nil))) sa_nil)))) (blkOk_by (N := N_36) (sc := defScope (top 58)) (own := [("_law_pair", 5)]) (by decide +kernel)) rfl (fun _ _ _ _ _ => (pg_name (i := 5) sc.nd rfl (by first | exact .inl rfl | exact .inr rfl))) (gw_name (by decide)) (fun _ _ _ _ _ => spts_nil) (fun _ _ _ _ _ => (se_ix hu (se_var (pv 5)) se_int)))))))) sss_nil)))
    (sss_one (ss_ret (se_frz (se_var (pv 3)))))))
/-! ### _law_stuck -/
abbrev N_37 : List Str := ["_law_table", "_law_found", "_law_many", "_law_name", "_law_other"]
theorem sc_37 : FnScope N_37 ["_law_table"] (defScope (top 59)) := ⟨rfl, rfl, rfl, by decide +kernel, rfl, by decide +kernel, by decide +kernel⟩
def b_37 (c : Nat → Fn) : SemS :=
    (sSeq (sParN [1, 2] (sCons (sCall (cSortedA mkL) (sCons (sCall (cListB mkL) (sCons (sVar 0) sNil)) sNil)) (sCons (sC (.int (-1))) sNil)))
    (sSeq (whileN (sT (sB oNe (sVar 2) (sCall cLen (sCons (sVar 1) sNil)))) (sSeq (sSet 2 (sCall cLen (sCons (sVar 1) sNil)))
    (sSet 1 (sLc (sItems (sVar 1)) (gN 3) (sT (sB oNe (sLc (sItems (sB oIx (sVar 0) (sVar 3))) (gN 4) (sT (sB (oIn false) (sVar 4) (sVar 1))) (sVar 4) [4] keepL) (sDisp mkL sNil))) (sVar 3) [3] keepL))) 4096)
    (sRet (sVar 1))))
set_option linter.all false in
theorem ok_37 [Wd] {P : Program} {w : World} {K : PySem.W.Frag} {mg : Str → Option Value} {base : Heap} {k : Nat} {c : Nat → Fn} (hp : P = Wd.P ∧ w = Wd.w) (F : Fx K mg) (T : Tb P w K mg base k c) {f : Addr} {cdv : Value} {A : Around} {outer : List Env} {s : Shared} {H : Hp} {E : XK} (hr : Room (k + 1) (A.deeper (envOfC "_law_stuck" (defScope (top 59)) s.heap.objs.size f cdv))) :
    SSs (Inn f (top 59) N_37 "_law_stuck" P w K mg base cdv A outer s H E) E (defBody (top 59)) (b_37 c) := by
  have hu := room64 hr
  have hr0 := hr.mono (Nat.le_succ k)
  have sc := sc_37
  exact (sss_cons (ss_parN (is := [1, 2]) rfl (sa_cons (se_callB (call_sortA rfl hu) (pr_sortA mkL_okE) (by rfl) (F.m_sorted) boot_sorted (sa_cons (se_callTy (call_listA rfl) (pr_listA mkL_okE) (by rfl) (F.m_list) boot_list (sa_cons (se_var (pv 0)) sa_nil)) sa_nil)) (sa_cons se_neg sa_nil)) (pgs_cons (pg_name (i := 1) sc.nd rfl (by first | exact .inl rfl | exact .inr rfl)) (pgs_cons (pg_name (i := 2) sc.nd rfl (by first | exact .inl rfl | exact .inr rfl)) pgs_nil)))
    (sss_cons (ss_while 4096 PassesOwn.never (st_cmp (op_neP hu) pr_ne (se_var (pv 2)) (se_callB call_lenD2 pr_len (by rfl) (F.m_len) boot_len (sa_cons (se_var (pv 1)) sa_nil)) (nomark _)) (sss_cons (ss_set (i := 2) sc.nd rfl (by first | exact .inl rfl | exact .inr rfl) (se_callB call_lenD2 pr_len (by rfl) (F.m_len) boot_len (sa_cons (se_var (pv 1)) sa_nil)))
    (sss_one (ss_set (i := 1) sc.nd rfl (by first | exact .inl rfl | exact .inr rfl) (lc_v [("_law_name", 3)] keepL_ok rfl sc.nd (si_seq (se_var (pv 1))) (blkOk_by (N := N_37) (sc := defScope (top 59)) (own := [("_law_name", 3)]) (by decide +kernel)) rfl (fun _ _ _ _ _ => (pg_name (i := 3) sc.nd rfl (by first | exact .inl rfl | exact .inr rfl))) (gw_name (by decide)) (fun _ _ _ _ _ => (spts_one (st_cmp (op_neP hu) pr_ne (lc_v [("_law_other", 4)] keepL_ok rfl sc.nd (si_seq (se_ix hu (se_var (pv 0)) (se_var (pv 3)))) (blkOk_by (own := [("_law_other", 4)]) (by rfl)) rfl (fun _ _ _ _ _ => (pg_name (i := 4) sc.nd rfl (by first | exact .inl rfl | exact .inr rfl))) (gw_name (by decide)) (fun _ _ _ _ _ => (spts_one (st_cmp (op_inA hu) (pr_in false) (se_var (pv 4)) (se_var (pv 1)) (by rfl)))) (fun _ _ _ _ _ => (se_var (pv 4)))) (se_lst sa_nil) (nomark _)))) (fun _ _ _ _ _ => (se_var (pv 3))))))))
    (sss_one (ss_ret (se_var (pv 1))))))
/-! ### _law_calm -/
abbrev N_38 : List Str := ["_law_state", "_law_home_here", "_law_at", "_law_begin", "_law_far", "_law_found", "_law_name", "_law_names_here", "_law_step", "_law_steps_here", "_law_table", "_law_workers", "_law_pair", "_law_one"]
theorem sc_38 : FnScope N_38 ["_law_state", "_law_home_here"] (defScope (top 60)) := ⟨rfl, rfl, rfl, by decide +kernel, rfl, by decide +kernel, by decide +kernel⟩
def b_38 (c : Nat → Fn) : SemS :=
    (sSeq (sParN [7, 5] (sCons (sCall (c 29) (sCons (sVar 0) (sCons (sCall (cListB mkL) (sCons (sVar 1) sNil)) sNil))) (sCons sDict0 sNil)))
    (sSeq (sFor (sEnumA (sVar 7)) (gTupS 2 (gConsS (gN 2) (gConsS (gN 6) gNilS))) (sSeq (sAsg (sB oIx (sVar 1) (sVar 6)) (gTupS 3 (gConsS (gN 11) (gConsS (gN 3) (gConsS (gN 10) gNilS)))))
    (sSeq (sSet 9 (sDisp mkO sNil))
    (sSeq (sFor (sItems (sVar 3)) (gN 8) (sSeq (sSet 4 (sB oAdd (sDisp mkL (sCons (sB oIx (sVar 8) (sC (.int 1))) sNil)) (sLc (sItems (sCall (c 34) (sCons (sVar 1) (sCons (sSl (sVar 8) (oSome (sC (.int 1))) oNone) sNil)))) (gN 12) tYesS (sB oIx (sVar 12) (sC (.int 0))) [12] keepL)))
    (sIfS (sOr (sT (sB oEq (sB oIx (sVar 8) (sC (.int 0))) (sC (.str "post")))) (sT (sB oEq (sLc (sItems (sVar 4)) (gN 13) (sT (sB (oIn true) (sVar 13) (sSl (sVar 7) oNone (oSome (sVar 2))))) (sVar 13) [13] keepL) (sDisp mkL sNil)))) (sDo (sBm mAppend (sVar 9) (sCons (sVar 8) sNil))) sNext)))
    (sPut (sVar 5) (sVar 6) (sDisp mkT (sCons (sVar 11) (sCons (sCall cTupOf (sCons (sVar 9) sNil)) (sCons (sVar 10) sNil)))))))))
    (sRet (sFrz (sVar 5)))))
set_option linter.all false in
theorem ok_38 [Wd] {P : Program} {w : World} {K : PySem.W.Frag} {mg : Str → Option Value} {base : Heap} {k : Nat} {c : Nat → Fn} (hp : P = Wd.P ∧ w = Wd.w) (F : Fx K mg) (T : Tb P w K mg base k c) {f : Addr} {cdv : Value} {A : Around} {outer : List Env} {s : Shared} {H : Hp} {E : XK} (hr : Room (k + 1) (A.deeper (envOfC "_law_calm" (defScope (top 60)) s.heap.objs.size f cdv))) :
    SSs (Inn f (top 60) N_38 "_law_calm" P w K mg base cdv A outer s H E) E (defBody (top 60)) (b_38 c) := by
  have hu := room64 hr
  have hr0 := hr.mono (Nat.le_succ k)
  have sc := sc_38
  exact (sss_cons (ss_parN (is := [7, 5]) rfl (sa_cons (se_call T.t29 hr0 (by rfl) (T.ar 29) (sa_cons (se_var (pv 0)) (sa_cons (se_callTy (call_listA rfl) (pr_listA mkL_okE) (by rfl) (F.m_list) boot_list (sa_cons (se_var (pv 1)) sa_nil)) sa_nil))) (sa_cons se_dict0 sa_nil)) (pgs_cons (pg_name (i := 7) sc.nd rfl (by first | exact .inl rfl | exact .inr rfl)) (pgs_cons (pg_name (i := 5) sc.nd rfl (by first | exact .inl rfl | exact .inr rfl)) pgs_nil)))
    (sss_cons (ss_for PassesOwn.never rfl (si_enumA (by rfl) (F.m_enumerate) (se_var (pv 7))) (sg_tup rfl (sgs_cons (sg_name (i := 2) sc.nd rfl (by first | exact .inl rfl | exact .inr rfl)) (sgs_cons (sg_name (i := 6) sc.nd rfl (by first | exact .inl rfl | exact .inr rfl)) sgs_nil))) (sss_cons (ss_asg (se_ix hu (se_var (pv 1)) (se_var (pv 6))) (sg_tup rfl (sgs_cons (sg_name (i := 11) sc.nd rfl (by first | exact .inl rfl | exact .inr rfl)) (sgs_cons (sg_name (i := 3) sc.nd rfl (by first | exact .inl rfl | exact .inr rfl)) (sgs_cons (sg_name (i := 10) sc.nd rfl (by first | exact .inl rfl | exact .inr rfl)) sgs_nil)))))
    (sss_cons (ss_set (i := 9) sc.nd rfl (by first | exact .inl rfl | exact .inr rfl) (se_lstO sa_nil))
    (sss_cons (ss_for PassesOwn.never rfl (si_seq (se_var (pv 3))) (sg_name (i := 8) sc.nd rfl (by first | exact .inl rfl | exact .inr rfl)) (sss_cons (ss_set (i := 4) sc.nd rfl (by first | exact .inl rfl | exact .inr rfl) (se_op op_addP pr_add (se_lst (sa_cons (se_ix hu (se_var (pv 8)) se_int) sa_nil)) (lc_v [("_law_pair", 12)] keepL_ok rfl sc.nd (si_seq (se_call T.t34 hr0 (by rfl) (T.ar 34) (sa_cons (se_var (pv 1)) (sa_cons (se_sl (se_var (pv 8)) (so_some se_int) so_none) sa_nil)))) (blkOk_by (N := N_38) (sc := defScope (top 60)) (own := [("_law_pair", 12)]) (by decide +kernel)) rfl (fun _ _ _ _ _ => (pg_name (i := 12) sc.nd rfl (by first | exact .inl rfl | exact .inr rfl))) (gw_name (by decide)) (fun _ _ _ _ _ => spts_nil) (fun _ _ _ _ _ => (se_ix hu (se_var (pv 12)) se_int)))))
    (sss_one (ss_if (st_or (st_cmp (op_eqP hu) pr_eq (se_ix hu (se_var (pv 8)) se_int) se_str (nomark _)) (st_or1 (st_cmp (op_eqP hu) pr_eq (lc_v [("_law_one", 13)] keepL_ok rfl sc.nd (si_seq (se_var (pv 4))) (blkOk_by (N := N_38) (sc := defScope (top 60)) (own := [("_law_one", 13)]) (by decide +kernel)) rfl (fun _ _ _ _ _ => (pg_name (i := 13) sc.nd rfl (by first | exact .inl rfl | exact .inr rfl))) (gw_name (by decide)) (fun _ _ _ _ _ => (spts_one (st_cmp (op_notInA hu) (pr_in true) (se_var (pv 13)) (se_sl (se_var (pv 7)) so_none (so_some (se_var (pv 2)))) (by rfl)))) (fun _ _ _ _ _ => (se_var (pv 13)))) (se_lst sa_nil) (nomark _)))).pt (sss_one (ss_expr (se_append (se_var (pv 9)) (sa_cons (se_var (pv 8)) sa_nil)))) sss_nil))))
    (sss_one (ss_put hu (se_var (pv 5)) (se_var (pv 6)) (se_tup (sa_cons (se_var (pv 11)) (sa_cons (se_callTy call_tuple_of pr_tupOf (by rfl) (F.m_tuple) boot_tuple (sa_cons (se_var (pv 9)) sa_nil)) (sa_cons (se_var (pv 10)) sa_nil))))))))))
    (sss_one (ss_ret (se_frz (se_var (pv 5)))))))
/-! ### _law_drawn -/
abbrev N_39 : List Str := ["_law_state", "_law_most", "_law_many", "_law_cap", "_law_home_here"]
theorem sc_39 : FnScope N_39 ["_law_state", "_law_most", "_law_many", "_law_cap"] (defScope (top 61)) := ⟨rfl, rfl, rfl, by decide +kernel, rfl, by decide +kernel, by decide +kernel⟩
def b_39 (c : Nat → Fn) : SemS :=
    (sSeq (sSet 4 (sCall (c 32) (sCons (sVar 0) (sCons (sVar 1) (sCons (sVar 2) (sCons (sVar 3) sNil))))))
    (sRet (sIf (sT (sB oEq (sCall (c 27) (sCons (sVar 0) (sCons (sC (.int 3)) sNil))) (sC (.int 0)))) (sVar 4) (sCall (c 38) (sCons (sVar 0) (sCons (sVar 4) sNil))))))
set_option linter.all false in
theorem ok_39 [Wd] {P : Program} {w : World} {K : PySem.W.Frag} {mg : Str → Option Value} {base : Heap} {k : Nat} {c : Nat → Fn} (hp : P = Wd.P ∧ w = Wd.w) (F : Fx K mg) (T : Tb P w K mg base k c) {f : Addr} {cdv : Value} {A : Around} {outer : List Env} {s : Shared} {H : Hp} {E : XK} (hr : Room (k + 1) (A.deeper (envOfC "_law_drawn" (defScope (top 61)) s.heap.objs.size f cdv))) :
    SSs (Inn f (top 61) N_39 "_law_drawn" P w K mg base cdv A outer s H E) E (defBody (top 61)) (b_39 c) := by
  have hu := room64 hr
  have hr0 := hr.mono (Nat.le_succ k)
  have sc := sc_39
  exact (sss_cons (ss_set (i := 4) sc.nd rfl (by first | exact .inl rfl | exact .inr rfl) (se_call T.t32 hr0 (by rfl) (T.ar 32) (sa_cons (se_var (pv 0)) (sa_cons (se_var (pv 1)) (sa_cons (se_var (pv 2)) (sa_cons (se_var (pv 3)) sa_nil))))))
    (sss_one (ss_ret (se_ifexp (st_cmp (op_eqP hu) pr_eq (se_call T.t27 hr0 (by rfl) (T.ar 27) (sa_cons (se_var (pv 0)) (sa_cons se_int sa_nil))) se_int (nomark _)) (se_var (pv 4)) (se_call T.t38 hr0 (by rfl) (T.ar 38) (sa_cons (se_var (pv 0)) (sa_cons (se_var (pv 4)) sa_nil)))))))
/-! ### _law_absent -/
abbrev N_40 : List Str := ["_law_names_here", "_law_letters", "_law_sign"]
theorem sc_40 : FnScope N_40 ["_law_names_here"] (defScope (top 62)) := ⟨rfl, rfl, rfl, by decide +kernel, rfl, by decide +kernel, by decide +kernel⟩
def b_40 (c : Nat → Fn) : SemS :=
    (sSeq (sSet 1 (sC (.str "abcdefghijklmnopqrstuvwxyz")))
    (sRet (sB oIx (sLc (sItems (sVar 1)) (gN 2) (sT (sB (oIn true) (sB oMul (sVar 2) (sC (.int 8))) (sVar 0))) (sB oMul (sVar 2) (sC (.int 8))) [2] keepL) (sC (.int 0)))))
set_option linter.all false in
theorem ok_40 [Wd] {P : Program} {w : World} {K : PySem.W.Frag} {mg : Str → Option Value} {base : Heap} {k : Nat} {c : Nat → Fn} (hp : P = Wd.P ∧ w = Wd.w) (F : Fx K mg) (T : Tb P w K mg base k c) {f : Addr} {cdv : Value} {A : Around} {outer : List Env} {s : Shared} {H : Hp} {E : XK} (hr : Room (k + 1) (A.deeper (envOfC "_law_absent" (defScope (top 62)) s.heap.objs.size f cdv))) :
    SSs (Inn f (top 62) N_40 "_law_absent" P w K mg base cdv A outer s H E) E (defBody (top 62)) (b_40 c) := by
  have hu := room64 hr
  have hr0 := hr.mono (Nat.le_succ k)
  have sc := sc_40
  exact (sss_cons (ss_set (i := 1) sc.nd rfl (by first | exact .inl rfl | exact .inr rfl) se_str)
    (sss_one (ss_ret (se_ix hu (lc_v [("_law_sign", 2)] keepL_ok rfl sc.nd (si_seq (se_var (pv 1))) (blkOk_by (N := N_40) (sc := defScope (top 62)) (own := [("_law_sign", 2)]) (by decide +kernel)) rfl (fun _ _ _ _ _ => (pg_name (i := 2) sc.nd rfl (by first | exact .inl rfl | exact .inr rfl))) (gw_name (by decide)) (fun _ _ _ _ _ => (spts_one (st_cmp (op_notInA hu) (pr_in true) (se_op op_mulP pr_mul (se_var (pv 2)) se_int) (se_var (pv 0)) (by rfl)))) (fun _ _ _ _ _ => (se_op op_mulP pr_mul (se_var (pv 2)) se_int))) se_int))))
/-! ### _law_odds -/
abbrev N_41 : List Str := ["_law_names_here", "_law_absent_here", "_law_some", "_law_name"]
theorem sc_41 : FnScope N_41 ["_law_names_here"] (defScope (top 63)) := ⟨rfl, rfl, rfl, by decide +kernel, rfl, by decide +kernel, by decide +kernel⟩
def b_41 (c : Nat → Fn) : SemS :=
    (sSeq (sSet 1 (sCall (c 40) (sCons (sVar 0) sNil)))
    (sSeq (sSet 2 (sDisp mkL (sCons (sC .none) (sCons (sC (.int 5)) (sCons (sC (.bool true)) (sCons (sC (.str "")) (sCons (sB oIx (sVar 0) (sC (.int 0))) (sCons (sFrz sDict0) (sCons (sFrz (sCall cDictP (sCons (sLc (sItems (sVar 0)) (gN 3) tYesS (sDisp mkT (sCons (sVar 3) (sCons (sC (.bool true)) sNil))) [3] keepL) sNil))) (sCons (sDisp mkL (sCons (sVar 1) sNil)) (sCons (sB oAdd (sVar 0) (sDisp mkL (sCons (sVar 1) sNil))) sNil)))))))))))
    (sRet (sB oAdd (sVar 2) (sDisp mkL (sCons (sDisp mkL (sCons (sB oIx (sVar 0) (sC (.int 0))) (sCons (sB oIx (sVar 0) (sC (.int 0))) sNil))) (sCons (sB oAdd (sVar 0) (sSl (sVar 0) oNone (oSome (sC (.int 1))))) (sCons (sDisp mkL (sCons (sC .none) sNil)) (sCons (sDisp mkL (sCons (sDisp mkL (sCons (sB oIx (sVar 0) (sC (.int 0))) sNil)) sNil)) (sCons (sDisp mkL (sCons (sVar 0) sNil)) (sCons (sDisp mkT (sCons (sB oIx (sVar 0) (sC (.int 0))) (sCons (sC (.int 0)) sNil))) (sCons (sDisp mkL (sCons (sC (.bool true)) sNil)) sNil))))))))))))
set_option linter.all false in
theorem ok_41 [Wd] {P : Program} {w : World} {K : PySem.W.Frag} {mg : Str → Option Value} {base : Heap} {k : Nat} {c : Nat → Fn} (hp : P = Wd.P ∧ w = Wd.w) (F : Fx K mg) (T : Tb P w K mg base k c) {f : Addr} {cdv : Value} {A : Around} {outer : List Env} {s : Shared} {H : Hp} {E : XK} (hr : Room (k + 1) (A.deeper (envOfC "_law_odds" (defScope (top 63)) s.heap.objs.size f cdv))) :
    SSs (Inn f (top 63) N_41 "_law_odds" P w K mg base cdv A outer s H E) E (defBody (top 63)) (b_41 c) := by
  have hu := room64 hr
  have hr0 := hr.mono (Nat.le_succ k)
  have sc := sc_41
  exact (sss_cons (ss_set (i := 1) sc.nd rfl (by first | exact .inl rfl | exact .inr rfl) (se_call T.t40 hr0 (by rfl) (T.ar 40) (sa_cons (se_var (pv 0)) sa_nil)))
    (sss_cons (ss_set (i := 2) sc.nd rfl (by first | exact .inl rfl | exact .inr rfl) (se_lst (sa_cons se_non (sa_cons se_int (sa_cons se_bl (sa_cons se_str (sa_cons (se_ix hu (se_var (pv 0)) se_int) (sa_cons (se_frz se_dict0) (sa_cons (se_frz (se_callTy (call_dictP rfl) pr_dictP (by rfl) (F.m_dict) boot_dict (sa_cons (lc_v [("_law_name", 3)] keepL_ok rfl sc.nd (si_seq (se_var (pv 0))) (blkOk_by (N := N_41) (sc := defScope (top 63)) (own := [("_law_name", 3)]) (by decide +kernel)) rfl (fun _ _ _ _ _ => (pg_name (i := 3) sc.nd rfl (by first | exact .inl rfl | exact .inr rfl))) (gw_name (by decide)) (fun _ _ _ _ _ => spts_nil) (fun _ _ _ _ _ => (se_tup (sa_cons (se_var (pv 3)) (sa_cons se_bl sa_nil))))) sa_nil))) (sa_cons (se_lst (sa_cons (se_var (pv 1)) sa_nil)) (sa_cons (se_op op_addP pr_add (se_var (pv 0)) (se_lst (sa_cons (se_var (pv 1)) sa_nil))) sa_nil)))))))))))
    (sss_one (ss_ret (se_op op_addP pr_add (se_var (pv 2)) (se_lst (sa_cons (se_lst (sa_cons (se_ix hu (se_var (pv 0)) se_int) (sa_cons (se_ix hu (se_var (pv 0)) se_int) sa_nil))) (sa_cons (se_op op_addP pr_add (se_var (pv 0)) (se_sl (se_var (pv 0)) so_none (so_some se_int))) (sa_cons (se_lst (sa_cons se_non sa_nil)) (sa_cons (se_lst (sa_cons (se_lst (sa_cons (se_ix hu (se_var (pv 0)) se_int) sa_nil)) sa_nil)) (sa_cons (se_lst (sa_cons (se_var (pv 0)) sa_nil)) (sa_cons (se_tup (sa_cons (se_ix hu (se_var (pv 0)) se_int) (sa_cons se_int sa_nil))) (sa_cons (se_lst (sa_cons se_bl sa_nil)) sa_nil)))))))))))))
/-! ### House.__init__ -/
abbrev N_42 : List Str := ["self", "services", "known", "name", "rings", "script", "table", "workers", "call", "method"]
theorem sc_42 : FnScope N_42 ["self", "services"] (defScope (inClass (top 31) 0)) := ⟨rfl, rfl, rfl, by decide +kernel, rfl, by decide +kernel, by decide +kernel⟩
def b_42 (c : Nat → Fn) : SemS :=
    (sSeq (sIfS (sNot (sT (sCall (c 7) (sCons (sVar 1) sNil)))) sBad sNext)
    (sSeq (sFldS "House" "names" (sVar 0) (sCall (cSortedA mkL) (sCons (sCall (cListB mkL) (sCons (sVar 1) sNil)) sNil)))
    (sSeq (sFldS "House" "parts" (sVar 0) sDict0)
    (sSeq (sFor (sItems (sFldG "House" "names" (sVar 0))) (gN 3) (sSeq (sAsg (sB oIx (sVar 1) (sVar 3)) (gTupS 3 (gConsS (gN 7) (gConsS (gN 5) (gConsS (gN 6) gNilS)))))
    (sPut (sFldG "House" "parts" (sVar 0)) (sVar 3) (sDisp mkT (sCons (sVar 7) (sCons (sVar 5) (sCons (sFrz (sDc dputK (sItems (sCall (cSortedA mkL) (sCons (sCall (cListB mkL) (sCons (sVar 6) sNil)) sNil))) (gN 9) tYesS (sVar 9) (sB oIx (sVar 6) (sVar 9)) [9] keepDO)) sNil)))))))
    (sSeq (sFldS "House" "waited" (sVar 0) (sDc dputT (sItems (sCall (c 12) (sCons (sFldG "House" "parts" (sVar 0)) sNil))) (gN 8) tYesS (sVar 8) (sCall (c 10) (sCons (sFldG "House" "parts" (sVar 0)) (sCons (sVar 8) sNil))) [8] keepTO))
    (sSeq (sSet 4 (sLc (sItems (sCall (cListB mkL) (sCons (sFldG "House" "waited" (sVar 0)) sNil))) (gN 8) (sT (sB (oIn false) (sVar 8) (sB oIxT (sFldG "House" "waited" (sVar 0)) (sVar 8)))) (sVar 8) [8] keepL))
    (sSeq (sIfS (sT (sB oNe (sVar 4) (sDisp mkL sNil))) sBad sNext)
    (sSeq (sSet 2 sDictT)
    (sSeq (sIfS (sT (sB oGt (sCall cMaxL (sCons (sLc (sItems (sCall (cListB mkL) (sCons (sFldG "House" "waited" (sVar 0)) sNil))) (gN 8) tYesS (sCall (c 11) (sCons (sFldG "House" "parts" (sVar 0)) (sCons (sVar 8) (sCons (sVar 2) sNil)))) [8] keepL) sNil)) (sC (.int 30)))) sBad sNext)
    (sFldS "House" "wanted" (sVar 0) (sDc dputK (sItems (sFldG "House" "names" (sVar 0))) (gN 3) tYesS (sVar 3) (sCall (c 13) (sCons (sFldG "House" "parts" (sVar 0)) (sCons (sFldG "House" "waited" (sVar 0)) (sCons (sVar 3) sNil)))) [3] keepDO)))))))))))
set_option linter.all false in
theorem ok_42 [Wd] {P : Program} {w : World} {K : PySem.W.Frag} {mg : Str → Option Value} {base : Heap} {k : Nat} {c : Nat → Fn} (hp : P = Wd.P ∧ w = Wd.w) (F : Fx K mg) (T : Tb P w K mg base k c) {f : Addr} {cdv : Value} {A : Around} {outer : List Env} {s : Shared} {H : Hp} {E : XK} (hr : Room (k + 1) (A.deeper (envOfC "House.__init__" (defScope (inClass (top 31) 0)) s.heap.objs.size f cdv))) :
    SSs (Inn f (inClass (top 31) 0) N_42 "House.__init__" P w K mg base cdv A outer s H E) E (defBody (inClass (top 31) 0)) (b_42 c) := by
  have hu := room64 hr
  have hr0 := hr.mono (Nat.le_succ k)
  have sc := sc_42
  obtain ⟨t_MOST_CALLS, g_MOST_CALLS⟩ := F.g_MOST_CALLS
  obtain ⟨C, hC, cl, n_names, n_parts, n_waited, n_wanted⟩ := F.house
  exact (sss_cons (ss_if (st_not (st_val (se_call T.t7 hr0 (by rfl) (T.ar 7) (sa_cons (se_var (pv 1)) sa_nil)))) (sss_one ss_never) sss_nil)
    (sss_cons (ss_fld (se_var (pv 0)) (se_callB (call_sortA rfl hu) (pr_sortA mkL_okE) (by rfl) (F.m_sorted) boot_sorted (sa_cons (se_callTy (call_listA rfl) (pr_listA mkL_okE) (by rfl) (F.m_list) boot_list (sa_cons (se_var (pv 1)) sa_nil)) sa_nil)) hC cl n_names)
    (sss_cons (ss_fld (se_var (pv 0)) se_dict0 hC cl n_parts)
    (sss_cons (ss_for PassesOwn.never rfl (si_seq (se_fld (se_var (pv 0)) hC cl n_names)) (sg_name (i := 3) sc.nd rfl (by first | exact .inl rfl | exact .inr rfl)) (sss_cons (ss_asg (se_ix hu (se_var (pv 1)) (se_var (pv 3))) (sg_tup rfl (sgs_cons (sg_name (i := 7) sc.nd rfl (by first | exact .inl rfl | exact .inr rfl)) (sgs_cons (sg_name (i := 5) sc.nd rfl (by first | exact .inl rfl | exact .inr rfl)) (sgs_cons (sg_name (i := 6) sc.nd rfl (by first | exact .inl rfl | exact .inr rfl)) sgs_nil)))))
    (sss_one (ss_put hu (se_fld (se_var (pv 0)) hC cl n_parts) (se_var (pv 3)) (se_tup (sa_cons (se_var (pv 7)) (sa_cons (se_var (pv 5)) (sa_cons (se_frz (dcK_v [("method", 9)] rfl sc.nd (si_seq (se_callB (call_sortA rfl hu) (pr_sortA mkL_okE) (by rfl) (F.m_sorted) boot_sorted (sa_cons (se_callTy (call_listA rfl) (pr_listA mkL_okE) (by rfl) (F.m_list) boot_list (sa_cons (se_var (pv 6)) sa_nil)) sa_nil))) (blkOk_by (N := N_42) (sc := defScope (inClass (top 31) 0)) (own := [("method", 9)]) (by decide +kernel)) rfl (fun _ _ _ _ _ => (pg_name (i := 9) sc.nd rfl (by first | exact .inl rfl | exact .inr rfl))) (gw_name (by decide)) (fun _ _ _ _ _ => spts_nil) (fun _ _ _ _ _ => (se_var (pv 9))) (fun _ _ _ _ _ => (se_ix hu (se_var (pv 6)) (se_var (pv 9)))))) sa_nil))))))))
    (sss_cons (ss_fld (se_var (pv 0)) (dcT_v [("call", 8)] hp hu rfl sc.nd (si_seq (se_call T.t12 hr0 (by rfl) (T.ar 12) (sa_cons (se_fld (se_var (pv 0)) hC cl n_parts) sa_nil))) (blkOk_by (N := N_42) (sc := defScope (inClass (top 31) 0)) (own := [("call", 8)]) (by decide +kernel)) rfl (fun _ _ _ _ _ => (pg_name (i := 8) sc.nd rfl (by first | exact .inl rfl | exact .inr rfl))) (gw_name (by decide)) (fun _ _ _ _ _ => spts_nil) (fun _ _ _ _ _ => (se_var (pv 8))) (fun _ _ _ _ _ => (se_call T.t10 hr0 (by rfl) (T.ar 10) (sa_cons (se_fld (se_var (pv 0)) hC cl n_parts) (sa_cons (se_var (pv 8)) sa_nil))))) hC cl n_waited)
    (sss_cons (set_lc_v [("call", 8)] (i := 4) keepL_ok rfl sc.nd rfl (by rfl) (by rfl) (si_seq (se_callTy (call_listA rfl) (pr_listA mkL_okE) (by rfl) (F.m_list) boot_list (sa_cons (se_fld (se_var (pv 0)) hC cl n_waited) sa_nil))) (blkOk_by (N := N_42) (sc := defScope (inClass (top 31) 0)) (own := [("call", 8)]) (by decide +kernel)) rfl (fun _ _ _ _ _ => (pg_name (i := 8) sc.nd rfl (by first | exact .inl rfl | exact .inr rfl))) (gw_name (by decide)) (fun _ _ _ _ _ => (spts_one (st_cmp (op_inA hu) (pr_in false) (se_var (pv 8)) (se_ixT hp hu (se_fld (se_var (pv 0)) hC cl n_waited) (se_var (pv 8))) (by rfl)))) (fun _ _ _ _ _ => (se_var (pv 8))))
    (sss_cons (ss_if (st_cmp (op_neP hu) pr_ne (se_var (pv 4)) (se_lst sa_nil) (nomark _)) (sss_one ss_never) sss_nil)
    (sss_cons (ss_set (i := 2) sc.nd rfl (by first | exact .inl rfl | exact .inr rfl) se_dictT)
    (sss_cons (ss_if (st_cmp op_gt (pr_cI _) (se_callB (cr_max rfl) pr_maxL (by rfl) (F.m_max) boot_max (sa_cons (lc_v [("call", 8)] keepL_ok rfl sc.nd (si_seq (se_callTy (call_listA rfl) (pr_listA mkL_okE) (by rfl) (F.m_list) boot_list (sa_cons (se_fld (se_var (pv 0)) hC cl n_waited) sa_nil))) (blkOk_by (N := N_42) (sc := defScope (inClass (top 31) 0)) (own := [("call", 8)]) (by decide +kernel)) rfl (fun _ _ _ _ _ => (pg_name (i := 8) sc.nd rfl (by first | exact .inl rfl | exact .inr rfl))) (gw_name (by decide)) (fun _ _ _ _ _ => spts_nil) (fun _ _ _ _ _ => (se_call T.t11 hr0 (by rfl) (T.ar 11) (sa_cons (se_fld (se_var (pv 0)) hC cl n_parts) (sa_cons (se_var (pv 8)) (sa_cons (se_var (pv 2)) sa_nil)))))) sa_nil)) (se_gint (by rfl) g_MOST_CALLS) (nomark _)) (sss_one ss_never) sss_nil)
    (sss_one (ss_fld (se_var (pv 0)) (dcK_v [("name", 3)] rfl sc.nd (si_seq (se_fld (se_var (pv 0)) hC cl n_names)) (blkOk_by (N := N_42) (sc := defScope (inClass (top 31) 0)) (own := [("name", 3)]) (by decide +kernel)) rfl (fun _ _ _ _ _ => (pg_name (i := 3) sc.nd rfl (by first | exact .inl rfl | exact .inr rfl))) (gw_name (by decide)) (fun _ _ _ _ _ => spts_nil) (fun _ _ _ _ _ => (se_var (pv 3))) (fun _ _ _ _ _ => (se_call T.t13 hr0 (by rfl) (T.ar 13) (sa_cons (se_fld (se_var (pv 0)) hC cl n_parts) (sa_cons (se_fld (se_var (pv 0)) hC cl n_waited) (sa_cons (se_var (pv 3)) sa_nil)))))) hC cl n_wanted)))))))))))
/-! ### House.__eq__ -/
abbrev N_43 : List Str := ["self", "other"]
theorem sc_43 : FnScope N_43 ["self", "other"] (defScope (inClass (top 31) 3)) := ⟨rfl, rfl, rfl, by decide +kernel, rfl, by decide +kernel, by decide +kernel⟩
noncomputable def b_43 (c : Nat → Fn) : SemS :=
    (sRet (sAndV (sIsC "House" (sVar 1)) (sB oEqS (sFldG "House" "parts" (sVar 0)) (sFldG "House" "parts" (sVar 1)))))
set_option linter.all false in
theorem ok_43 [Wd] {P : Program} {w : World} {K : PySem.W.Frag} {mg : Str → Option Value} {base : Heap} {k : Nat} {c : Nat → Fn} (hp : P = Wd.P ∧ w = Wd.w) (F : Fx K mg) (T : Tb P w K mg base k c) {f : Addr} {cdv : Value} {A : Around} {outer : List Env} {s : Shared} {H : Hp} {E : XK} (hr : Room (k + 1) (A.deeper (envOfC "House.__eq__" (defScope (inClass (top 31) 3)) s.heap.objs.size f cdv))) :
    SSs (Inn f (inClass (top 31) 3) N_43 "House.__eq__" P w K mg base cdv A outer s H E) E (defBody (inClass (top 31) 3)) (b_43 c) := by
  have hu := room64 hr
  have hr0 := hr.mono (Nat.le_succ k)
  have sc := sc_43
  obtain ⟨CI, hI, ic⟩ := F.isC
  obtain ⟨C, hC, cl, n_names, n_parts, n_waited, n_wanted⟩ := F.house
  exact (sss_one (ss_ret (se_and (se_isC ic (se_var (pv 1)) (by rfl) (F.m_isinstance) (by rfl) hI) (se_one (se_cmp (op_eqSame hu) pr_eqS (se_fld (se_var (pv 0)) hC cl n_parts) (se_fld (se_var (pv 1)) hC cl n_parts) (nomark _))))))
/-! ### House.need_service -/
abbrev N_44 : List Str := ["self", "service"]
theorem sc_44 : FnScope N_44 ["self", "service"] (defScope (inClass (top 31) 4)) := ⟨rfl, rfl, rfl, by decide +kernel, rfl, by decide +kernel, by decide +kernel⟩
def b_44 (c : Nat → Fn) : SemS :=
    (sIfS (sOr (sNot (sT (sIsi (isD "str") (sVar 1)))) (sT (sB (oIn true) (sVar 1) (sFldG "House" "parts" (sVar 0))))) sBad sNext)
set_option linter.all false in
theorem ok_44 [Wd] {P : Program} {w : World} {K : PySem.W.Frag} {mg : Str → Option Value} {base : Heap} {k : Nat} {c : Nat → Fn} (hp : P = Wd.P ∧ w = Wd.w) (F : Fx K mg) (T : Tb P w K mg base k c) {f : Addr} {cdv : Value} {A : Around} {outer : List Env} {s : Shared} {H : Hp} {E : XK} (hr : Room (k + 1) (A.deeper (envOfC "House.need_service" (defScope (inClass (top 31) 4)) s.heap.objs.size f cdv))) :
    SSs (Inn f (inClass (top 31) 4) N_44 "House.need_service" P w K mg base cdv A outer s H E) E (defBody (inClass (top 31) 4)) (b_44 c) := by
  have hu := room64 hr
  have hr0 := hr.mono (Nat.le_succ k)
  have sc := sc_44
  obtain ⟨C, hC, cl, n_names, n_parts, n_waited, n_wanted⟩ := F.house
  exact (sss_one (ss_if (st_or (st_not (st_val (se_isi kn_str (se_var (pv 1)) (by rfl) (F.m_isinstance) (by rfl) (F.m_str) boot_str))) (st_or1 (st_cmp (op_notInA hu) (pr_in true) (se_var (pv 1)) (se_fld (se_var (pv 0)) hC cl n_parts) (by rfl)))).pt (sss_one ss_never) sss_nil))
/-! ### House.need_method -/
abbrev N_45 : List Str := ["self", "service", "method"]
theorem sc_45 : FnScope N_45 ["self", "service", "method"] (defScope (inClass (top 31) 5)) := ⟨rfl, rfl, rfl, by decide +kernel, rfl, by decide +kernel, by decide +kernel⟩
def b_45 (c : Nat → Fn) : SemS :=
    (sSeq (sDo (sMeth "House" "need_service" (c 44) (sVar 0) (sCons (sVar 1) sNil)))
    (sIfS (sOr (sNot (sT (sIsi (isD "str") (sVar 2)))) (sT (sB (oIn true) (sVar 2) (sB oIx (sB oIx (sFldG "House" "parts" (sVar 0)) (sVar 1)) (sC (.int 2)))))) sBad sNext))
set_option linter.all false in
theorem ok_45 [Wd] {P : Program} {w : World} {K : PySem.W.Frag} {mg : Str → Option Value} {base : Heap} {k : Nat} {c : Nat → Fn} (hp : P = Wd.P ∧ w = Wd.w) (F : Fx K mg) (T : Tb P w K mg base k c) {f : Addr} {cdv : Value} {A : Around} {outer : List Env} {s : Shared} {H : Hp} {E : XK} (hr : Room (k + 1) (A.deeper (envOfC "House.need_method" (defScope (inClass (top 31) 5)) s.heap.objs.size f cdv))) :
    SSs (Inn f (inClass (top 31) 5) N_45 "House.need_method" P w K mg base cdv A outer s H E) E (defBody (inClass (top 31) 5)) (b_45 c) := by
  have hu := room64 hr
  have hr0 := hr.mono (Nat.le_succ k)
  have sc := sc_45
  obtain ⟨C, hC, cl, n_names, n_parts, n_waited, n_wanted⟩ := F.house
  exact (sss_cons (ss_expr (se_meth T.t44 hr0 (T.ar 44) (se_var (pv 0)) (sa_cons (se_var (pv 1)) sa_nil)))
    (sss_one (ss_if (st_or (st_not (st_val (se_isi kn_str (se_var (pv 2)) (by rfl) (F.m_isinstance) (by rfl) (F.m_str) boot_str))) (st_or1 (st_cmp (op_notInA hu) (pr_in true) (se_var (pv 2)) (se_ix hu (se_ix hu (se_fld (se_var (pv 0)) hC cl n_parts) (se_var (pv 1))) se_int) (by rfl)))).pt (sss_one ss_never) sss_nil)))
/-! ### House.need_script -/
abbrev N_46 : List Str := ["self", "service", "method"]
theorem sc_46 : FnScope N_46 ["self", "service", "method"] (defScope (inClass (top 31) 6)) := ⟨rfl, rfl, rfl, by decide +kernel, rfl, by decide +kernel, by decide +kernel⟩
def b_46 (c : Nat → Fn) : SemS :=
    (sSeq (sDo (sMeth "House" "need_service" (c 44) (sVar 0) (sCons (sVar 1) sNil)))
    (sIfS (sT (sB oNotN (sVar 2) (sC .none))) (sDo (sMeth "House" "need_method" (c 45) (sVar 0) (sCons (sVar 1) (sCons (sVar 2) sNil)))) sNext))
set_option linter.all false in
theorem ok_46 [Wd] {P : Program} {w : World} {K : PySem.W.Frag} {mg : Str → Option Value} {base : Heap} {k : Nat} {c : Nat → Fn} (hp : P = Wd.P ∧ w = Wd.w) (F : Fx K mg) (T : Tb P w K mg base k c) {f : Addr} {cdv : Value} {A : Around} {outer : List Env} {s : Shared} {H : Hp} {E : XK} (hr : Room (k + 1) (A.deeper (envOfC "House.need_script" (defScope (inClass (top 31) 6)) s.heap.objs.size f cdv))) :
    SSs (Inn f (inClass (top 31) 6) N_46 "House.need_script" P w K mg base cdv A outer s H E) E (defBody (inClass (top 31) 6)) (b_46 c) := by
  have hu := room64 hr
  have hr0 := hr.mono (Nat.le_succ k)
  have sc := sc_46
  exact (sss_cons (ss_expr (se_meth T.t44 hr0 (T.ar 44) (se_var (pv 0)) (sa_cons (se_var (pv 1)) sa_nil)))
    (sss_one (ss_if (st_cmp op_notN pr_notN (se_var (pv 2)) se_non (nomark _)) (sss_one (ss_expr (se_meth T.t45 hr0 (T.ar 45) (se_var (pv 0)) (sa_cons (se_var (pv 1)) (sa_cons (se_var (pv 2)) sa_nil))))) sss_nil)))
/-! ### law -/
abbrev N_law : List Str := ["_law_script_here", "_law_due", "_law_hall", "_law_home_here", "_law_lap", "_law_names_here", "_law_shown", "_law_some", "_law_state", "_law_told", "_law_turn", "_law_odd"]
theorem sc_law : FnScope N_law ["_law_script_here"] (defScope (top 64)) := ⟨rfl, rfl, rfl, by decide +kernel, rfl, by decide +kernel, by decide +kernel⟩
def b_law (c : Nat → Fn) : SemS :=
    (sSeq (sSet 8 (sCall (c 25) (sCons (sVar 0) sNil)))
    (sSeq (sFor (sRange1 (sCall cMax2 (sCons (sC (.int 2)) (sCons (sCall cMin2 (sCons (sC (.int 6)) (sCons (sCall cLen (sCons (sVar 0) sNil)) sNil))) sNil)))) (gN 10) (sSeq (sSet 3 (sCall (c 39) (sCons (sVar 8) (sCons (sC (.int 6)) (sCons (sC (.int 2)) (sCons (sC (.int 8)) sNil))))))
    (sSeq (sParN [2, 5] (sCons (sMake "House" (c 42) (sCons (sVar 3) sNil)) (sCons (sCall (cSortedA mkL) (sCons (sVar 3) sNil)) sNil)))
    (sSeq (sFor (sRange1 (sC (.int 5))) (gN 4) (sSeq (sSet 7 (sSl (sCall (c 29) (sCons (sVar 8) (sCons (sVar 5) sNil))) oNone (oSome (sCall (c 27) (sCons (sVar 8) (sCons (sB oAdd (sCall cLen (sCons (sVar 5) sNil)) (sC (.int 1))) sNil))))))
    (sSeq (sPar 1 6 (sCons (sB oEq (sCall (c 37) (sCons (sCall (c 36) (sCons (sVar 3) (sCons (sVar 7) sNil))) sNil)) (sDisp mkL sNil)) (sCons (sCall (cListB mkL) (sCons (sVar 7) sNil)) sNil)))
    (sSeq (sSet 9 (sDisp mkL (sCons (sCall (c 24) (sCons (sVar 2) (sCons (sVar 7) sNil))) (sCons (sCall (c 24) (sCons (sVar 2) (sCons (sCall cTupOf (sCons (sVar 7) sNil)) sNil))) (sCons (sCallK 2 [1, 0] (c 24) (sCons (sVar 7) (sCons (sVar 2) sNil))) sNil)))))
    (sIfS (sOr (sT (sB oNe (sCall cRepr (sCons (sVar 9) sNil)) (sCall cRepr (sCons (sB oMul (sDisp mkL (sCons (sVar 1) sNil)) (sC (.int 3))) sNil)))) (sT (sB oNe (sVar 7) (sVar 6)))) (sRet (sC (.bool false))) sNext)))))
    (sSeq (sSet 1 (sLc (sItems (sDisp mkL (sCons (sVar 5) (sCons (sDisp mkL sNil) sNil)))) (gN 7) tYesS (sB oEq (sCall (c 37) (sCons (sCall (c 36) (sCons (sVar 3) (sCons (sVar 7) sNil))) sNil)) (sDisp mkL sNil)) [7] keepL))
    (sSeq (sIfS (sT (sB oNe (sCall cRepr (sCons (sDisp mkL (sCons (sCall (c 24) (sCons (sVar 2) (sCons (sRev mkL (sVar 5)) sNil))) (sCons (sCall (c 24) (sCons (sVar 2) (sCons (sDisp mkL sNil) sNil))) sNil))) sNil)) (sCall cRepr (sCons (sVar 1) sNil)))) (sRet (sC (.bool false))) sNext)
    (sSeq (sIfS (sT (sB oNe (sLc (sItems (sCall (c 41) (sCons (sVar 5) sNil))) (gN 11) (sT (sB oNotB (sCall (c 24) (sCons (sVar 2) (sCons (sVar 11) sNil))) (sC (.bool false)))) (sVar 11) [11] keepL) (sDisp mkL sNil))) (sRet (sC (.bool false))) sNext)
    (sIfS (sNot (sT (sB (oOwn "House" (c 43)) (sVar 2) (sMake "House" (c 42) (sCons (sVar 3) sNil))))) (sRet (sC (.bool false))) sNext))))))))
    (sRet (sC (.bool true)))))
set_option linter.all false in
theorem ok_law [Wd] {P : Program} {w : World} {K : PySem.W.Frag} {mg : Str → Option Value} {base : Heap} {k : Nat} {c : Nat → Fn} (hp : P = Wd.P ∧ w = Wd.w) (F : Fx K mg) (T : Tb P w K mg base k c) {f : Addr} {cdv : Value} {A : Around} {outer : List Env} {s : Shared} {H : Hp} {E : XK} (hr : Room (k + 1) (A.deeper (envOfC "law" (defScope (top 64)) s.heap.objs.size f cdv))) (hgd : A.guards = some []) :
    SSs (Inn f (top 64) N_law "law" P w K mg base cdv A outer s H E) E (defBody (top 64)) (b_law c) := by
  have hu := room64 hr
  have hr0 := hr.mono (Nat.le_succ k)
  have sc := sc_law
  exact (sss_cons (ss_set (i := 8) sc.nd rfl (by first | exact .inl rfl | exact .inr rfl) (se_call T.t25 hr0 (by rfl) (T.ar 25) (sa_cons (se_var (pv 0)) sa_nil)))
    (sss_cons (ss_for PassesOwn.never rfl (si_range1 (by rfl) (F.m_range) (se_callB (call_max2 rfl) pr_max2 (by rfl) (F.m_max) boot_max (sa_cons se_int (sa_cons (se_callB (call_min2 rfl) pr_min2 (by rfl) (F.m_min) boot_min (sa_cons se_int (sa_cons (se_callB call_lenD2 pr_len (by rfl) (F.m_len) boot_len (sa_cons (se_var (pv 0)) sa_nil)) sa_nil))) sa_nil)))) (sg_name (i := 10) sc.nd rfl (by first | exact .inl rfl | exact .inr rfl)) (sss_cons (ss_set (i := 3) sc.nd rfl (by first | exact .inl rfl | exact .inr rfl) (se_call T.t39 hr0 (by rfl) (T.ar 39) (sa_cons (se_var (pv 8)) (sa_cons se_int (sa_cons se_int (sa_cons se_int sa_nil))))))
    (sss_cons (ss_parN (is := [2, 5]) rfl (sa_cons (se_make T.t42 hr (by rfl) (T.ar 42) (sa_cons (se_var (pv 3)) sa_nil)) (sa_cons (se_callB (call_sortA rfl hu) (pr_sortA mkL_okE) (by rfl) (F.m_sorted) boot_sorted (sa_cons (se_var (pv 3)) sa_nil)) sa_nil)) (pgs_cons (pg_name (i := 2) sc.nd rfl (by first | exact .inl rfl | exact .inr rfl)) (pgs_cons (pg_name (i := 5) sc.nd rfl (by first | exact .inl rfl | exact .inr rfl)) pgs_nil)))
    (sss_cons (ss_for PassesOwn.never rfl (si_range1 (by rfl) (F.m_range) se_int) (sg_name (i := 4) sc.nd rfl (by first | exact .inl rfl | exact .inr rfl)) (sss_cons (ss_set (i := 7) sc.nd rfl (by first | exact .inl rfl | exact .inr rfl) (se_sl (se_call T.t29 hr0 (by rfl) (T.ar 29) (sa_cons (se_var (pv 8)) (sa_cons (se_var (pv 5)) sa_nil))) so_none (so_some (se_call T.t27 hr0 (by rfl) (T.ar 27) (sa_cons (se_var (pv 8)) (sa_cons (se_op op_addP pr_add (se_callB call_lenD2 pr_len (by rfl) (F.m_len) boot_len (sa_cons (se_var (pv 5)) sa_nil)) se_int) sa_nil))))))
    (sss_cons (ss_par (i := 1) (j := 6) rfl sc.nd rfl rfl (by decide) (by rfl) (by rfl) (sa_cons (se_cmp (op_eqP hu) pr_eq (se_call T.t37 hr0 (by rfl) (T.ar 37) (sa_cons (se_call T.t36 hr0 (by rfl) (T.ar 36) (sa_cons (se_var (pv 3)) (sa_cons (se_var (pv 7)) sa_nil))) sa_nil)) (se_lst sa_nil) (nomark _)) (sa_cons (se_callTy (call_listA rfl) (pr_listA mkL_okE) (by rfl) (F.m_list) boot_list (sa_cons (se_var (pv 7)) sa_nil)) sa_nil)) (by rfl))
    (sss_cons (ss_set (i := 9) sc.nd rfl (by first | exact .inl rfl | exact .inr rfl) (se_lst (sa_cons (se_call T.t24 hr0 (by rfl) (T.ar 24) (sa_cons (se_var (pv 2)) (sa_cons (se_var (pv 7)) sa_nil))) (sa_cons (se_call T.t24 hr0 (by rfl) (T.ar 24) (sa_cons (se_var (pv 2)) (sa_cons (se_callTy call_tuple_of pr_tupOf (by rfl) (F.m_tuple) boot_tuple (sa_cons (se_var (pv 7)) sa_nil)) sa_nil))) (sa_cons (callK_v T.k24_10 rfl hr0 (by rfl) (T.ar 24) (sk_cons (se_var (pv 7)) (sk_cons (se_var (pv 2)) sk_nil))) sa_nil)))))
    (sss_one (ss_if (st_or (st_cmp (op_neP hu) pr_ne (se_callB (cr_repr hgd hu) pr_repr (by rfl) (F.m_repr) boot_repr (sa_cons (se_var (pv 9)) sa_nil)) (se_callB (cr_repr hgd hu) pr_repr (by rfl) (F.m_repr) boot_repr (sa_cons (se_op op_mulP pr_mul (se_lst (sa_cons (se_var (pv 1)) sa_nil)) se_int) sa_nil)) (nomark _)) (st_or1 (st_cmp (op_neP hu) pr_ne (se_var (pv 7)) (se_var (pv 6)) (nomark _)))).pt (sss_one (ss_ret se_bl)) sss_nil))))))
    (sss_cons (set_lc_v [("_law_some", 7)] (i := 1) keepL_ok rfl sc.nd rfl (by rfl) (by rfl) (si_seq (se_lst (sa_cons (se_var (pv 5)) (sa_cons (se_lst sa_nil) sa_nil)))) (blkOk_by (N := N_law) (sc := defScope (top 64)) (own := [("_law_some", 7)]) (by decide +kernel)) rfl (fun _ _ _ _ _ => (pg_name (i := 7) sc.nd rfl (by first | exact .inl rfl | exact .inr rfl))) (gw_name (by decide)) (fun _ _ _ _ _ => spts_nil) (fun _ _ _ _ _ => (se_cmp (op_eqP hu) pr_eq (se_call T.t37 hr0 (by rfl) (T.ar 37) (sa_cons (se_call T.t36 hr0 (by rfl) (T.ar 36) (sa_cons (se_var (pv 3)) (sa_cons (se_var (pv 7)) sa_nil))) sa_nil)) (se_lst sa_nil) (nomark _))))
    (sss_cons (ss_if (st_cmp (op_neP hu) pr_ne (se_callB (cr_repr hgd hu) pr_repr (by rfl) (F.m_repr) boot_repr (sa_cons (se_lst (sa_cons (se_call T.t24 hr0 (by rfl) (T.ar 24) (sa_cons (se_var (pv 2)) (sa_cons (se_rev mkL_okE (se_var (pv 5))) sa_nil))) (sa_cons (se_call T.t24 hr0 (by rfl) (T.ar 24) (sa_cons (se_var (pv 2)) (sa_cons (se_lst sa_nil) sa_nil))) sa_nil))) sa_nil)) (se_callB (cr_repr hgd hu) pr_repr (by rfl) (F.m_repr) boot_repr (sa_cons (se_var (pv 1)) sa_nil)) (nomark _)) (sss_one (ss_ret se_bl)) sss_nil)
    (sss_cons (ss_if (st_cmp (op_neP hu) pr_ne (lc_v [("_law_odd", 11)] keepL_ok rfl sc.nd (si_seq (se_call T.t41 hr0 (by rfl) (T.ar 41) (sa_cons (se_var (pv 5)) sa_nil))) (blkOk_by (N := N_law) (sc := defScope (top 64)) (own := [("_law_odd", 11)]) (by decide +kernel)) rfl (fun _ _ _ _ _ => (pg_name (i := 11) sc.nd rfl (by first | exact .inl rfl | exact .inr rfl))) (gw_name (by decide)) (fun _ _ _ _ _ => (spts_one (st_cmp op_isnot_bl pr_notB (se_call T.t24 hr0 (by rfl) (T.ar 24) (sa_cons (se_var (pv 2)) (sa_cons (se_var (pv 11)) sa_nil))) se_bl (nomark _)))) (fun _ _ _ _ _ => (se_var (pv 11)))) (se_lst sa_nil) (nomark _)) (sss_one (ss_ret se_bl)) sss_nil)
    (sss_one (ss_if (st_not (st_cmp (op_ownM T.t43 hr0) pr_ownM (se_var (pv 2)) (se_make T.t42 hr (by rfl) (T.ar 42) (sa_cons (se_var (pv 3)) sa_nil)) (nomark _))) (sss_one (ss_ret se_bl)) sss_nil)))))))))
    (sss_one (ss_ret se_bl))))
end HT
end

section
set_option Elab.async false
set_option linter.all false
set_option maxRecDepth 100000
set_option maxHeartbeats 0
namespace HT
open PySem PySem.Spec PyProof.Rows L2 Pd
def d_0 : He.DefD := ⟨("is_number", none), "is_number", "is_number", defArgs (top 17), defBody (top 17), defScope (top 17), [.non], []⟩
def d_1 : He.DefD := ⟨("is_name", none), "is_name", "is_name", defArgs (top 18), defBody (top 18), defScope (top 18), [], []⟩
def d_2 : He.DefD := ⟨("is_workers", none), "is_workers", "is_workers", defArgs (top 19), defBody (top 19), defScope (top 19), [], []⟩
def d_3 : He.DefD := ⟨("is_script", none), "is_script", "is_script", defArgs (top 20), defBody (top 20), defScope (top 20), [], []⟩
def d_4 : He.DefD := ⟨("is_method", none), "is_method", "is_method", defArgs (top 21), defBody (top 21), defScope (top 21), [], []⟩
def d_5 : He.DefD := ⟨("is_names", none), "is_names", "is_names", defArgs (top 22), defBody (top 22), defScope (top 22), [], []⟩
def d_6 : He.DefD := ⟨("is_service", none), "is_service", "is_service", defArgs (top 23), defBody (top 23), defScope (top 23), [], []⟩
def d_7 : He.DefD := ⟨("is_house_data", none), "is_house_data", "is_house_data", defArgs (top 24), defBody (top 24), defScope (top 24), [], []⟩
def d_8 : He.DefD := ⟨("script_in", none), "script_in", "script_in", defArgs (top 25), defBody (top 25), defScope (top 25), [], []⟩
def d_9 : He.DefD := ⟨("wait_calls", none), "wait_calls", "wait_calls", defArgs (top 26), defBody (top 26), defScope (top 26), [], []⟩
def d_10 : He.DefD := ⟨("waited_for", none), "waited_for", "waited_for", defArgs (top 27), defBody (top 27), defScope (top 27), [], []⟩
def d_11 : He.DefD := ⟨("calls_made", none), "calls_made", "calls_made", defArgs (top 28), defBody (top 28), defScope (top 28), [], []⟩
def d_12 : He.DefD := ⟨("all_scripts", none), "all_scripts", "all_scripts", defArgs (top 29), defBody (top 29), defScope (top 29), [], []⟩
def d_13 : He.DefD := ⟨("needs_in", none), "needs_in", "needs_in", defArgs (top 30), defBody (top 30), defScope (top 30), [], []⟩
def d_14 : He.DefD := ⟨("waits", none), "waits", "waits", defArgs (top 33), defBody (top 33), defScope (top 33), [], []⟩
def d_15 : He.DefD := ⟨("services_of", none), "services_of", "services_of", defArgs (top 34), defBody (top 34), defScope (top 34), [], []⟩
def d_16 : He.DefD := ⟨("reach", none), "reach", "reach", defArgs (top 35), defBody (top 35), defScope (top 35), [], []⟩
def d_17 : He.DefD := ⟨("are_services", none), "are_services", "are_services", defArgs (top 37), defBody (top 37), defScope (top 37), [], []⟩
def d_18 : He.DefD := ⟨("needs_one", none), "needs_one", "needs_one", defArgs (top 38), defBody (top 38), defScope (top 38), [], []⟩
def d_19 : He.DefD := ⟨("needs_table", none), "needs_table", "needs_table", defArgs (top 39), defBody (top 39), defScope (top 39), [], []⟩
def d_20 : He.DefD := ⟨("is_closed_by", none), "is_closed_by", "is_closed_by", defArgs (top 40), defBody (top 40), defScope (top 40), [], []⟩
def d_21 : He.DefD := ⟨("greatest_closed", none), "greatest_closed", "greatest_closed", defArgs (top 41), defBody (top 41), defScope (top 41), [], []⟩
def d_22 : He.DefD := ⟨("starts_table", none), "starts_table", "starts_table", defArgs (top 43), defBody (top 43), defScope (top 43), [], []⟩
def d_23 : He.DefD := ⟨("is_freed_by", none), "is_freed_by", "is_freed_by", defArgs (top 44), defBody (top 44), defScope (top 44), [], []⟩
def d_24 : He.DefD := ⟨("is_cure", none), "is_cure", "is_cure", defArgs (top 45), defBody (top 45), defScope (top 45), [], []⟩
def d_25 : He.DefD := ⟨("_law_begun", none), "_law_begun", "_law_begun", defArgs (top 47), defBody (top 47), defScope (top 47), [], []⟩
def d_26 : He.DefD := ⟨("_law_mixed", none), "_law_mixed", "_law_mixed", defArgs (top 48), defBody (top 48), defScope (top 48), [], []⟩
def d_27 : He.DefD := ⟨("_law_take", none), "_law_take", "_law_take", defArgs (top 49), defBody (top 49), defScope (top 49), [], []⟩
def d_28 : He.DefD := ⟨("_law_pick", none), "_law_pick", "_law_pick", defArgs (top 50), defBody (top 50), defScope (top 50), [], []⟩
def d_29 : He.DefD := ⟨("_law_shuffled", none), "_law_shuffled", "_law_shuffled", defArgs (top 51), defBody (top 51), defScope (top 51), [], []⟩
def d_30 : He.DefD := ⟨("_law_names", none), "_law_names", "_law_names", defArgs (top 52), defBody (top 52), defScope (top 52), [], []⟩
def d_31 : He.DefD := ⟨("_law_steps", none), "_law_steps", "_law_steps", defArgs (top 53), defBody (top 53), defScope (top 53), [], []⟩
def d_32 : He.DefD := ⟨("_law_home", none), "_law_home", "_law_home", defArgs (top 54), defBody (top 54), defScope (top 54), [], []⟩
def d_33 : He.DefD := ⟨("_law_script", none), "_law_script", "_law_script", defArgs (top 55), defBody (top 55), defScope (top 55), [], []⟩
def d_34 : He.DefD := ⟨("_law_waited", none), "_law_waited", "_law_waited", defArgs (top 56), defBody (top 56), defScope (top 56), [], []⟩
def d_35 : He.DefD := ⟨("_law_starts", none), "_law_starts", "_law_starts", defArgs (top 57), defBody (top 57), defScope (top 57), [], []⟩
def d_36 : He.DefD := ⟨("_law_needs", none), "_law_needs", "_law_needs", defArgs (top 58), defBody (top 58), defScope (top 58), [], []⟩
def d_37 : He.DefD := ⟨("_law_stuck", none), "_law_stuck", "_law_stuck", defArgs (top 59), defBody (top 59), defScope (top 59), [], []⟩
def d_38 : He.DefD := ⟨("_law_calm", none), "_law_calm", "_law_calm", defArgs (top 60), defBody (top 60), defScope (top 60), [], []⟩
def d_39 : He.DefD := ⟨("_law_drawn", none), "_law_drawn", "_law_drawn", defArgs (top 61), defBody (top 61), defScope (top 61), [], []⟩
def d_40 : He.DefD := ⟨("_law_absent", none), "_law_absent", "_law_absent", defArgs (top 62), defBody (top 62), defScope (top 62), [], []⟩
def d_41 : He.DefD := ⟨("_law_odds", none), "_law_odds", "_law_odds", defArgs (top 63), defBody (top 63), defScope (top 63), [], []⟩
def d_42 : He.DefD := ⟨("House", some "__init__"), "__init__", "House.__init__", defArgs (inClass (top 31) 0), defBody (inClass (top 31) 0), defScope (inClass (top 31) 0), [], []⟩
def d_43 : He.DefD := ⟨("House", some "__eq__"), "__eq__", "House.__eq__", defArgs (inClass (top 31) 3), defBody (inClass (top 31) 3), defScope (inClass (top 31) 3), [], []⟩
def d_44 : He.DefD := ⟨("House", some "need_service"), "need_service", "House.need_service", defArgs (inClass (top 31) 4), defBody (inClass (top 31) 4), defScope (inClass (top 31) 4), [], []⟩
def d_45 : He.DefD := ⟨("House", some "need_method"), "need_method", "House.need_method", defArgs (inClass (top 31) 5), defBody (inClass (top 31) 5), defScope (inClass (top 31) 5), [], []⟩
def d_46 : He.DefD := ⟨("House", some "need_script"), "need_script", "House.need_script", defArgs (inClass (top 31) 6), defBody (inClass (top 31) 6), defScope (inClass (top 31) 6), [], []⟩
def d_law : He.DefD := ⟨("law", none), "law", "law", defArgs (top 64), defBody (top 64), defScope (top 64), [], []⟩
def fn : List He.DefD := [d_0, d_1, d_2, d_3, d_4, d_5, d_6, d_7, d_8, d_9, d_10, d_11, d_12, d_13, d_14, d_15, d_16, d_17, d_18, d_19, d_20, d_21, d_22, d_23, d_24, d_25, d_26, d_27, d_28, d_29, d_30, d_31, d_32, d_33, d_34, d_35, d_36, d_37, d_38, d_39, d_40, d_41, d_42, d_43, d_44, d_45, d_46, d_law]
def fa : List He.Fa := [.glo "is_number", .glo "is_name", .glo "is_workers", .glo "is_script", .glo "is_method", .glo "is_names", .glo "is_service", .glo "is_house_data", .glo "script_in", .glo "wait_calls", .glo "waited_for", .glo "calls_made", .glo "all_scripts", .glo "needs_in", .glo "waits", .glo "services_of", .glo "reach", .glo "are_services", .glo "needs_one", .glo "needs_table", .glo "is_closed_by", .glo "greatest_closed", .glo "starts_table", .glo "is_freed_by", .glo "is_cure", .glo "_law_begun", .glo "_law_mixed", .glo "_law_take", .glo "_law_pick", .glo "_law_shuffled", .glo "_law_names", .glo "_law_steps", .glo "_law_home", .glo "_law_script", .glo "_law_waited", .glo "_law_starts", .glo "_law_needs", .glo "_law_stuck", .glo "_law_calm", .glo "_law_drawn", .glo "_law_absent", .glo "_law_odds", .glo "law", .glo "House", .free "all", .free "any", .free "bool", .free "dict", .free "enumerate", .free "int", .free "isinstance", .free "len", .free "list", .free "max", .free "min", .free "range", .free "repr", .free "set", .free "sorted", .free "str", .free "tuple", .str "LETTERS" "abcdefghijklmnopqrstuvwxyz", .int "MOST_LETTERS" 8, .int "MOST_SERVICES" 6, .int "MOST_METHODS" 4, .int "MOST_STEPS" 4, .int "MOST_WORKERS" 4, .int "MOST_WORTH" 99, .int "MOST_CALLS" 30, .cls "House", .mkr "House", .meth "House" "__eq__", .meth "House" "need_service", .meth "House" "need_method", .meth "House" "need_script", .noat "House" "names", .noat "House" "parts", .noat "House" "waited", .noat "House" "wanted"]
/-- what isinstance asks of the class -/
def isB (K : PySem.W.Frag) (C : Addr) : Bool := decide (PySem.W.findIn K (.ref C) "__class__" = some (some (.builtin "object.__class__"))) && (decide (PySem.W.specialIn K (.builtin "object.__class__") "__get__" = some (some (.builtin "getset_descriptor.__get__"))) && (decide (PySem.W.takesIn K (.builtin "object.__class__") = some true) && (decide (PySem.W.mroIn K C (.type "object") = some true) && decide (PySem.W.kitOne K (.ref C) (.ref C) = some true))))
theorem isB_ok {K : PySem.W.Frag} {C : Addr} (cl : Cls K C) (h : isB K C = true) : C8.InsC K C := by
  have h1 := Bool.and_eq_true_iff.mp h
  have h2 := Bool.and_eq_true_iff.mp h1.2
  have h3 := Bool.and_eq_true_iff.mp h2.2
  have h4 := Bool.and_eq_true_iff.mp h3.2
  exact ⟨cl, of_decide_eq_true h1.1, of_decide_eq_true h2.1, of_decide_eq_true h3.1, of_decide_eq_true h4.1, of_decide_eq_true h4.2⟩
abbrev exB (K : PySem.W.Frag) : Bool := isB K (He.ga K "House")
theorem fx {K : PySem.W.Frag} {h : Heap} {mg : Str → Option Value} (X : K.In h) (G : h.Ns mainGlobals mg) (c : He.SaysD fa fn K) (ci : exB K = true) : Fx K mg where
  m_all := He.free_ok X G (c.fact 44 (f := .free "all") rfl)
  m_any := He.free_ok X G (c.fact 45 (f := .free "any") rfl)
  m_bool := He.free_ok X G (c.fact 46 (f := .free "bool") rfl)
  m_dict := He.free_ok X G (c.fact 47 (f := .free "dict") rfl)
  m_enumerate := He.free_ok X G (c.fact 48 (f := .free "enumerate") rfl)
  m_int := He.free_ok X G (c.fact 49 (f := .free "int") rfl)
  m_isinstance := He.free_ok X G (c.fact 50 (f := .free "isinstance") rfl)
  m_len := He.free_ok X G (c.fact 51 (f := .free "len") rfl)
  m_list := He.free_ok X G (c.fact 52 (f := .free "list") rfl)
  m_max := He.free_ok X G (c.fact 53 (f := .free "max") rfl)
  m_min := He.free_ok X G (c.fact 54 (f := .free "min") rfl)
  m_range := He.free_ok X G (c.fact 55 (f := .free "range") rfl)
  m_repr := He.free_ok X G (c.fact 56 (f := .free "repr") rfl)
  m_set := He.free_ok X G (c.fact 57 (f := .free "set") rfl)
  m_sorted := He.free_ok X G (c.fact 58 (f := .free "sorted") rfl)
  m_str := He.free_ok X G (c.fact 59 (f := .free "str") rfl)
  m_tuple := He.free_ok X G (c.fact 60 (f := .free "tuple") rfl)
  g_LETTERS := He.str_ok X G (c.fact 61 (f := .str "LETTERS" "abcdefghijklmnopqrstuvwxyz") rfl)
  g_MOST_LETTERS := He.int_ok X G (c.fact 62 (f := .int "MOST_LETTERS" 8) rfl)
  g_MOST_SERVICES := He.int_ok X G (c.fact 63 (f := .int "MOST_SERVICES" 6) rfl)
  g_MOST_METHODS := He.int_ok X G (c.fact 64 (f := .int "MOST_METHODS" 4) rfl)
  g_MOST_STEPS := He.int_ok X G (c.fact 65 (f := .int "MOST_STEPS" 4) rfl)
  g_MOST_WORKERS := He.int_ok X G (c.fact 66 (f := .int "MOST_WORKERS" 4) rfl)
  g_MOST_WORTH := He.int_ok X G (c.fact 67 (f := .int "MOST_WORTH" 99) rfl)
  g_MOST_CALLS := He.int_ok X G (c.fact 68 (f := .int "MOST_CALLS" 30) rfl)
  house := ⟨_, He.glo_ok X G (c.fact 43 (f := .glo "House") rfl), He.cls_ok (c.fact 69 (f := .cls "House") rfl), He.noat_ok (c.fact 75 (f := .noat "House" "names") rfl), He.noat_ok (c.fact 76 (f := .noat "House" "parts") rfl), He.noat_ok (c.fact 77 (f := .noat "House" "waited") rfl), He.noat_ok (c.fact 78 (f := .noat "House" "wanted") rfl)⟩
  isC := ⟨_, He.glo_ok X G (c.fact 43 (f := .glo "House") rfl), isB_ok (He.cls_ok (c.fact 69 (f := .cls "House") rfl)) ci⟩
/-- what the defs do, given what the defs do that they call -/
noncomputable def bd (i : Nat) (c : Nat → Fn) : Fn := match i with
  | 0 => arity 3 (runF N_0.length (b_0 c))
  | 1 => arity 1 (runF N_1.length (b_1 c))
  | 2 => arity 1 (runF N_2.length (b_2 c))
  | 3 => arity 1 (runF N_3.length (b_3 c))
  | 4 => arity 1 (runF N_4.length (b_4 c))
  | 5 => arity 2 (runF N_5.length (b_5 c))
  | 6 => arity 1 (runF N_6.length (b_6 c))
  | 7 => arity 1 (runF N_7.length (b_7 c))
  | 8 => arity 2 (runF N_8.length (b_8 c))
  | 9 => arity 1 (runF N_9.length (b_9 c))
  | 10 => arity 2 (runF N_10.length (b_10 c))
  | 11 => arity 3 (runF N_11.length (b_11 c))
  | 12 => arity 1 (runF N_12.length (b_12 c))
  | 13 => arity 3 (runF N_13.length (b_13 c))
  | 14 => arity 3 (runF N_14.length (b_14 c))
  | 15 => arity 1 (runF N_15.length (b_15 c))
  | 16 => arity 3 (runF N_16.length (b_16 c))
  | 17 => arity 2 (runF N_17.length (b_17 c))
  | 18 => arity 3 (runF N_18.length (b_18 c))
  | 19 => arity 1 (runF N_19.length (b_19 c))
  | 20 => arity 2 (runF N_20.length (b_20 c))
  | 21 => arity 1 (runF N_21.length (b_21 c))
  | 22 => arity 1 (runF N_22.length (b_22 c))
  | 23 => arity 3 (runF N_23.length (b_23 c))
  | 24 => arity 2 (runF N_24.length (b_24 c))
  | 25 => arity 1 (runF N_25.length (b_25 c))
  | 26 => arity 1 (runF N_26.length (b_26 c))
  | 27 => arity 2 (runF N_27.length (b_27 c))
  | 28 => arity 2 (runF N_28.length (b_28 c))
  | 29 => arity 2 (runF N_29.length (b_29 c))
  | 30 => arity 2 (runF N_30.length (b_30 c))
  | 31 => arity 5 (runF N_31.length (b_31 c))
  | 32 => arity 4 (runF N_32.length (b_32 c))
  | 33 => arity 2 (runF N_33.length (b_33 c))
  | 34 => arity 2 (runF N_34.length (b_34 c))
  | 35 => arity 1 (runF N_35.length (b_35 c))
  | 36 => arity 2 (runF N_36.length (b_36 c))
  | 37 => arity 1 (runF N_37.length (b_37 c))
  | 38 => arity 2 (runF N_38.length (b_38 c))
  | 39 => arity 4 (runF N_39.length (b_39 c))
  | 40 => arity 1 (runF N_40.length (b_40 c))
  | 41 => arity 1 (runF N_41.length (b_41 c))
  | 42 => arity 2 (runF N_42.length (b_42 c))
  | 43 => arity 2 (runF N_43.length (b_43 c))
  | 44 => arity 2 (runF N_44.length (b_44 c))
  | 45 => arity 3 (runF N_45.length (b_45 c))
  | 46 => arity 3 (runF N_46.length (b_46 c))
  | _ => fun _ _ => .bad
noncomputable def S : Nat → Nat → Fn
  | 0, _ => fun _ _ => .bad
  | k + 1, i => bd i (S k)
theorem ar_bd (i : Nat) (c : Nat → Fn) (ws : List W) (st : Sto) (h : ws.length ≠ [3, 1, 1, 1, 1, 2, 1, 1, 2, 1, 2, 3, 1, 3, 3, 1, 3, 2, 3, 1, 2, 1, 1, 3, 2, 1, 1, 2, 2, 2, 2, 5, 4, 2, 2, 1, 2, 1, 2, 4, 1, 1, 2, 2, 2, 3, 3].getD i 0) : bd i c ws st = .bad := by
  match i, h with
  | 0, h => exact if_neg h
  | 1, h => exact if_neg h
  | 2, h => exact if_neg h
  | 3, h => exact if_neg h
  | 4, h => exact if_neg h
  | 5, h => exact if_neg h
  | 6, h => exact if_neg h
  | 7, h => exact if_neg h
  | 8, h => exact if_neg h
  | 9, h => exact if_neg h
  | 10, h => exact if_neg h
  | 11, h => exact if_neg h
  | 12, h => exact if_neg h
  | 13, h => exact if_neg h
  | 14, h => exact if_neg h
  | 15, h => exact if_neg h
  | 16, h => exact if_neg h
  | 17, h => exact if_neg h
  | 18, h => exact if_neg h
  | 19, h => exact if_neg h
  | 20, h => exact if_neg h
  | 21, h => exact if_neg h
  | 22, h => exact if_neg h
  | 23, h => exact if_neg h
  | 24, h => exact if_neg h
  | 25, h => exact if_neg h
  | 26, h => exact if_neg h
  | 27, h => exact if_neg h
  | 28, h => exact if_neg h
  | 29, h => exact if_neg h
  | 30, h => exact if_neg h
  | 31, h => exact if_neg h
  | 32, h => exact if_neg h
  | 33, h => exact if_neg h
  | 34, h => exact if_neg h
  | 35, h => exact if_neg h
  | 36, h => exact if_neg h
  | 37, h => exact if_neg h
  | 38, h => exact if_neg h
  | 39, h => exact if_neg h
  | 40, h => exact if_neg h
  | 41, h => exact if_neg h
  | 42, h => exact if_neg h
  | 43, h => exact if_neg h
  | 44, h => exact if_neg h
  | 45, h => exact if_neg h
  | 46, h => exact if_neg h
  | _ + 47, _ => rfl
section
variable [Wd] {P : Program} {w : World} {K : PySem.W.Frag} {mg : Str → Option Value} {base h : Heap}
theorem mk_0 (X : K.In h) (G : h.Ns mainGlobals mg) (c : He.SaysD fa fn K) : ∃ fd, FunD K "is_number" "is_number" (defArgs (top 17)) (defBody (top 17)) (defScope (top 17)) [V.non] [] (He.fAd K ("is_number", none)) fd ∧ (∀ k (F : Fn), FnOk P w K mg base CX0 k (He.fAd K ("is_number", none)) fd ["obj", "least", "most"] (spF (bp P w K mg) 3 F) → Cal P w K mg base "is_number" k 3 F) := by
  obtain ⟨fd, FD⟩ := c.def_ 0 (d := d_0) rfl
  replace FD : FunD K "is_number" "is_number" (defArgs (top 17)) (defBody (top 17)) (defScope (top 17)) [V.non] [] (He.fAd K ("is_number", none)) fd := FD
  have b : Binds K fd ["obj", "least", "most"] [] := by
    obtain ⟨ds, h1, h2⟩ := FunD.binds1 FD 3 1 (by simp) rfl (ps := ["obj", "least", "most"]) fun _ _ _ _ _ _ _ us its h1 h2 => match us, its, h1, h2 with | [_, _, _], [_], _, _ => ⟨_, rfl, rfl⟩
    cases h1; exact h2
  exact ⟨fd, FD, fun k F h => ⟨⟨_, fd, _, He.glo_ok X G (c.fact 0 (f := .glo "is_number") rfl), FD.kp, h, b⟩⟩⟩
theorem mk_1 (X : K.In h) (G : h.Ns mainGlobals mg) (c : He.SaysD fa fn K) : ∃ fd, FunD K "is_name" "is_name" (defArgs (top 18)) (defBody (top 18)) (defScope (top 18)) [] [] (He.fAd K ("is_name", none)) fd ∧ (∀ k (F : Fn), FnOk P w K mg base CX0 k (He.fAd K ("is_name", none)) fd ["obj"] (spF (bp P w K mg) 1 F) → Cal P w K mg base "is_name" k 1 F) := by
  obtain ⟨fd, FD⟩ := c.def_ 1 (d := d_1) rfl
  replace FD : FunD K "is_name" "is_name" (defArgs (top 18)) (defBody (top 18)) (defScope (top 18)) [] [] (He.fAd K ("is_name", none)) fd := FD
  have b : Binds K fd ["obj"] [] := FD.bindsN fun _ _ _ _ _ _ us hl => match us, hl with | [_], _ => rfl
  exact ⟨fd, FD, fun k F h => ⟨⟨_, fd, _, He.glo_ok X G (c.fact 1 (f := .glo "is_name") rfl), FD.kp, h, b⟩⟩⟩
theorem mk_2 (X : K.In h) (G : h.Ns mainGlobals mg) (c : He.SaysD fa fn K) : ∃ fd, FunD K "is_workers" "is_workers" (defArgs (top 19)) (defBody (top 19)) (defScope (top 19)) [] [] (He.fAd K ("is_workers", none)) fd ∧ (∀ k (F : Fn), FnOk P w K mg base CX0 k (He.fAd K ("is_workers", none)) fd ["obj"] (spF (bp P w K mg) 1 F) → Cal P w K mg base "is_workers" k 1 F) := by
  obtain ⟨fd, FD⟩ := c.def_ 2 (d := d_2) rfl
  replace FD : FunD K "is_workers" "is_workers" (defArgs (top 19)) (defBody (top 19)) (defScope (top 19)) [] [] (He.fAd K ("is_workers", none)) fd := FD
  have b : Binds K fd ["obj"] [] := FD.bindsN fun _ _ _ _ _ _ us hl => match us, hl with | [_], _ => rfl
  exact ⟨fd, FD, fun k F h => ⟨⟨_, fd, _, He.glo_ok X G (c.fact 2 (f := .glo "is_workers") rfl), FD.kp, h, b⟩⟩⟩
theorem mk_3 (X : K.In h) (G : h.Ns mainGlobals mg) (c : He.SaysD fa fn K) : ∃ fd, FunD K "is_script" "is_script" (defArgs (top 20)) (defBody (top 20)) (defScope (top 20)) [] [] (He.fAd K ("is_script", none)) fd ∧ (∀ k (F : Fn), FnOk P w K mg base CX0 k (He.fAd K ("is_script", none)) fd ["obj"] (spF (bp P w K mg) 1 F) → Cal P w K mg base "is_script" k 1 F) := by
  obtain ⟨fd, FD⟩ := c.def_ 3 (d := d_3) rfl
  replace FD : FunD K "is_script" "is_script" (defArgs (top 20)) (defBody (top 20)) (defScope (top 20)) [] [] (He.fAd K ("is_script", none)) fd := FD
  have b : Binds K fd ["obj"] [] := FD.bindsN fun _ _ _ _ _ _ us hl => match us, hl with | [_], _ => rfl
  exact ⟨fd, FD, fun k F h => ⟨⟨_, fd, _, He.glo_ok X G (c.fact 3 (f := .glo "is_script") rfl), FD.kp, h, b⟩⟩⟩
theorem mk_4 (X : K.In h) (G : h.Ns mainGlobals mg) (c : He.SaysD fa fn K) : ∃ fd, FunD K "is_method" "is_method" (defArgs (top 21)) (defBody (top 21)) (defScope (top 21)) [] [] (He.fAd K ("is_method", none)) fd ∧ (∀ k (F : Fn), FnOk P w K mg base CX0 k (He.fAd K ("is_method", none)) fd ["obj"] (spF (bp P w K mg) 1 F) → Cal P w K mg base "is_method" k 1 F) := by
  obtain ⟨fd, FD⟩ := c.def_ 4 (d := d_4) rfl
  replace FD : FunD K "is_method" "is_method" (defArgs (top 21)) (defBody (top 21)) (defScope (top 21)) [] [] (He.fAd K ("is_method", none)) fd := FD
  have b : Binds K fd ["obj"] [] := FD.bindsN fun _ _ _ _ _ _ us hl => match us, hl with | [_], _ => rfl
  exact ⟨fd, FD, fun k F h => ⟨⟨_, fd, _, He.glo_ok X G (c.fact 4 (f := .glo "is_method") rfl), FD.kp, h, b⟩⟩⟩
theorem mk_5 (X : K.In h) (G : h.Ns mainGlobals mg) (c : He.SaysD fa fn K) : ∃ fd, FunD K "is_names" "is_names" (defArgs (top 22)) (defBody (top 22)) (defScope (top 22)) [] [] (He.fAd K ("is_names", none)) fd ∧ (∀ k (F : Fn), FnOk P w K mg base CX0 k (He.fAd K ("is_names", none)) fd ["obj", "most"] (spF (bp P w K mg) 2 F) → Cal P w K mg base "is_names" k 2 F) := by
  obtain ⟨fd, FD⟩ := c.def_ 5 (d := d_5) rfl
  replace FD : FunD K "is_names" "is_names" (defArgs (top 22)) (defBody (top 22)) (defScope (top 22)) [] [] (He.fAd K ("is_names", none)) fd := FD
  have b : Binds K fd ["obj", "most"] [] := FD.bindsN fun _ _ _ _ _ _ us hl => match us, hl with | [_, _], _ => rfl
  exact ⟨fd, FD, fun k F h => ⟨⟨_, fd, _, He.glo_ok X G (c.fact 5 (f := .glo "is_names") rfl), FD.kp, h, b⟩⟩⟩
theorem mk_6 (X : K.In h) (G : h.Ns mainGlobals mg) (c : He.SaysD fa fn K) : ∃ fd, FunD K "is_service" "is_service" (defArgs (top 23)) (defBody (top 23)) (defScope (top 23)) [] [] (He.fAd K ("is_service", none)) fd ∧ (∀ k (F : Fn), FnOk P w K mg base CX0 k (He.fAd K ("is_service", none)) fd ["obj"] (spF (bp P w K mg) 1 F) → Cal P w K mg base "is_service" k 1 F) := by
  obtain ⟨fd, FD⟩ := c.def_ 6 (d := d_6) rfl
  replace FD : FunD K "is_service" "is_service" (defArgs (top 23)) (defBody (top 23)) (defScope (top 23)) [] [] (He.fAd K ("is_service", none)) fd := FD
  have b : Binds K fd ["obj"] [] := FD.bindsN fun _ _ _ _ _ _ us hl => match us, hl with | [_], _ => rfl
  exact ⟨fd, FD, fun k F h => ⟨⟨_, fd, _, He.glo_ok X G (c.fact 6 (f := .glo "is_service") rfl), FD.kp, h, b⟩⟩⟩
theorem mk_7 (X : K.In h) (G : h.Ns mainGlobals mg) (c : He.SaysD fa fn K) : ∃ fd, FunD K "is_house_data" "is_house_data" (defArgs (top 24)) (defBody (top 24)) (defScope (top 24)) [] [] (He.fAd K ("is_house_data", none)) fd ∧ (∀ k (F : Fn), FnOk P w K mg base CX0 k (He.fAd K ("is_house_data", none)) fd ["obj"] (spF (bp P w K mg) 1 F) → Cal P w K mg base "is_house_data" k 1 F) := by
  obtain ⟨fd, FD⟩ := c.def_ 7 (d := d_7) rfl
  replace FD : FunD K "is_house_data" "is_house_data" (defArgs (top 24)) (defBody (top 24)) (defScope (top 24)) [] [] (He.fAd K ("is_house_data", none)) fd := FD
  have b : Binds K fd ["obj"] [] := FD.bindsN fun _ _ _ _ _ _ us hl => match us, hl with | [_], _ => rfl
  exact ⟨fd, FD, fun k F h => ⟨⟨_, fd, _, He.glo_ok X G (c.fact 7 (f := .glo "is_house_data") rfl), FD.kp, h, b⟩⟩⟩
theorem mk_8 (X : K.In h) (G : h.Ns mainGlobals mg) (c : He.SaysD fa fn K) : ∃ fd, FunD K "script_in" "script_in" (defArgs (top 25)) (defBody (top 25)) (defScope (top 25)) [] [] (He.fAd K ("script_in", none)) fd ∧ (∀ k (F : Fn), FnOk P w K mg base CX0 k (He.fAd K ("script_in", none)) fd ["parts", "call"] (spF (bp P w K mg) 2 F) → Cal P w K mg base "script_in" k 2 F) := by
  obtain ⟨fd, FD⟩ := c.def_ 8 (d := d_8) rfl
  replace FD : FunD K "script_in" "script_in" (defArgs (top 25)) (defBody (top 25)) (defScope (top 25)) [] [] (He.fAd K ("script_in", none)) fd := FD
  have b : Binds K fd ["parts", "call"] [] := FD.bindsN fun _ _ _ _ _ _ us hl => match us, hl with | [_, _], _ => rfl
  exact ⟨fd, FD, fun k F h => ⟨⟨_, fd, _, He.glo_ok X G (c.fact 8 (f := .glo "script_in") rfl), FD.kp, h, b⟩⟩⟩
theorem mk_9 (X : K.In h) (G : h.Ns mainGlobals mg) (c : He.SaysD fa fn K) : ∃ fd, FunD K "wait_calls" "wait_calls" (defArgs (top 26)) (defBody (top 26)) (defScope (top 26)) [] [] (He.fAd K ("wait_calls", none)) fd ∧ (∀ k (F : Fn), FnOk P w K mg base CX0 k (He.fAd K ("wait_calls", none)) fd ["script"] (spF (bp P w K mg) 1 F) → Cal P w K mg base "wait_calls" k 1 F) := by
  obtain ⟨fd, FD⟩ := c.def_ 9 (d := d_9) rfl
  replace FD : FunD K "wait_calls" "wait_calls" (defArgs (top 26)) (defBody (top 26)) (defScope (top 26)) [] [] (He.fAd K ("wait_calls", none)) fd := FD
  have b : Binds K fd ["script"] [] := FD.bindsN fun _ _ _ _ _ _ us hl => match us, hl with | [_], _ => rfl
  exact ⟨fd, FD, fun k F h => ⟨⟨_, fd, _, He.glo_ok X G (c.fact 9 (f := .glo "wait_calls") rfl), FD.kp, h, b⟩⟩⟩
theorem mk_10 (X : K.In h) (G : h.Ns mainGlobals mg) (c : He.SaysD fa fn K) : ∃ fd, FunD K "waited_for" "waited_for" (defArgs (top 27)) (defBody (top 27)) (defScope (top 27)) [] [] (He.fAd K ("waited_for", none)) fd ∧ (∀ k (F : Fn), FnOk P w K mg base CX0 k (He.fAd K ("waited_for", none)) fd ["parts", "call"] (spF (bp P w K mg) 2 F) → Cal P w K mg base "waited_for" k 2 F) := by
  obtain ⟨fd, FD⟩ := c.def_ 10 (d := d_10) rfl
  replace FD : FunD K "waited_for" "waited_for" (defArgs (top 27)) (defBody (top 27)) (defScope (top 27)) [] [] (He.fAd K ("waited_for", none)) fd := FD
  have b : Binds K fd ["parts", "call"] [] := FD.bindsN fun _ _ _ _ _ _ us hl => match us, hl with | [_, _], _ => rfl
  exact ⟨fd, FD, fun k F h => ⟨⟨_, fd, _, He.glo_ok X G (c.fact 10 (f := .glo "waited_for") rfl), FD.kp, h, b⟩⟩⟩
theorem mk_11 (X : K.In h) (G : h.Ns mainGlobals mg) (c : He.SaysD fa fn K) : ∃ fd, FunD K "calls_made" "calls_made" (defArgs (top 28)) (defBody (top 28)) (defScope (top 28)) [] [] (He.fAd K ("calls_made", none)) fd ∧ (∀ k (F : Fn), FnOk P w K mg base CX0 k (He.fAd K ("calls_made", none)) fd ["parts", "call", "known"] (spF (bp P w K mg) 3 F) → Cal P w K mg base "calls_made" k 3 F) := by
  obtain ⟨fd, FD⟩ := c.def_ 11 (d := d_11) rfl
  replace FD : FunD K "calls_made" "calls_made" (defArgs (top 28)) (defBody (top 28)) (defScope (top 28)) [] [] (He.fAd K ("calls_made", none)) fd := FD
  have b : Binds K fd ["parts", "call", "known"] [] := FD.bindsN fun _ _ _ _ _ _ us hl => match us, hl with | [_, _, _], _ => rfl
  exact ⟨fd, FD, fun k F h => ⟨⟨_, fd, _, He.glo_ok X G (c.fact 11 (f := .glo "calls_made") rfl), FD.kp, h, b⟩⟩⟩
theorem mk_12 (X : K.In h) (G : h.Ns mainGlobals mg) (c : He.SaysD fa fn K) : ∃ fd, FunD K "all_scripts" "all_scripts" (defArgs (top 29)) (defBody (top 29)) (defScope (top 29)) [] [] (He.fAd K ("all_scripts", none)) fd ∧ (∀ k (F : Fn), FnOk P w K mg base CX0 k (He.fAd K ("all_scripts", none)) fd ["parts"] (spF (bp P w K mg) 1 F) → Cal P w K mg base "all_scripts" k 1 F) := by
  obtain ⟨fd, FD⟩ := c.def_ 12 (d := d_12) rfl
  replace FD : FunD K "all_scripts" "all_scripts" (defArgs (top 29)) (defBody (top 29)) (defScope (top 29)) [] [] (He.fAd K ("all_scripts", none)) fd := FD
  have b : Binds K fd ["parts"] [] := FD.bindsN fun _ _ _ _ _ _ us hl => match us, hl with | [_], _ => rfl
  exact ⟨fd, FD, fun k F h => ⟨⟨_, fd, _, He.glo_ok X G (c.fact 12 (f := .glo "all_scripts") rfl), FD.kp, h, b⟩⟩⟩
theorem mk_13 (X : K.In h) (G : h.Ns mainGlobals mg) (c : He.SaysD fa fn K) : ∃ fd, FunD K "needs_in" "needs_in" (defArgs (top 30)) (defBody (top 30)) (defScope (top 30)) [] [] (He.fAd K ("needs_in", none)) fd ∧ (∀ k (F : Fn), FnOk P w K mg base CX0 k (He.fAd K ("needs_in", none)) fd ["parts", "waited", "name"] (spF (bp P w K mg) 3 F) → Cal P w K mg base "needs_in" k 3 F) := by
  obtain ⟨fd, FD⟩ := c.def_ 13 (d := d_13) rfl
  replace FD : FunD K "needs_in" "needs_in" (defArgs (top 30)) (defBody (top 30)) (defScope (top 30)) [] [] (He.fAd K ("needs_in", none)) fd := FD
  have b : Binds K fd ["parts", "waited", "name"] [] := FD.bindsN fun _ _ _ _ _ _ us hl => match us, hl with | [_, _, _], _ => rfl
  exact ⟨fd, FD, fun k F h => ⟨⟨_, fd, _, He.glo_ok X G (c.fact 13 (f := .glo "needs_in") rfl), FD.kp, h, b⟩⟩⟩
theorem mk_14 (X : K.In h) (G : h.Ns mainGlobals mg) (c : He.SaysD fa fn K) : ∃ fd, FunD K "waits" "waits" (defArgs (top 33)) (defBody (top 33)) (defScope (top 33)) [] [] (He.fAd K ("waits", none)) fd ∧ (∀ k (F : Fn), FnOk P w K mg base CX0 k (He.fAd K ("waits", none)) fd ["house", "service", "method"] (spF (bp P w K mg) 3 F) → Cal P w K mg base "waits" k 3 F) := by
  obtain ⟨fd, FD⟩ := c.def_ 14 (d := d_14) rfl
  replace FD : FunD K "waits" "waits" (defArgs (top 33)) (defBody (top 33)) (defScope (top 33)) [] [] (He.fAd K ("waits", none)) fd := FD
  have b : Binds K fd ["house", "service", "method"] [] := FD.bindsN fun _ _ _ _ _ _ us hl => match us, hl with | [_, _, _], _ => rfl
  exact ⟨fd, FD, fun k F h => ⟨⟨_, fd, _, He.glo_ok X G (c.fact 14 (f := .glo "waits") rfl), FD.kp, h, b⟩⟩⟩
theorem mk_15 (X : K.In h) (G : h.Ns mainGlobals mg) (c : He.SaysD fa fn K) : ∃ fd, FunD K "services_of" "services_of" (defArgs (top 34)) (defBody (top 34)) (defScope (top 34)) [] [] (He.fAd K ("services_of", none)) fd ∧ (∀ k (F : Fn), FnOk P w K mg base CX0 k (He.fAd K ("services_of", none)) fd ["calls"] (spF (bp P w K mg) 1 F) → Cal P w K mg base "services_of" k 1 F) := by
  obtain ⟨fd, FD⟩ := c.def_ 15 (d := d_15) rfl
  replace FD : FunD K "services_of" "services_of" (defArgs (top 34)) (defBody (top 34)) (defScope (top 34)) [] [] (He.fAd K ("services_of", none)) fd := FD
  have b : Binds K fd ["calls"] [] := FD.bindsN fun _ _ _ _ _ _ us hl => match us, hl with | [_], _ => rfl
  exact ⟨fd, FD, fun k F h => ⟨⟨_, fd, _, He.glo_ok X G (c.fact 15 (f := .glo "services_of") rfl), FD.kp, h, b⟩⟩⟩
theorem mk_16 (X : K.In h) (G : h.Ns mainGlobals mg) (c : He.SaysD fa fn K) : ∃ fd, FunD K "reach" "reach" (defArgs (top 35)) (defBody (top 35)) (defScope (top 35)) [] [] (He.fAd K ("reach", none)) fd ∧ (∀ k (F : Fn), FnOk P w K mg base CX0 k (He.fAd K ("reach", none)) fd ["house", "service", "method"] (spF (bp P w K mg) 3 F) → Cal P w K mg base "reach" k 3 F) := by
  obtain ⟨fd, FD⟩ := c.def_ 16 (d := d_16) rfl
  replace FD : FunD K "reach" "reach" (defArgs (top 35)) (defBody (top 35)) (defScope (top 35)) [] [] (He.fAd K ("reach", none)) fd := FD
  have b : Binds K fd ["house", "service", "method"] [] := FD.bindsN fun _ _ _ _ _ _ us hl => match us, hl with | [_, _, _], _ => rfl
  exact ⟨fd, FD, fun k F h => ⟨⟨_, fd, _, He.glo_ok X G (c.fact 16 (f := .glo "reach") rfl), FD.kp, h, b⟩⟩⟩
theorem mk_17 (X : K.In h) (G : h.Ns mainGlobals mg) (c : He.SaysD fa fn K) : ∃ fd, FunD K "are_services" "are_services" (defArgs (top 37)) (defBody (top 37)) (defScope (top 37)) [] [] (He.fAd K ("are_services", none)) fd ∧ (∀ k (F : Fn), FnOk P w K mg base CX0 k (He.fAd K ("are_services", none)) fd ["house", "obj"] (spF (bp P w K mg) 2 F) → Cal P w K mg base "are_services" k 2 F) := by
  obtain ⟨fd, FD⟩ := c.def_ 17 (d := d_17) rfl
  replace FD : FunD K "are_services" "are_services" (defArgs (top 37)) (defBody (top 37)) (defScope (top 37)) [] [] (He.fAd K ("are_services", none)) fd := FD
  have b : Binds K fd ["house", "obj"] [] := FD.bindsN fun _ _ _ _ _ _ us hl => match us, hl with | [_, _], _ => rfl
  exact ⟨fd, FD, fun k F h => ⟨⟨_, fd, _, He.glo_ok X G (c.fact 17 (f := .glo "are_services") rfl), FD.kp, h, b⟩⟩⟩
theorem mk_18 (X : K.In h) (G : h.Ns mainGlobals mg) (c : He.SaysD fa fn K) : ∃ fd, FunD K "needs_one" "needs_one" (defArgs (top 38)) (defBody (top 38)) (defScope (top 38)) [] [] (He.fAd K ("needs_one", none)) fd ∧ (∀ k (F : Fn), FnOk P w K mg base CX0 k (He.fAd K ("needs_one", none)) fd ["table", "name", "some"] (spF (bp P w K mg) 3 F) → Cal P w K mg base "needs_one" k 3 F) := by
  obtain ⟨fd, FD⟩ := c.def_ 18 (d := d_18) rfl
  replace FD : FunD K "needs_one" "needs_one" (defArgs (top 38)) (defBody (top 38)) (defScope (top 38)) [] [] (He.fAd K ("needs_one", none)) fd := FD
  have b : Binds K fd ["table", "name", "some"] [] := FD.bindsN fun _ _ _ _ _ _ us hl => match us, hl with | [_, _, _], _ => rfl
  exact ⟨fd, FD, fun k F h => ⟨⟨_, fd, _, He.glo_ok X G (c.fact 18 (f := .glo "needs_one") rfl), FD.kp, h, b⟩⟩⟩
theorem mk_19 (X : K.In h) (G : h.Ns mainGlobals mg) (c : He.SaysD fa fn K) : ∃ fd, FunD K "needs_table" "needs_table" (defArgs (top 39)) (defBody (top 39)) (defScope (top 39)) [] [] (He.fAd K ("needs_table", none)) fd ∧ (∀ k (F : Fn), FnOk P w K mg base CX0 k (He.fAd K ("needs_table", none)) fd ["house"] (spF (bp P w K mg) 1 F) → Cal P w K mg base "needs_table" k 1 F) := by
  obtain ⟨fd, FD⟩ := c.def_ 19 (d := d_19) rfl
  replace FD : FunD K "needs_table" "needs_table" (defArgs (top 39)) (defBody (top 39)) (defScope (top 39)) [] [] (He.fAd K ("needs_table", none)) fd := FD
  have b : Binds K fd ["house"] [] := FD.bindsN fun _ _ _ _ _ _ us hl => match us, hl with | [_], _ => rfl
  exact ⟨fd, FD, fun k F h => ⟨⟨_, fd, _, He.glo_ok X G (c.fact 19 (f := .glo "needs_table") rfl), FD.kp, h, b⟩⟩⟩
theorem mk_20 (X : K.In h) (G : h.Ns mainGlobals mg) (c : He.SaysD fa fn K) : ∃ fd, FunD K "is_closed_by" "is_closed_by" (defArgs (top 40)) (defBody (top 40)) (defScope (top 40)) [] [] (He.fAd K ("is_closed_by", none)) fd ∧ (∀ k (F : Fn), FnOk P w K mg base CX0 k (He.fAd K ("is_closed_by", none)) fd ["table", "some"] (spF (bp P w K mg) 2 F) → Cal P w K mg base "is_closed_by" k 2 F) := by
  obtain ⟨fd, FD⟩ := c.def_ 20 (d := d_20) rfl
  replace FD : FunD K "is_closed_by" "is_closed_by" (defArgs (top 40)) (defBody (top 40)) (defScope (top 40)) [] [] (He.fAd K ("is_closed_by", none)) fd := FD
  have b : Binds K fd ["table", "some"] [] := FD.bindsN fun _ _ _ _ _ _ us hl => match us, hl with | [_, _], _ => rfl
  exact ⟨fd, FD, fun k F h => ⟨⟨_, fd, _, He.glo_ok X G (c.fact 20 (f := .glo "is_closed_by") rfl), FD.kp, h, b⟩⟩⟩
theorem mk_21 (X : K.In h) (G : h.Ns mainGlobals mg) (c : He.SaysD fa fn K) : ∃ fd, FunD K "greatest_closed" "greatest_closed" (defArgs (top 41)) (defBody (top 41)) (defScope (top 41)) [] [] (He.fAd K ("greatest_closed", none)) fd ∧ (∀ k (F : Fn), FnOk P w K mg base CX0 k (He.fAd K ("greatest_closed", none)) fd ["table"] (spF (bp P w K mg) 1 F) → Cal P w K mg base "greatest_closed" k 1 F) := by
  obtain ⟨fd, FD⟩ := c.def_ 21 (d := d_21) rfl
  replace FD : FunD K "greatest_closed" "greatest_closed" (defArgs (top 41)) (defBody (top 41)) (defScope (top 41)) [] [] (He.fAd K ("greatest_closed", none)) fd := FD
  have b : Binds K fd ["table"] [] := FD.bindsN fun _ _ _ _ _ _ us hl => match us, hl with | [_], _ => rfl
  exact ⟨fd, FD, fun k F h => ⟨⟨_, fd, _, He.glo_ok X G (c.fact 21 (f := .glo "greatest_closed") rfl), FD.kp, h, b⟩⟩⟩
theorem mk_22 (X : K.In h) (G : h.Ns mainGlobals mg) (c : He.SaysD fa fn K) : ∃ fd, FunD K "starts_table" "starts_table" (defArgs (top 43)) (defBody (top 43)) (defScope (top 43)) [] [] (He.fAd K ("starts_table", none)) fd ∧ (∀ k (F : Fn), FnOk P w K mg base CX0 k (He.fAd K ("starts_table", none)) fd ["house"] (spF (bp P w K mg) 1 F) → Cal P w K mg base "starts_table" k 1 F) := by
  obtain ⟨fd, FD⟩ := c.def_ 22 (d := d_22) rfl
  replace FD : FunD K "starts_table" "starts_table" (defArgs (top 43)) (defBody (top 43)) (defScope (top 43)) [] [] (He.fAd K ("starts_table", none)) fd := FD
  have b : Binds K fd ["house"] [] := FD.bindsN fun _ _ _ _ _ _ us hl => match us, hl with | [_], _ => rfl
  exact ⟨fd, FD, fun k F h => ⟨⟨_, fd, _, He.glo_ok X G (c.fact 22 (f := .glo "starts_table") rfl), FD.kp, h, b⟩⟩⟩
theorem mk_23 (X : K.In h) (G : h.Ns mainGlobals mg) (c : He.SaysD fa fn K) : ∃ fd, FunD K "is_freed_by" "is_freed_by" (defArgs (top 44)) (defBody (top 44)) (defScope (top 44)) [] [] (He.fAd K ("is_freed_by", none)) fd ∧ (∀ k (F : Fn), FnOk P w K mg base CX0 k (He.fAd K ("is_freed_by", none)) fd ["table", "starts", "some"] (spF (bp P w K mg) 3 F) → Cal P w K mg base "is_freed_by" k 3 F) := by
  obtain ⟨fd, FD⟩ := c.def_ 23 (d := d_23) rfl
  replace FD : FunD K "is_freed_by" "is_freed_by" (defArgs (top 44)) (defBody (top 44)) (defScope (top 44)) [] [] (He.fAd K ("is_freed_by", none)) fd := FD
  have b : Binds K fd ["table", "starts", "some"] [] := FD.bindsN fun _ _ _ _ _ _ us hl => match us, hl with | [_, _, _], _ => rfl
  exact ⟨fd, FD, fun k F h => ⟨⟨_, fd, _, He.glo_ok X G (c.fact 23 (f := .glo "is_freed_by") rfl), FD.kp, h, b⟩⟩⟩
theorem mk_24 (X : K.In h) (G : h.Ns mainGlobals mg) (c : He.SaysD fa fn K) : ∃ fd, FunD K "is_cure" "is_cure" (defArgs (top 45)) (defBody (top 45)) (defScope (top 45)) [] [] (He.fAd K ("is_cure", none)) fd ∧ (∀ k (F : Fn), FnOk P w K mg base CX0 k (He.fAd K ("is_cure", none)) fd ["house", "services"] (spF (bp P w K mg) 2 F) → Cal P w K mg base "is_cure" k 2 F) ∧ (∀ k (F : Fn), FnOk P w K mg base CX0 k (He.fAd K ("is_cure", none)) fd ["house", "services"] (spF (bp P w K mg) 2 F) → CalK P w K mg base "is_cure" k 2 ["services", "house"] [1, 0] F) := by
  obtain ⟨fd, FD⟩ := c.def_ 24 (d := d_24) rfl
  replace FD : FunD K "is_cure" "is_cure" (defArgs (top 45)) (defBody (top 45)) (defScope (top 45)) [] [] (He.fAd K ("is_cure", none)) fd := FD
  have b : Binds K fd ["house", "services"] [] := FD.bindsN fun _ _ _ _ _ _ us hl => match us, hl with | [_, _], _ => rfl
  exact ⟨fd, FD, fun k F h => ⟨⟨_, fd, _, He.glo_ok X G (c.fact 24 (f := .glo "is_cure") rfl), FD.kp, h, b⟩⟩, fun k F h => ⟨⟨_, fd, _, He.glo_ok X G (c.fact 24 (f := .glo "is_cure") rfl), FD.kp, h, kb0 FD fun _ _ _ _ _ _ ws hl => match ws, hl with | [_, _], _ => rfl⟩⟩⟩
theorem mk_25 (X : K.In h) (G : h.Ns mainGlobals mg) (c : He.SaysD fa fn K) : ∃ fd, FunD K "_law_begun" "_law_begun" (defArgs (top 47)) (defBody (top 47)) (defScope (top 47)) [] [] (He.fAd K ("_law_begun", none)) fd ∧ (∀ k (F : Fn), FnOk P w K mg base CX0 k (He.fAd K ("_law_begun", none)) fd ["_law_script_here"] (spF (bp P w K mg) 1 F) → Cal P w K mg base "_law_begun" k 1 F) := by
  obtain ⟨fd, FD⟩ := c.def_ 25 (d := d_25) rfl
  replace FD : FunD K "_law_begun" "_law_begun" (defArgs (top 47)) (defBody (top 47)) (defScope (top 47)) [] [] (He.fAd K ("_law_begun", none)) fd := FD
  have b : Binds K fd ["_law_script_here"] [] := FD.bindsN fun _ _ _ _ _ _ us hl => match us, hl with | [_], _ => rfl
  exact ⟨fd, FD, fun k F h => ⟨⟨_, fd, _, He.glo_ok X G (c.fact 25 (f := .glo "_law_begun") rfl), FD.kp, h, b⟩⟩⟩
theorem mk_26 (X : K.In h) (G : h.Ns mainGlobals mg) (c : He.SaysD fa fn K) : ∃ fd, FunD K "_law_mixed" "_law_mixed" (defArgs (top 48)) (defBody (top 48)) (defScope (top 48)) [] [] (He.fAd K ("_law_mixed", none)) fd ∧ (∀ k (F : Fn), FnOk P w K mg base CX0 k (He.fAd K ("_law_mixed", none)) fd ["_law_state"] (spF (bp P w K mg) 1 F) → Cal P w K mg base "_law_mixed" k 1 F) := by
  obtain ⟨fd, FD⟩ := c.def_ 26 (d := d_26) rfl
  replace FD : FunD K "_law_mixed" "_law_mixed" (defArgs (top 48)) (defBody (top 48)) (defScope (top 48)) [] [] (He.fAd K ("_law_mixed", none)) fd := FD
  have b : Binds K fd ["_law_state"] [] := FD.bindsN fun _ _ _ _ _ _ us hl => match us, hl with | [_], _ => rfl
  exact ⟨fd, FD, fun k F h => ⟨⟨_, fd, _, He.glo_ok X G (c.fact 26 (f := .glo "_law_mixed") rfl), FD.kp, h, b⟩⟩⟩
theorem mk_27 (X : K.In h) (G : h.Ns mainGlobals mg) (c : He.SaysD fa fn K) : ∃ fd, FunD K "_law_take" "_law_take" (defArgs (top 49)) (defBody (top 49)) (defScope (top 49)) [] [] (He.fAd K ("_law_take", none)) fd ∧ (∀ k (F : Fn), FnOk P w K mg base CX0 k (He.fAd K ("_law_take", none)) fd ["_law_state", "_law_size"] (spF (bp P w K mg) 2 F) → Cal P w K mg base "_law_take" k 2 F) := by
  obtain ⟨fd, FD⟩ := c.def_ 27 (d := d_27) rfl
  replace FD : FunD K "_law_take" "_law_take" (defArgs (top 49)) (defBody (top 49)) (defScope (top 49)) [] [] (He.fAd K ("_law_take", none)) fd := FD
  have b : Binds K fd ["_law_state", "_law_size"] [] := FD.bindsN fun _ _ _ _ _ _ us hl => match us, hl with | [_, _], _ => rfl
  exact ⟨fd, FD, fun k F h => ⟨⟨_, fd, _, He.glo_ok X G (c.fact 27 (f := .glo "_law_take") rfl), FD.kp, h, b⟩⟩⟩
theorem mk_28 (X : K.In h) (G : h.Ns mainGlobals mg) (c : He.SaysD fa fn K) : ∃ fd, FunD K "_law_pick" "_law_pick" (defArgs (top 50)) (defBody (top 50)) (defScope (top 50)) [] [] (He.fAd K ("_law_pick", none)) fd ∧ (∀ k (F : Fn), FnOk P w K mg base CX0 k (He.fAd K ("_law_pick", none)) fd ["_law_state", "_law_some"] (spF (bp P w K mg) 2 F) → Cal P w K mg base "_law_pick" k 2 F) := by
  obtain ⟨fd, FD⟩ := c.def_ 28 (d := d_28) rfl
  replace FD : FunD K "_law_pick" "_law_pick" (defArgs (top 50)) (defBody (top 50)) (defScope (top 50)) [] [] (He.fAd K ("_law_pick", none)) fd := FD
  have b : Binds K fd ["_law_state", "_law_some"] [] := FD.bindsN fun _ _ _ _ _ _ us hl => match us, hl with | [_, _], _ => rfl
  exact ⟨fd, FD, fun k F h => ⟨⟨_, fd, _, He.glo_ok X G (c.fact 28 (f := .glo "_law_pick") rfl), FD.kp, h, b⟩⟩⟩
theorem mk_29 (X : K.In h) (G : h.Ns mainGlobals mg) (c : He.SaysD fa fn K) : ∃ fd, FunD K "_law_shuffled" "_law_shuffled" (defArgs (top 51)) (defBody (top 51)) (defScope (top 51)) [] [] (He.fAd K ("_law_shuffled", none)) fd ∧ (∀ k (F : Fn), FnOk P w K mg base CX0 k (He.fAd K ("_law_shuffled", none)) fd ["_law_state", "_law_some"] (spF (bp P w K mg) 2 F) → Cal P w K mg base "_law_shuffled" k 2 F) := by
  obtain ⟨fd, FD⟩ := c.def_ 29 (d := d_29) rfl
  replace FD : FunD K "_law_shuffled" "_law_shuffled" (defArgs (top 51)) (defBody (top 51)) (defScope (top 51)) [] [] (He.fAd K ("_law_shuffled", none)) fd := FD
  have b : Binds K fd ["_law_state", "_law_some"] [] := FD.bindsN fun _ _ _ _ _ _ us hl => match us, hl with | [_, _], _ => rfl
  exact ⟨fd, FD, fun k F h => ⟨⟨_, fd, _, He.glo_ok X G (c.fact 29 (f := .glo "_law_shuffled") rfl), FD.kp, h, b⟩⟩⟩
theorem mk_30 (X : K.In h) (G : h.Ns mainGlobals mg) (c : He.SaysD fa fn K) : ∃ fd, FunD K "_law_names" "_law_names" (defArgs (top 52)) (defBody (top 52)) (defScope (top 52)) [] [] (He.fAd K ("_law_names", none)) fd ∧ (∀ k (F : Fn), FnOk P w K mg base CX0 k (He.fAd K ("_law_names", none)) fd ["_law_state", "_law_many"] (spF (bp P w K mg) 2 F) → Cal P w K mg base "_law_names" k 2 F) := by
  obtain ⟨fd, FD⟩ := c.def_ 30 (d := d_30) rfl
  replace FD : FunD K "_law_names" "_law_names" (defArgs (top 52)) (defBody (top 52)) (defScope (top 52)) [] [] (He.fAd K ("_law_names", none)) fd := FD
  have b : Binds K fd ["_law_state", "_law_many"] [] := FD.bindsN fun _ _ _ _ _ _ us hl => match us, hl with | [_, _], _ => rfl
  exact ⟨fd, FD, fun k F h => ⟨⟨_, fd, _, He.glo_ok X G (c.fact 30 (f := .glo "_law_names") rfl), FD.kp, h, b⟩⟩⟩
theorem mk_31 (X : K.In h) (G : h.Ns mainGlobals mg) (c : He.SaysD fa fn K) : ∃ fd, FunD K "_law_steps" "_law_steps" (defArgs (top 53)) (defBody (top 53)) (defScope (top 53)) [] [] (He.fAd K ("_law_steps", none)) fd ∧ (∀ k (F : Fn), FnOk P w K mg base CX0 k (He.fAd K ("_law_steps", none)) fd ["_law_state", "_law_near", "_law_every", "_law_sizes", "_law_cap"] (spF (bp P w K mg) 5 F) → Cal P w K mg base "_law_steps" k 5 F) := by
  obtain ⟨fd, FD⟩ := c.def_ 31 (d := d_31) rfl
  replace FD : FunD K "_law_steps" "_law_steps" (defArgs (top 53)) (defBody (top 53)) (defScope (top 53)) [] [] (He.fAd K ("_law_steps", none)) fd := FD
  have b : Binds K fd ["_law_state", "_law_near", "_law_every", "_law_sizes", "_law_cap"] [] := FD.bindsN fun _ _ _ _ _ _ us hl => match us, hl with | [_, _, _, _, _], _ => rfl
  exact ⟨fd, FD, fun k F h => ⟨⟨_, fd, _, He.glo_ok X G (c.fact 31 (f := .glo "_law_steps") rfl), FD.kp, h, b⟩⟩⟩
theorem mk_32 (X : K.In h) (G : h.Ns mainGlobals mg) (c : He.SaysD fa fn K) : ∃ fd, FunD K "_law_home" "_law_home" (defArgs (top 54)) (defBody (top 54)) (defScope (top 54)) [] [] (He.fAd K ("_law_home", none)) fd ∧ (∀ k (F : Fn), FnOk P w K mg base CX0 k (He.fAd K ("_law_home", none)) fd ["_law_state", "_law_most", "_law_many", "_law_cap"] (spF (bp P w K mg) 4 F) → Cal P w K mg base "_law_home" k 4 F) := by
  obtain ⟨fd, FD⟩ := c.def_ 32 (d := d_32) rfl
  replace FD : FunD K "_law_home" "_law_home" (defArgs (top 54)) (defBody (top 54)) (defScope (top 54)) [] [] (He.fAd K ("_law_home", none)) fd := FD
  have b : Binds K fd ["_law_state", "_law_most", "_law_many", "_law_cap"] [] := FD.bindsN fun _ _ _ _ _ _ us hl => match us, hl with | [_, _, _, _], _ => rfl
  exact ⟨fd, FD, fun k F h => ⟨⟨_, fd, _, He.glo_ok X G (c.fact 32 (f := .glo "_law_home") rfl), FD.kp, h, b⟩⟩⟩
theorem mk_33 (X : K.In h) (G : h.Ns mainGlobals mg) (c : He.SaysD fa fn K) : ∃ fd, FunD K "_law_script" "_law_script" (defArgs (top 55)) (defBody (top 55)) (defScope (top 55)) [] [] (He.fAd K ("_law_script", none)) fd ∧ (∀ k (F : Fn), FnOk P w K mg base CX0 k (He.fAd K ("_law_script", none)) fd ["_law_home_here", "_law_pair"] (spF (bp P w K mg) 2 F) → Cal P w K mg base "_law_script" k 2 F) := by
  obtain ⟨fd, FD⟩ := c.def_ 33 (d := d_33) rfl
  replace FD : FunD K "_law_script" "_law_script" (defArgs (top 55)) (defBody (top 55)) (defScope (top 55)) [] [] (He.fAd K ("_law_script", none)) fd := FD
  have b : Binds K fd ["_law_home_here", "_law_pair"] [] := FD.bindsN fun _ _ _ _ _ _ us hl => match us, hl with | [_, _], _ => rfl
  exact ⟨fd, FD, fun k F h => ⟨⟨_, fd, _, He.glo_ok X G (c.fact 33 (f := .glo "_law_script") rfl), FD.kp, h, b⟩⟩⟩
theorem mk_34 (X : K.In h) (G : h.Ns mainGlobals mg) (c : He.SaysD fa fn K) : ∃ fd, FunD K "_law_waited" "_law_waited" (defArgs (top 56)) (defBody (top 56)) (defScope (top 56)) [] [] (He.fAd K ("_law_waited", none)) fd ∧ (∀ k (F : Fn), FnOk P w K mg base CX0 k (He.fAd K ("_law_waited", none)) fd ["_law_home_here", "_law_pair"] (spF (bp P w K mg) 2 F) → Cal P w K mg base "_law_waited" k 2 F) := by
  obtain ⟨fd, FD⟩ := c.def_ 34 (d := d_34) rfl
  replace FD : FunD K "_law_waited" "_law_waited" (defArgs (top 56)) (defBody (top 56)) (defScope (top 56)) [] [] (He.fAd K ("_law_waited", none)) fd := FD
  have b : Binds K fd ["_law_home_here", "_law_pair"] [] := FD.bindsN fun _ _ _ _ _ _ us hl => match us, hl with | [_, _], _ => rfl
  exact ⟨fd, FD, fun k F h => ⟨⟨_, fd, _, He.glo_ok X G (c.fact 34 (f := .glo "_law_waited") rfl), FD.kp, h, b⟩⟩⟩
theorem mk_35 (X : K.In h) (G : h.Ns mainGlobals mg) (c : He.SaysD fa fn K) : ∃ fd, FunD K "_law_starts" "_law_starts" (defArgs (top 57)) (defBody (top 57)) (defScope (top 57)) [] [] (He.fAd K ("_law_starts", none)) fd ∧ (∀ k (F : Fn), FnOk P w K mg base CX0 k (He.fAd K ("_law_starts", none)) fd ["_law_home_here"] (spF (bp P w K mg) 1 F) → Cal P w K mg base "_law_starts" k 1 F) := by
  obtain ⟨fd, FD⟩ := c.def_ 35 (d := d_35) rfl
  replace FD : FunD K "_law_starts" "_law_starts" (defArgs (top 57)) (defBody (top 57)) (defScope (top 57)) [] [] (He.fAd K ("_law_starts", none)) fd := FD
  have b : Binds K fd ["_law_home_here"] [] := FD.bindsN fun _ _ _ _ _ _ us hl => match us, hl with | [_], _ => rfl
  exact ⟨fd, FD, fun k F h => ⟨⟨_, fd, _, He.glo_ok X G (c.fact 35 (f := .glo "_law_starts") rfl), FD.kp, h, b⟩⟩⟩
theorem mk_36 (X : K.In h) (G : h.Ns mainGlobals mg) (c : He.SaysD fa fn K) : ∃ fd, FunD K "_law_needs" "_law_needs" (defArgs (top 58)) (defBody (top 58)) (defScope (top 58)) [] [] (He.fAd K ("_law_needs", none)) fd ∧ (∀ k (F : Fn), FnOk P w K mg base CX0 k (He.fAd K ("_law_needs", none)) fd ["_law_home_here", "_law_free"] (spF (bp P w K mg) 2 F) → Cal P w K mg base "_law_needs" k 2 F) := by
  obtain ⟨fd, FD⟩ := c.def_ 36 (d := d_36) rfl
  replace FD : FunD K "_law_needs" "_law_needs" (defArgs (top 58)) (defBody (top 58)) (defScope (top 58)) [] [] (He.fAd K ("_law_needs", none)) fd := FD
  have b : Binds K fd ["_law_home_here", "_law_free"] [] := FD.bindsN fun _ _ _ _ _ _ us hl => match us, hl with | [_, _], _ => rfl
  exact ⟨fd, FD, fun k F h => ⟨⟨_, fd, _, He.glo_ok X G (c.fact 36 (f := .glo "_law_needs") rfl), FD.kp, h, b⟩⟩⟩
theorem mk_37 (X : K.In h) (G : h.Ns mainGlobals mg) (c : He.SaysD fa fn K) : ∃ fd, FunD K "_law_stuck" "_law_stuck" (defArgs (top 59)) (defBody (top 59)) (defScope (top 59)) [] [] (He.fAd K ("_law_stuck", none)) fd ∧ (∀ k (F : Fn), FnOk P w K mg base CX0 k (He.fAd K ("_law_stuck", none)) fd ["_law_table"] (spF (bp P w K mg) 1 F) → Cal P w K mg base "_law_stuck" k 1 F) := by
  obtain ⟨fd, FD⟩ := c.def_ 37 (d := d_37) rfl
  replace FD : FunD K "_law_stuck" "_law_stuck" (defArgs (top 59)) (defBody (top 59)) (defScope (top 59)) [] [] (He.fAd K ("_law_stuck", none)) fd := FD
  have b : Binds K fd ["_law_table"] [] := FD.bindsN fun _ _ _ _ _ _ us hl => match us, hl with | [_], _ => rfl
  exact ⟨fd, FD, fun k F h => ⟨⟨_, fd, _, He.glo_ok X G (c.fact 37 (f := .glo "_law_stuck") rfl), FD.kp, h, b⟩⟩⟩
theorem mk_38 (X : K.In h) (G : h.Ns mainGlobals mg) (c : He.SaysD fa fn K) : ∃ fd, FunD K "_law_calm" "_law_calm" (defArgs (top 60)) (defBody (top 60)) (defScope (top 60)) [] [] (He.fAd K ("_law_calm", none)) fd ∧ (∀ k (F : Fn), FnOk P w K mg base CX0 k (He.fAd K ("_law_calm", none)) fd ["_law_state", "_law_home_here"] (spF (bp P w K mg) 2 F) → Cal P w K mg base "_law_calm" k 2 F) := by
  obtain ⟨fd, FD⟩ := c.def_ 38 (d := d_38) rfl
  replace FD : FunD K "_law_calm" "_law_calm" (defArgs (top 60)) (defBody (top 60)) (defScope (top 60)) [] [] (He.fAd K ("_law_calm", none)) fd := FD
  have b : Binds K fd ["_law_state", "_law_home_here"] [] := FD.bindsN fun _ _ _ _ _ _ us hl => match us, hl with | [_, _], _ => rfl
  exact ⟨fd, FD, fun k F h => ⟨⟨_, fd, _, He.glo_ok X G (c.fact 38 (f := .glo "_law_calm") rfl), FD.kp, h, b⟩⟩⟩
theorem mk_39 (X : K.In h) (G : h.Ns mainGlobals mg) (c : He.SaysD fa fn K) : ∃ fd, FunD K "_law_drawn" "_law_drawn" (defArgs (top 61)) (defBody (top 61)) (defScope (top 61)) [] [] (He.fAd K ("_law_drawn", none)) fd ∧ (∀ k (F : Fn), FnOk P w K mg base CX0 k (He.fAd K ("_law_drawn", none)) fd ["_law_state", "_law_most", "_law_many", "_law_cap"] (spF (bp P w K mg) 4 F) → Cal P w K mg base "_law_drawn" k 4 F) := by
  obtain ⟨fd, FD⟩ := c.def_ 39 (d := d_39) rfl
  replace FD : FunD K "_law_drawn" "_law_drawn" (defArgs (top 61)) (defBody (top 61)) (defScope (top 61)) [] [] (He.fAd K ("_law_drawn", none)) fd := FD
  have b : Binds K fd ["_law_state", "_law_most", "_law_many", "_law_cap"] [] := FD.bindsN fun _ _ _ _ _ _ us hl => match us, hl with | [_, _, _, _], _ => rfl
  exact ⟨fd, FD, fun k F h => ⟨⟨_, fd, _, He.glo_ok X G (c.fact 39 (f := .glo "_law_drawn") rfl), FD.kp, h, b⟩⟩⟩
theorem mk_40 (X : K.In h) (G : h.Ns mainGlobals mg) (c : He.SaysD fa fn K) : ∃ fd, FunD K "_law_absent" "_law_absent" (defArgs (top 62)) (defBody (top 62)) (defScope (top 62)) [] [] (He.fAd K ("_law_absent", none)) fd ∧ (∀ k (F : Fn), FnOk P w K mg base CX0 k (He.fAd K ("_law_absent", none)) fd ["_law_names_here"] (spF (bp P w K mg) 1 F) → Cal P w K mg base "_law_absent" k 1 F) := by
  obtain ⟨fd, FD⟩ := c.def_ 40 (d := d_40) rfl
  replace FD : FunD K "_law_absent" "_law_absent" (defArgs (top 62)) (defBody (top 62)) (defScope (top 62)) [] [] (He.fAd K ("_law_absent", none)) fd := FD
  have b : Binds K fd ["_law_names_here"] [] := FD.bindsN fun _ _ _ _ _ _ us hl => match us, hl with | [_], _ => rfl
  exact ⟨fd, FD, fun k F h => ⟨⟨_, fd, _, He.glo_ok X G (c.fact 40 (f := .glo "_law_absent") rfl), FD.kp, h, b⟩⟩⟩
theorem mk_41 (X : K.In h) (G : h.Ns mainGlobals mg) (c : He.SaysD fa fn K) : ∃ fd, FunD K "_law_odds" "_law_odds" (defArgs (top 63)) (defBody (top 63)) (defScope (top 63)) [] [] (He.fAd K ("_law_odds", none)) fd ∧ (∀ k (F : Fn), FnOk P w K mg base CX0 k (He.fAd K ("_law_odds", none)) fd ["_law_names_here"] (spF (bp P w K mg) 1 F) → Cal P w K mg base "_law_odds" k 1 F) := by
  obtain ⟨fd, FD⟩ := c.def_ 41 (d := d_41) rfl
  replace FD : FunD K "_law_odds" "_law_odds" (defArgs (top 63)) (defBody (top 63)) (defScope (top 63)) [] [] (He.fAd K ("_law_odds", none)) fd := FD
  have b : Binds K fd ["_law_names_here"] [] := FD.bindsN fun _ _ _ _ _ _ us hl => match us, hl with | [_], _ => rfl
  exact ⟨fd, FD, fun k F h => ⟨⟨_, fd, _, He.glo_ok X G (c.fact 41 (f := .glo "_law_odds") rfl), FD.kp, h, b⟩⟩⟩
theorem mk_42 (X : K.In h) (G : h.Ns mainGlobals mg) (c : He.SaysD fa fn K) : ∃ fd, FunD K "__init__" "House.__init__" (defArgs (inClass (top 31) 0)) (defBody (inClass (top 31) 0)) (defScope (inClass (top 31) 0)) [] [] (He.fAd K ("House", some "__init__")) fd ∧ (∀ k (F : Fn), FnOk P w K mg base CX0 k (He.fAd K ("House", some "__init__")) fd ["self", "services"] (spF (bp P w K mg) 2 F) → Mak P w K mg base "House" k 2 F) := by
  obtain ⟨fd, FD⟩ := c.def_ 42 (d := d_42) rfl
  replace FD : FunD K "__init__" "House.__init__" (defArgs (inClass (top 31) 0)) (defBody (inClass (top 31) 0)) (defScope (inClass (top 31) 0)) [] [] (He.fAd K ("House", some "__init__")) fd := FD
  have b : Binds K fd ["self", "services"] [] := FD.bindsN fun _ _ _ _ _ _ us hl => match us, hl with | [_, _], _ => rfl
  exact ⟨fd, FD, fun k F h => ⟨⟨_, _, fd, _, He.glo_ok X G (c.fact 43 (f := .glo "House") rfl), He.mkr_ok (c.fact 70 (f := .mkr "House") rfl), h, b⟩⟩⟩
theorem mk_43 (X : K.In h) (G : h.Ns mainGlobals mg) (c : He.SaysD fa fn K) : ∃ fd, FunD K "__eq__" "House.__eq__" (defArgs (inClass (top 31) 3)) (defBody (inClass (top 31) 3)) (defScope (inClass (top 31) 3)) [] [] (He.fAd K ("House", some "__eq__")) fd ∧ (∀ k (F : Fn), FnOk P w K mg base CX0 k (He.fAd K ("House", some "__eq__")) fd ["self", "other"] (spF (bp P w K mg) 2 F) → Met P w K mg base "House" "__eq__" k 2 F) := by
  obtain ⟨fd, FD⟩ := c.def_ 43 (d := d_43) rfl
  replace FD : FunD K "__eq__" "House.__eq__" (defArgs (inClass (top 31) 3)) (defBody (inClass (top 31) 3)) (defScope (inClass (top 31) 3)) [] [] (He.fAd K ("House", some "__eq__")) fd := FD
  have b : Binds K fd ["self", "other"] [] := FD.bindsN fun _ _ _ _ _ _ us hl => match us, hl with | [_, _], _ => rfl
  exact ⟨fd, FD, fun k F h => ⟨⟨_, _, fd, _, He.glo_ok X G (c.fact 43 (f := .glo "House") rfl), He.cls_ok (c.fact 69 (f := .cls "House") rfl), He.meth_ok (c.fact 71 (f := .meth "House" "__eq__") rfl), h, b⟩⟩⟩
theorem mk_44 (X : K.In h) (G : h.Ns mainGlobals mg) (c : He.SaysD fa fn K) : ∃ fd, FunD K "need_service" "House.need_service" (defArgs (inClass (top 31) 4)) (defBody (inClass (top 31) 4)) (defScope (inClass (top 31) 4)) [] [] (He.fAd K ("House", some "need_service")) fd ∧ (∀ k (F : Fn), FnOk P w K mg base CX0 k (He.fAd K ("House", some "need_service")) fd ["self", "service"] (spF (bp P w K mg) 2 F) → Met P w K mg base "House" "need_service" k 2 F) := by
  obtain ⟨fd, FD⟩ := c.def_ 44 (d := d_44) rfl
  replace FD : FunD K "need_service" "House.need_service" (defArgs (inClass (top 31) 4)) (defBody (inClass (top 31) 4)) (defScope (inClass (top 31) 4)) [] [] (He.fAd K ("House", some "need_service")) fd := FD
  have b : Binds K fd ["self", "service"] [] := FD.bindsN fun _ _ _ _ _ _ us hl => match us, hl with | [_, _], _ => rfl
  exact ⟨fd, FD, fun k F h => ⟨⟨_, _, fd, _, He.glo_ok X G (c.fact 43 (f := .glo "House") rfl), He.cls_ok (c.fact 69 (f := .cls "House") rfl), He.meth_ok (c.fact 72 (f := .meth "House" "need_service") rfl), h, b⟩⟩⟩
theorem mk_45 (X : K.In h) (G : h.Ns mainGlobals mg) (c : He.SaysD fa fn K) : ∃ fd, FunD K "need_method" "House.need_method" (defArgs (inClass (top 31) 5)) (defBody (inClass (top 31) 5)) (defScope (inClass (top 31) 5)) [] [] (He.fAd K ("House", some "need_method")) fd ∧ (∀ k (F : Fn), FnOk P w K mg base CX0 k (He.fAd K ("House", some "need_method")) fd ["self", "service", "method"] (spF (bp P w K mg) 3 F) → Met P w K mg base "House" "need_method" k 3 F) := by
  obtain ⟨fd, FD⟩ := c.def_ 45 (d := d_45) rfl
  replace FD : FunD K "need_method" "House.need_method" (defArgs (inClass (top 31) 5)) (defBody (inClass (top 31) 5)) (defScope (inClass (top 31) 5)) [] [] (He.fAd K ("House", some "need_method")) fd := FD
  have b : Binds K fd ["self", "service", "method"] [] := FD.bindsN fun _ _ _ _ _ _ us hl => match us, hl with | [_, _, _], _ => rfl
  exact ⟨fd, FD, fun k F h => ⟨⟨_, _, fd, _, He.glo_ok X G (c.fact 43 (f := .glo "House") rfl), He.cls_ok (c.fact 69 (f := .cls "House") rfl), He.meth_ok (c.fact 73 (f := .meth "House" "need_method") rfl), h, b⟩⟩⟩
theorem mk_46 (X : K.In h) (G : h.Ns mainGlobals mg) (c : He.SaysD fa fn K) : ∃ fd, FunD K "need_script" "House.need_script" (defArgs (inClass (top 31) 6)) (defBody (inClass (top 31) 6)) (defScope (inClass (top 31) 6)) [] [] (He.fAd K ("House", some "need_script")) fd ∧ (∀ k (F : Fn), FnOk P w K mg base CX0 k (He.fAd K ("House", some "need_script")) fd ["self", "service", "method"] (spF (bp P w K mg) 3 F) → Met P w K mg base "House" "need_script" k 3 F) := by
  obtain ⟨fd, FD⟩ := c.def_ 46 (d := d_46) rfl
  replace FD : FunD K "need_script" "House.need_script" (defArgs (inClass (top 31) 6)) (defBody (inClass (top 31) 6)) (defScope (inClass (top 31) 6)) [] [] (He.fAd K ("House", some "need_script")) fd := FD
  have b : Binds K fd ["self", "service", "method"] [] := FD.bindsN fun _ _ _ _ _ _ us hl => match us, hl with | [_, _, _], _ => rfl
  exact ⟨fd, FD, fun k F h => ⟨⟨_, _, fd, _, He.glo_ok X G (c.fact 43 (f := .glo "House") rfl), He.cls_ok (c.fact 69 (f := .cls "House") rfl), He.meth_ok (c.fact 74 (f := .meth "House" "need_script") rfl), h, b⟩⟩⟩
theorem tb (hp : P = Wd.P ∧ w = Wd.w) (X : K.In h) (G : h.Ns mainGlobals mg) (c : He.SaysD fa fn K) (ci : exB K = true) : ∀ k, Tb P w K mg base (2 * k) (S k)
  | 0 => by
    obtain ⟨fd_0, F_0, C_0⟩ := mk_0 (P := P) (w := w) (base := base) X G c
    obtain ⟨fd_1, F_1, C_1⟩ := mk_1 (P := P) (w := w) (base := base) X G c
    obtain ⟨fd_2, F_2, C_2⟩ := mk_2 (P := P) (w := w) (base := base) X G c
    obtain ⟨fd_3, F_3, C_3⟩ := mk_3 (P := P) (w := w) (base := base) X G c
    obtain ⟨fd_4, F_4, C_4⟩ := mk_4 (P := P) (w := w) (base := base) X G c
    obtain ⟨fd_5, F_5, C_5⟩ := mk_5 (P := P) (w := w) (base := base) X G c
    obtain ⟨fd_6, F_6, C_6⟩ := mk_6 (P := P) (w := w) (base := base) X G c
    obtain ⟨fd_7, F_7, C_7⟩ := mk_7 (P := P) (w := w) (base := base) X G c
    obtain ⟨fd_8, F_8, C_8⟩ := mk_8 (P := P) (w := w) (base := base) X G c
    obtain ⟨fd_9, F_9, C_9⟩ := mk_9 (P := P) (w := w) (base := base) X G c
    obtain ⟨fd_10, F_10, C_10⟩ := mk_10 (P := P) (w := w) (base := base) X G c
    obtain ⟨fd_11, F_11, C_11⟩ := mk_11 (P := P) (w := w) (base := base) X G c
    obtain ⟨fd_12, F_12, C_12⟩ := mk_12 (P := P) (w := w) (base := base) X G c
    obtain ⟨fd_13, F_13, C_13⟩ := mk_13 (P := P) (w := w) (base := base) X G c
    obtain ⟨fd_14, F_14, C_14⟩ := mk_14 (P := P) (w := w) (base := base) X G c
    obtain ⟨fd_15, F_15, C_15⟩ := mk_15 (P := P) (w := w) (base := base) X G c
    obtain ⟨fd_16, F_16, C_16⟩ := mk_16 (P := P) (w := w) (base := base) X G c
    obtain ⟨fd_17, F_17, C_17⟩ := mk_17 (P := P) (w := w) (base := base) X G c
    obtain ⟨fd_18, F_18, C_18⟩ := mk_18 (P := P) (w := w) (base := base) X G c
    obtain ⟨fd_19, F_19, C_19⟩ := mk_19 (P := P) (w := w) (base := base) X G c
    obtain ⟨fd_20, F_20, C_20⟩ := mk_20 (P := P) (w := w) (base := base) X G c
    obtain ⟨fd_21, F_21, C_21⟩ := mk_21 (P := P) (w := w) (base := base) X G c
    obtain ⟨fd_22, F_22, C_22⟩ := mk_22 (P := P) (w := w) (base := base) X G c
    obtain ⟨fd_23, F_23, C_23⟩ := mk_23 (P := P) (w := w) (base := base) X G c
    obtain ⟨fd_24, F_24, C_24, K_24⟩ := mk_24 (P := P) (w := w) (base := base) X G c
    obtain ⟨fd_25, F_25, C_25⟩ := mk_25 (P := P) (w := w) (base := base) X G c
    obtain ⟨fd_26, F_26, C_26⟩ := mk_26 (P := P) (w := w) (base := base) X G c
    obtain ⟨fd_27, F_27, C_27⟩ := mk_27 (P := P) (w := w) (base := base) X G c
    obtain ⟨fd_28, F_28, C_28⟩ := mk_28 (P := P) (w := w) (base := base) X G c
    obtain ⟨fd_29, F_29, C_29⟩ := mk_29 (P := P) (w := w) (base := base) X G c
    obtain ⟨fd_30, F_30, C_30⟩ := mk_30 (P := P) (w := w) (base := base) X G c
    obtain ⟨fd_31, F_31, C_31⟩ := mk_31 (P := P) (w := w) (base := base) X G c
    obtain ⟨fd_32, F_32, C_32⟩ := mk_32 (P := P) (w := w) (base := base) X G c
    obtain ⟨fd_33, F_33, C_33⟩ := mk_33 (P := P) (w := w) (base := base) X G c
    obtain ⟨fd_34, F_34, C_34⟩ := mk_34 (P := P) (w := w) (base := base) X G c
    obtain ⟨fd_35, F_35, C_35⟩ := mk_35 (P := P) (w := w) (base := base) X G c
    obtain ⟨fd_36, F_36, C_36⟩ := mk_36 (P := P) (w := w) (base := base) X G c
    obtain ⟨fd_37, F_37, C_37⟩ := mk_37 (P := P) (w := w) (base := base) X G c
    obtain ⟨fd_38, F_38, C_38⟩ := mk_38 (P := P) (w := w) (base := base) X G c
    obtain ⟨fd_39, F_39, C_39⟩ := mk_39 (P := P) (w := w) (base := base) X G c
    obtain ⟨fd_40, F_40, C_40⟩ := mk_40 (P := P) (w := w) (base := base) X G c
    obtain ⟨fd_41, F_41, C_41⟩ := mk_41 (P := P) (w := w) (base := base) X G c
    obtain ⟨fd_42, F_42, C_42⟩ := mk_42 (P := P) (w := w) (base := base) X G c
    obtain ⟨fd_43, F_43, C_43⟩ := mk_43 (P := P) (w := w) (base := base) X G c
    obtain ⟨fd_44, F_44, C_44⟩ := mk_44 (P := P) (w := w) (base := base) X G c
    obtain ⟨fd_45, F_45, C_45⟩ := mk_45 (P := P) (w := w) (base := base) X G c
    obtain ⟨fd_46, F_46, C_46⟩ := mk_46 (P := P) (w := w) (base := base) X G c
    exact {
      t0 := C_0 _ _ (fn_bad rfl)
      t1 := C_1 _ _ (fn_bad rfl)
      t2 := C_2 _ _ (fn_bad rfl)
      t3 := C_3 _ _ (fn_bad rfl)
      t4 := C_4 _ _ (fn_bad rfl)
      t5 := C_5 _ _ (fn_bad rfl)
      t6 := C_6 _ _ (fn_bad rfl)
      t7 := C_7 _ _ (fn_bad rfl)
      t8 := C_8 _ _ (fn_bad rfl)
      t9 := C_9 _ _ (fn_bad rfl)
      t10 := C_10 _ _ (fn_bad rfl)
      t11 := C_11 _ _ (fn_bad rfl)
      t12 := C_12 _ _ (fn_bad rfl)
      t13 := C_13 _ _ (fn_bad rfl)
      t14 := C_14 _ _ (fn_bad rfl)
      t15 := C_15 _ _ (fn_bad rfl)
      t16 := C_16 _ _ (fn_bad rfl)
      t17 := C_17 _ _ (fn_bad rfl)
      t18 := C_18 _ _ (fn_bad rfl)
      t19 := C_19 _ _ (fn_bad rfl)
      t20 := C_20 _ _ (fn_bad rfl)
      t21 := C_21 _ _ (fn_bad rfl)
      t22 := C_22 _ _ (fn_bad rfl)
      t23 := C_23 _ _ (fn_bad rfl)
      t24 := C_24 _ _ (fn_bad rfl)
      k24_10 := K_24 _ _ (fn_bad rfl)
      t25 := C_25 _ _ (fn_bad rfl)
      t26 := C_26 _ _ (fn_bad rfl)
      t27 := C_27 _ _ (fn_bad rfl)
      t28 := C_28 _ _ (fn_bad rfl)
      t29 := C_29 _ _ (fn_bad rfl)
      t30 := C_30 _ _ (fn_bad rfl)
      t31 := C_31 _ _ (fn_bad rfl)
      t32 := C_32 _ _ (fn_bad rfl)
      t33 := C_33 _ _ (fn_bad rfl)
      t34 := C_34 _ _ (fn_bad rfl)
      t35 := C_35 _ _ (fn_bad rfl)
      t36 := C_36 _ _ (fn_bad rfl)
      t37 := C_37 _ _ (fn_bad rfl)
      t38 := C_38 _ _ (fn_bad rfl)
      t39 := C_39 _ _ (fn_bad rfl)
      t40 := C_40 _ _ (fn_bad rfl)
      t41 := C_41 _ _ (fn_bad rfl)
      t42 := C_42 _ _ (fn_bad rfl)
      t43 := C_43 _ _ (fn_bad rfl)
      t44 := C_44 _ _ (fn_bad rfl)
      t45 := C_45 _ _ (fn_bad rfl)
      t46 := C_46 _ _ (fn_bad rfl)
      ar := fun i ws st hw => rfl }
  | k + 1 => by
    have T := tb hp X G c ci k
    have F := fx X G c ci
    obtain ⟨fd_0, F_0, C_0⟩ := mk_0 (P := P) (w := w) (base := base) X G c
    obtain ⟨fd_1, F_1, C_1⟩ := mk_1 (P := P) (w := w) (base := base) X G c
    obtain ⟨fd_2, F_2, C_2⟩ := mk_2 (P := P) (w := w) (base := base) X G c
    obtain ⟨fd_3, F_3, C_3⟩ := mk_3 (P := P) (w := w) (base := base) X G c
    obtain ⟨fd_4, F_4, C_4⟩ := mk_4 (P := P) (w := w) (base := base) X G c
    obtain ⟨fd_5, F_5, C_5⟩ := mk_5 (P := P) (w := w) (base := base) X G c
    obtain ⟨fd_6, F_6, C_6⟩ := mk_6 (P := P) (w := w) (base := base) X G c
    obtain ⟨fd_7, F_7, C_7⟩ := mk_7 (P := P) (w := w) (base := base) X G c
    obtain ⟨fd_8, F_8, C_8⟩ := mk_8 (P := P) (w := w) (base := base) X G c
    obtain ⟨fd_9, F_9, C_9⟩ := mk_9 (P := P) (w := w) (base := base) X G c
    obtain ⟨fd_10, F_10, C_10⟩ := mk_10 (P := P) (w := w) (base := base) X G c
    obtain ⟨fd_11, F_11, C_11⟩ := mk_11 (P := P) (w := w) (base := base) X G c
    obtain ⟨fd_12, F_12, C_12⟩ := mk_12 (P := P) (w := w) (base := base) X G c
    obtain ⟨fd_13, F_13, C_13⟩ := mk_13 (P := P) (w := w) (base := base) X G c
    obtain ⟨fd_14, F_14, C_14⟩ := mk_14 (P := P) (w := w) (base := base) X G c
    obtain ⟨fd_15, F_15, C_15⟩ := mk_15 (P := P) (w := w) (base := base) X G c
    obtain ⟨fd_16, F_16, C_16⟩ := mk_16 (P := P) (w := w) (base := base) X G c
    obtain ⟨fd_17, F_17, C_17⟩ := mk_17 (P := P) (w := w) (base := base) X G c
    obtain ⟨fd_18, F_18, C_18⟩ := mk_18 (P := P) (w := w) (base := base) X G c
    obtain ⟨fd_19, F_19, C_19⟩ := mk_19 (P := P) (w := w) (base := base) X G c
    obtain ⟨fd_20, F_20, C_20⟩ := mk_20 (P := P) (w := w) (base := base) X G c
    obtain ⟨fd_21, F_21, C_21⟩ := mk_21 (P := P) (w := w) (base := base) X G c
    obtain ⟨fd_22, F_22, C_22⟩ := mk_22 (P := P) (w := w) (base := base) X G c
    obtain ⟨fd_23, F_23, C_23⟩ := mk_23 (P := P) (w := w) (base := base) X G c
    obtain ⟨fd_24, F_24, C_24, K_24⟩ := mk_24 (P := P) (w := w) (base := base) X G c
    obtain ⟨fd_25, F_25, C_25⟩ := mk_25 (P := P) (w := w) (base := base) X G c
    obtain ⟨fd_26, F_26, C_26⟩ := mk_26 (P := P) (w := w) (base := base) X G c
    obtain ⟨fd_27, F_27, C_27⟩ := mk_27 (P := P) (w := w) (base := base) X G c
    obtain ⟨fd_28, F_28, C_28⟩ := mk_28 (P := P) (w := w) (base := base) X G c
    obtain ⟨fd_29, F_29, C_29⟩ := mk_29 (P := P) (w := w) (base := base) X G c
    obtain ⟨fd_30, F_30, C_30⟩ := mk_30 (P := P) (w := w) (base := base) X G c
    obtain ⟨fd_31, F_31, C_31⟩ := mk_31 (P := P) (w := w) (base := base) X G c
    obtain ⟨fd_32, F_32, C_32⟩ := mk_32 (P := P) (w := w) (base := base) X G c
    obtain ⟨fd_33, F_33, C_33⟩ := mk_33 (P := P) (w := w) (base := base) X G c
    obtain ⟨fd_34, F_34, C_34⟩ := mk_34 (P := P) (w := w) (base := base) X G c
    obtain ⟨fd_35, F_35, C_35⟩ := mk_35 (P := P) (w := w) (base := base) X G c
    obtain ⟨fd_36, F_36, C_36⟩ := mk_36 (P := P) (w := w) (base := base) X G c
    obtain ⟨fd_37, F_37, C_37⟩ := mk_37 (P := P) (w := w) (base := base) X G c
    obtain ⟨fd_38, F_38, C_38⟩ := mk_38 (P := P) (w := w) (base := base) X G c
    obtain ⟨fd_39, F_39, C_39⟩ := mk_39 (P := P) (w := w) (base := base) X G c
    obtain ⟨fd_40, F_40, C_40⟩ := mk_40 (P := P) (w := w) (base := base) X G c
    obtain ⟨fd_41, F_41, C_41⟩ := mk_41 (P := P) (w := w) (base := base) X G c
    obtain ⟨fd_42, F_42, C_42⟩ := mk_42 (P := P) (w := w) (base := base) X G c
    obtain ⟨fd_43, F_43, C_43⟩ := mk_43 (P := P) (w := w) (base := base) X G c
    obtain ⟨fd_44, F_44, C_44⟩ := mk_44 (P := P) (w := w) (base := base) X G c
    obtain ⟨fd_45, F_45, C_45⟩ := mk_45 (P := P) (w := w) (base := base) X G c
    obtain ⟨fd_46, F_46, C_46⟩ := mk_46 (P := P) (w := w) (base := base) X G c
    exact {
      t0 := C_0 _ _ (fn_step F_0 sc_0 rfl fun cdv A outer s H E hr => ok_0 hp F T hr)
      t1 := C_1 _ _ (fn_step F_1 sc_1 rfl fun cdv A outer s H E hr => ok_1 hp F T hr)
      t2 := C_2 _ _ (fn_step F_2 sc_2 rfl fun cdv A outer s H E hr => ok_2 hp F T hr)
      t3 := C_3 _ _ (fn_step F_3 sc_3 rfl fun cdv A outer s H E hr => ok_3 hp F T hr)
      t4 := C_4 _ _ (fn_step F_4 sc_4 rfl fun cdv A outer s H E hr => ok_4 hp F T hr)
      t5 := C_5 _ _ (fn_step F_5 sc_5 rfl fun cdv A outer s H E hr => ok_5 hp F T hr)
      t6 := C_6 _ _ (fn_step F_6 sc_6 rfl fun cdv A outer s H E hr => ok_6 hp F T hr)
      t7 := C_7 _ _ (fn_step F_7 sc_7 rfl fun cdv A outer s H E hr => ok_7 hp F T hr)
      t8 := C_8 _ _ (fn_step F_8 sc_8 rfl fun cdv A outer s H E hr => ok_8 hp F T hr)
      t9 := C_9 _ _ (fn_step F_9 sc_9 rfl fun cdv A outer s H E hr => ok_9 hp F T hr)
      t10 := C_10 _ _ (fn_step F_10 sc_10 rfl fun cdv A outer s H E hr => ok_10 hp F T hr)
      t11 := C_11 _ _ (fn_step F_11 sc_11 rfl fun cdv A outer s H E hr => ok_11 hp F T hr)
      t12 := C_12 _ _ (fn_step F_12 sc_12 rfl fun cdv A outer s H E hr => ok_12 hp F T hr)
      t13 := C_13 _ _ (fn_step F_13 sc_13 rfl fun cdv A outer s H E hr => ok_13 hp F T hr)
      t14 := C_14 _ _ (fn_step F_14 sc_14 rfl fun cdv A outer s H E hr => ok_14 hp F T hr)
      t15 := C_15 _ _ (fn_step F_15 sc_15 rfl fun cdv A outer s H E hr => ok_15 hp F T hr)
      t16 := C_16 _ _ (fn_step F_16 sc_16 rfl fun cdv A outer s H E hr => ok_16 hp F T hr)
      t17 := C_17 _ _ (fn_step F_17 sc_17 rfl fun cdv A outer s H E hr => ok_17 hp F T hr)
      t18 := C_18 _ _ (fn_step F_18 sc_18 rfl fun cdv A outer s H E hr => ok_18 hp F T hr)
      t19 := C_19 _ _ (fn_step F_19 sc_19 rfl fun cdv A outer s H E hr => ok_19 hp F T hr)
      t20 := C_20 _ _ (fn_step F_20 sc_20 rfl fun cdv A outer s H E hr => ok_20 hp F T hr)
      t21 := C_21 _ _ (fn_step F_21 sc_21 rfl fun cdv A outer s H E hr => ok_21 hp F T hr)
      t22 := C_22 _ _ (fn_step F_22 sc_22 rfl fun cdv A outer s H E hr => ok_22 hp F T hr)
      t23 := C_23 _ _ (fn_step F_23 sc_23 rfl fun cdv A outer s H E hr => ok_23 hp F T hr)
      t24 := C_24 _ _ (fn_step F_24 sc_24 rfl fun cdv A outer s H E hr => ok_24 hp F T hr)
      k24_10 := K_24 _ _ (fn_step F_24 sc_24 rfl fun cdv A outer s H E hr => ok_24 hp F T hr)
      t25 := C_25 _ _ (fn_step F_25 sc_25 rfl fun cdv A outer s H E hr => ok_25 hp F T hr)
      t26 := C_26 _ _ (fn_step F_26 sc_26 rfl fun cdv A outer s H E hr => ok_26 hp F T hr)
      t27 := C_27 _ _ (fn_step F_27 sc_27 rfl fun cdv A outer s H E hr => ok_27 hp F T hr)
      t28 := C_28 _ _ (fn_step F_28 sc_28 rfl fun cdv A outer s H E hr => ok_28 hp F T hr)
      t29 := C_29 _ _ (fn_step F_29 sc_29 rfl fun cdv A outer s H E hr => ok_29 hp F T hr)
      t30 := C_30 _ _ (fn_step F_30 sc_30 rfl fun cdv A outer s H E hr => ok_30 hp F T hr)
      t31 := C_31 _ _ (fn_step F_31 sc_31 rfl fun cdv A outer s H E hr => ok_31 hp F T hr)
      t32 := C_32 _ _ (fn_step F_32 sc_32 rfl fun cdv A outer s H E hr => ok_32 hp F T hr)
      t33 := C_33 _ _ (fn_step F_33 sc_33 rfl fun cdv A outer s H E hr => ok_33 hp F T hr)
      t34 := C_34 _ _ (fn_step F_34 sc_34 rfl fun cdv A outer s H E hr => ok_34 hp F T hr)
      t35 := C_35 _ _ (fn_step F_35 sc_35 rfl fun cdv A outer s H E hr => ok_35 hp F T hr)
      t36 := C_36 _ _ (fn_step F_36 sc_36 rfl fun cdv A outer s H E hr => ok_36 hp F T hr)
      t37 := C_37 _ _ (fn_step F_37 sc_37 rfl fun cdv A outer s H E hr => ok_37 hp F T hr)
      t38 := C_38 _ _ (fn_step F_38 sc_38 rfl fun cdv A outer s H E hr => ok_38 hp F T hr)
      t39 := C_39 _ _ (fn_step F_39 sc_39 rfl fun cdv A outer s H E hr => ok_39 hp F T hr)
      t40 := C_40 _ _ (fn_step F_40 sc_40 rfl fun cdv A outer s H E hr => ok_40 hp F T hr)
      t41 := C_41 _ _ (fn_step F_41 sc_41 rfl fun cdv A outer s H E hr => ok_41 hp F T hr)
      t42 := C_42 _ _ (fn_step F_42 sc_42 rfl fun cdv A outer s H E hr => ok_42 hp F T hr)
      t43 := C_43 _ _ (fn_step F_43 sc_43 rfl fun cdv A outer s H E hr => ok_43 hp F T hr)
      t44 := C_44 _ _ (fn_step F_44 sc_44 rfl fun cdv A outer s H E hr => ok_44 hp F T hr)
      t45 := C_45 _ _ (fn_step F_45 sc_45 rfl fun cdv A outer s H E hr => ok_45 hp F T hr)
      t46 := C_46 _ _ (fn_step F_46 sc_46 rfl fun cdv A outer s H E hr => ok_46 hp F T hr)
      ar := fun i ws st hw => ar_bd i (S k) ws st hw }
end
end HT
end

section
set_option Elab.async false
set_option linter.all false
set_option maxRecDepth 100000
set_option maxHeartbeats 1000000
namespace HT
open PySem L2 Pd PySem.W
/-! ### what a house is made of is accepted -/
theorem st_0 (k : Nat) (w0 : W) (w1 : W) (w2 : W) (st : Sto) : S (k + 1) 0 [w0, w1, w2] st = (b_0 (S k) [some w0, some w1, some w2] st).bind retF := rfl
theorem st_1 (k : Nat) (w0 : W) (st : Sto) : S (k + 1) 1 [w0] st = (b_1 (S k) [some w0, none] st).bind retF := rfl
theorem st_2 (k : Nat) (w0 : W) (st : Sto) : S (k + 1) 2 [w0] st = (b_2 (S k) [some w0] st).bind retF := rfl
theorem st_3 (k : Nat) (w0 : W) (st : Sto) : S (k + 1) 3 [w0] st = (b_3 (S k) [some w0, none, none] st).bind retF := rfl
theorem st_4 (k : Nat) (w0 : W) (st : Sto) : S (k + 1) 4 [w0] st = (b_4 (S k) [some w0] st).bind retF := rfl
theorem st_5 (k : Nat) (w0 : W) (w1 : W) (st : Sto) : S (k + 1) 5 [w0, w1] st = (b_5 (S k) [some w0, some w1, none] st).bind retF := rfl
theorem st_6 (k : Nat) (w0 : W) (st : Sto) : S (k + 1) 6 [w0] st = (b_6 (S k) [some w0, none] st).bind retF := rfl
theorem st_7 (k : Nat) (w0 : W) (st : Sto) : S (k + 1) 7 [w0] st = (b_7 (S k) [some w0, none, none, none, none, none, none] st).bind retF := rfl
theorem st_8 (k : Nat) (w0 : W) (w1 : W) (st : Sto) : S (k + 1) 8 [w0, w1] st = (b_8 (S k) [some w0, some w1, none, none] st).bind retF := rfl
theorem st_9 (k : Nat) (w0 : W) (st : Sto) : S (k + 1) 9 [w0] st = (b_9 (S k) [some w0, none, none, none] st).bind retF := rfl
theorem st_10 (k : Nat) (w0 : W) (w1 : W) (st : Sto) : S (k + 1) 10 [w0, w1] st = (b_10 (S k) [some w0, some w1, none, none, none] st).bind retF := rfl
theorem st_11 (k : Nat) (w0 : W) (w1 : W) (w2 : W) (st : Sto) : S (k + 1) 11 [w0, w1, w2] st = (b_11 (S k) [some w0, some w1, some w2, none, none] st).bind retF := rfl
theorem st_12 (k : Nat) (w0 : W) (st : Sto) : S (k + 1) 12 [w0] st = (b_12 (S k) [some w0, none, none, none] st).bind retF := rfl
theorem st_13 (k : Nat) (w0 : W) (w1 : W) (w2 : W) (st : Sto) : S (k + 1) 13 [w0, w1, w2] st = (b_13 (S k) [some w0, some w1, some w2, none, none, none] st).bind retF := rfl
theorem st_14 (k : Nat) (w0 : W) (w1 : W) (w2 : W) (st : Sto) : S (k + 1) 14 [w0, w1, w2] st = (b_14 (S k) [some w0, some w1, some w2] st).bind retF := rfl
theorem st_15 (k : Nat) (w0 : W) (st : Sto) : S (k + 1) 15 [w0] st = (b_15 (S k) [some w0, none] st).bind retF := rfl
theorem st_16 (k : Nat) (w0 : W) (w1 : W) (w2 : W) (st : Sto) : S (k + 1) 16 [w0, w1, w2] st = (b_16 (S k) [some w0, some w1, some w2] st).bind retF := rfl
theorem st_17 (k : Nat) (w0 : W) (w1 : W) (st : Sto) : S (k + 1) 17 [w0, w1] st = (b_17 (S k) [some w0, some w1, none] st).bind retF := rfl
theorem st_18 (k : Nat) (w0 : W) (w1 : W) (w2 : W) (st : Sto) : S (k + 1) 18 [w0, w1, w2] st = (b_18 (S k) [some w0, some w1, some w2, none] st).bind retF := rfl
theorem st_19 (k : Nat) (w0 : W) (st : Sto) : S (k + 1) 19 [w0] st = (b_19 (S k) [some w0, none] st).bind retF := rfl
theorem st_20 (k : Nat) (w0 : W) (w1 : W) (st : Sto) : S (k + 1) 20 [w0, w1] st = (b_20 (S k) [some w0, some w1, none] st).bind retF := rfl
theorem st_21 (k : Nat) (w0 : W) (st : Sto) : S (k + 1) 21 [w0] st = (b_21 (S k) [some w0, none, none] st).bind retF := rfl
theorem st_22 (k : Nat) (w0 : W) (st : Sto) : S (k + 1) 22 [w0] st = (b_22 (S k) [some w0, none] st).bind retF := rfl
theorem st_23 (k : Nat) (w0 : W) (w1 : W) (w2 : W) (st : Sto) : S (k + 1) 23 [w0, w1, w2] st = (b_23 (S k) [some w0, some w1, some w2, none] st).bind retF := rfl
theorem st_24 (k : Nat) (w0 : W) (w1 : W) (st : Sto) : S (k + 1) 24 [w0, w1] st = (b_24 (S k) [some w0, some w1] st).bind retF := rfl
theorem st_25 (k : Nat) (w0 : W) (st : Sto) : S (k + 1) 25 [w0] st = (b_25 (S k) [some w0, none, none] st).bind retF := rfl
theorem st_26 (k : Nat) (w0 : W) (st : Sto) : S (k + 1) 26 [w0] st = (b_26 (S k) [some w0, none, none, none, none, none] st).bind retF := rfl
theorem st_27 (k : Nat) (w0 : W) (w1 : W) (st : Sto) : S (k + 1) 27 [w0, w1] st = (b_27 (S k) [some w0, some w1, none] st).bind retF := rfl
theorem st_28 (k : Nat) (w0 : W) (w1 : W) (st : Sto) : S (k + 1) 28 [w0, w1] st = (b_28 (S k) [some w0, some w1] st).bind retF := rfl
theorem st_29 (k : Nat) (w0 : W) (w1 : W) (st : Sto) : S (k + 1) 29 [w0, w1] st = (b_29 (S k) [some w0, some w1, none, none] st).bind retF := rfl
theorem st_30 (k : Nat) (w0 : W) (w1 : W) (st : Sto) : S (k + 1) 30 [w0, w1] st = (b_30 (S k) [some w0, some w1, none, none, none, none, none, none, none, none] st).bind retF := rfl
theorem st_31 (k : Nat) (w0 : W) (w1 : W) (w2 : W) (w3 : W) (w4 : W) (st : Sto) : S (k + 1) 31 [w0, w1, w2, w3, w4] st = (b_31 (S k) [some w0, some w1, some w2, some w3, some w4, none, none, none, none, none] st).bind retF := rfl
theorem st_32 (k : Nat) (w0 : W) (w1 : W) (w2 : W) (w3 : W) (st : Sto) : S (k + 1) 32 [w0, w1, w2, w3] st = (b_32 (S k) [some w0, some w1, some w2, some w3, none, none, none, none, none, none, none, none, none, none, none, none, none, none, none, none, none] st).bind retF := rfl
theorem st_33 (k : Nat) (w0 : W) (w1 : W) (st : Sto) : S (k + 1) 33 [w0, w1] st = (b_33 (S k) [some w0, some w1, none, none] st).bind retF := rfl
theorem st_34 (k : Nat) (w0 : W) (w1 : W) (st : Sto) : S (k + 1) 34 [w0, w1] st = (b_34 (S k) [some w0, some w1, none, none, none, none, none] st).bind retF := rfl
theorem st_35 (k : Nat) (w0 : W) (st : Sto) : S (k + 1) 35 [w0] st = (b_35 (S k) [some w0, none, none] st).bind retF := rfl
theorem st_36 (k : Nat) (w0 : W) (w1 : W) (st : Sto) : S (k + 1) 36 [w0, w1] st = (b_36 (S k) [some w0, some w1, none, none, none, none] st).bind retF := rfl
theorem st_37 (k : Nat) (w0 : W) (st : Sto) : S (k + 1) 37 [w0] st = (b_37 (S k) [some w0, none, none, none, none] st).bind retF := rfl
theorem st_38 (k : Nat) (w0 : W) (w1 : W) (st : Sto) : S (k + 1) 38 [w0, w1] st = (b_38 (S k) [some w0, some w1, none, none, none, none, none, none, none, none, none, none, none, none] st).bind retF := rfl
theorem st_39 (k : Nat) (w0 : W) (w1 : W) (w2 : W) (w3 : W) (st : Sto) : S (k + 1) 39 [w0, w1, w2, w3] st = (b_39 (S k) [some w0, some w1, some w2, some w3, none] st).bind retF := rfl
theorem st_40 (k : Nat) (w0 : W) (st : Sto) : S (k + 1) 40 [w0] st = (b_40 (S k) [some w0, none, none] st).bind retF := rfl
theorem st_41 (k : Nat) (w0 : W) (st : Sto) : S (k + 1) 41 [w0] st = (b_41 (S k) [some w0, none, none, none] st).bind retF := rfl
theorem st_42 (k : Nat) (w0 : W) (w1 : W) (st : Sto) : S (k + 1) 42 [w0, w1] st = (b_42 (S k) [some w0, some w1, none, none, none, none, none, none, none, none] st).bind retF := rfl
theorem st_43 (k : Nat) (w0 : W) (w1 : W) (st : Sto) : S (k + 1) 43 [w0, w1] st = (b_43 (S k) [some w0, some w1] st).bind retF := rfl
theorem st_44 (k : Nat) (w0 : W) (w1 : W) (st : Sto) : S (k + 1) 44 [w0, w1] st = (b_44 (S k) [some w0, some w1] st).bind retF := rfl
theorem st_45 (k : Nat) (w0 : W) (w1 : W) (w2 : W) (st : Sto) : S (k + 1) 45 [w0, w1, w2] st = (b_45 (S k) [some w0, some w1, some w2] st).bind retF := rfl
theorem st_46 (k : Nat) (w0 : W) (w1 : W) (w2 : W) (st : Sto) : S (k + 1) 46 [w0, w1, w2] st = (b_46 (S k) [some w0, some w1, some w2] st).bind retF := rfl
theorem is_number_sp {k : Nat} {st : Sto} {i lo hi : Int} (h1 : lo ≤ i) (h2 : i ≤ hi) : S (k + 1) 0 [.p (.int i), .p (.int lo), .p (.int hi)] st = .ok (.p (.bool true)) st := by
  rw [st_0]
  simp [sSeq_eq, b_0, oCI, oIsN, isNoneD, h1, h2]
theorem is_name_sp {k : Nat} {st : Sto} {x : Str} (h : NameOk x) : S (k + 1) 1 [.p (.str x)] st = .ok (.p (.bool true)) st := by
  obtain ⟨h1, h2, h3⟩ := h
  have e : ¬ x = ("" : Str) := fun e => by subst e; revert h1; decide
  have e2 : x.cps.size ≤ sizeLine := sizeLine_big (by omega)
  have e3 : lcL (gN 1) tYesS (sB (oIn false) (sVar 1) (sC (.str "abcdefghijklmnopqrstuvwxyz"))) [some (.p (.str x)), none] (signs x) [] st = .ok ([] ++ x.cps.toList.map fun c => PyData.bool true) st := by
    refine lcL_all (fun c => PyData.str ⟨#[c]⟩) (fun _ => PyData.bool true) x.cps.toList [] fun c hc => ⟨[some (.p (.str x)), some (.p (.str ⟨#[c]⟩))], rfl, rfl, ?_⟩
    have := letter_in' (h3 c hc).1 (h3 c hc).2
    simp only [sB_eq, sVar_eq, varOf_some, sC_eq, bind_ok, List.getElem?_cons_succ, List.getElem?_cons_zero, oIn, val_str, this, retB_eq]
    rfl
  rw [st_1]
  have e4 : ¬ (8 : Int) < (x.length : Int) := by
    have : x.length = x.cps.size := rfl
    omega
  have e5 : x.length ≤ sizeLine := e2
  have e6 : cAll (fun bs => bs.all id) [.p (.list (x.cps.toList.map fun c => PyData.bool true))] st = .ok (.p (.bool true)) st := by
    rw [cAll_map]; simp
  simp [sSeq_eq, b_1, oCI, oEq, eqv_str, e, cLen, itemsOf_str e2, e3, e4, e5, e6]
theorem is_workers_sp {k : Nat} {st : Sto} {w : Option Int} (h : ∀ i, w = some i → 1 ≤ i ∧ i ≤ 4) : S (k + 2) 2 [.p (eI w)] st = .ok (.p (.bool true)) st := by
  rw [st_2]
  cases w with
  | none => simp [b_2, oIsN, isNoneD, eI]
  | some i => simp [b_2, oIsN, isNoneD, eI, is_number_sp (h i rfl).1 (h i rfl).2]

theorem word_in {w : Str} (h : w = sWait ∨ w = sPost) : ([PyData.str "wait", PyData.str "post"].any fun z => PyData.eqv z (.str w)) = true := by
  rcases h with rfl | rfl <;> decide +kernel
theorem is_script_sp {k : Nat} {st : Sto} {x : Scr} (h1 : x.length ≤ 4) (h2 : ∀ s ∈ x, s.1 = sWait ∨ s.1 = sPost) : S (k + 1) 3 [.p (eScr x)] st = .ok (.p (.bool true)) st := by
  have e4 : ¬ (4 : Int) < (x.length : Int) := by omega
  refine Ok.to_eq ?_
  rw [st_3]
  simp [b_3, oCI, e4]
  refine forL_pre eStep x (fun _ en st' => st' = st ∧ ∃ o, en = [some (.p (eScr x)), o, none]) (fun pre s post en st' e ⟨e1, o, e2⟩ => ?_) (fun en st' ⟨e1, o, e2⟩ => ?_) ⟨rfl, none, rfl⟩
  · subst e1 e2
    have hw := word_in (h2 s (by rw [e]; simp))
    have l1 : ∀ en0, lcL (gN 2) tYesS (sIsi (isD "str") (sVar 2)) [en0, some (.p (eStep s)), none] [.str s.1, .str s.2.1, .str s.2.2] [] st' = .ok [.bool true, .bool true, .bool true] st' := by
      intro en0; simp [lcL]
    have l2 : cAll (fun bs => bs.all id) [.p (.list [.bool true, .bool true, .bool true])] st' = .ok (.p (.bool true)) st' := rfl
    simp only [List.any_cons, List.any_nil, Bool.or_false] at hw
    simp [oNe, eqv_int, l1, l2, oIn, mkT, sizeLine, PyData.plainAll, PyData.plain]
    rw [if_neg]
    · exact ⟨rfl, _, rfl⟩
    · rintro ⟨q1, q2⟩; rw [q1, q2] at hw; cases hw
  · subst e1 e2; simp
theorem is_method_sp {k : Nat} {st : Sto} {h : Home} {d : Deed} (g : DeedOk h d) : S (k + 2) 4 [.p (eDeed d)] st = .ok (.p (.bool true)) st := by
  rw [st_4]
  simp [b_4, oEq, eqv_int, is_number_sp g.1 g.2.1, is_script_sp g.2.2.1 fun s hs => (g.2.2.2 s hs).1]
theorem all_true {α : Type} {st : Sto} (xs : List α) : cAll (fun bs => bs.all id) [.p (.list (xs.map fun _ => PyData.bool true))] st = .ok (.p (.bool true)) st := by
  rw [cAll_map]; simp
theorem is_names_sp {α : Type} {k : Nat} {st : Sto} {f : α → PyData} {l : List (Str × α)} {n : Nat} (g : NamesOk (l.map (·.1)) n) (hn : n ≤ 1000) : S (k + 2) 5 [.p (.dict (eD f l)), .p (.int n)] st = .ok (.p (.bool true)) st := by
  have h1 := g.pos
  have h2 := g.le
  rw [List.length_map] at h1 h2
  have e1 : ¬ (l.length : Int) = 0 := by omega
  have e2 : ¬ (n : Int) < (l.length : Int) := by omega
  have e3 : mkL ((l.map (·.1)).map .str) st = .ok (.p (.list ((l.map (·.1)).map .str))) st := mkL_small (by simp; omega)
  rw [st_5]
  simp only [b_5, varOf_some, isiOf_some, sSeq_eq, sIfS_eq, sOr_eq, sNot_eq, sT_eq, sIsi_eq, sVar_eq, List.getElem?_cons_zero, bind_ok, val_eD, isD_dict_dict, retB_eq, asB_bool, Bool.not_true, Bool.false_eq_true, if_false, sB_eq, sCall_eq, sCons_eq, sNil_eq, cLen_eD, sC_eq, oEq, val_int, okD_int, Bool.and_self, if_true, eqv_int, e1, decide_false, List.getElem?_cons_succ, oCI, e2, sNext_eq, sRet_eq, sLc_eq, sItems_eq, cListB_eD, e3, itemsOf_list, wipeE_cons, wipeE_nil, List.set_cons_succ, List.set_cons_zero]
  rw [lcL_all PyData.str (fun _ => PyData.bool true)]
  · simp [Function.comp_def, all_true]
  · intro x hx
    exact ⟨_, rfl, rfl, by simp [is_name_sp (g.ok x hx)]⟩

theorem is_service_sp {k : Nat} {st : Sto} {h : Home} {s : Serv} (g : ServOk h s) : S (k + 3) 6 [.p (eServ s)] st = .ok (.p (.bool true)) st := by
  have e1 : S (k + 2) 3 [.p (eScr s.2.1)] st = .ok (.p (.bool true)) st := is_script_sp g.st.1 fun x hx => (g.st.2 x hx).1
  have e2 : S (k + 2) 5 [.p (eTab s.2.2), .p (.int 4)] st = .ok (.p (.bool true)) st := is_names_sp (f := eDeed) (n := 4) g.ns (by omega)
  have e3 : mkL ((s.2.2.map (·.1)).map .str) st = .ok (.p (.list ((s.2.2.map (·.1)).map .str))) st := mkL_small (by have := g.ns.le; simp at this ⊢; omega)
  rw [st_6]
  simp [sSeq_eq, b_6, oNe, eqv_int, is_workers_sp g.w, e1, e2, e3, -List.map_map]
  rw [lcL_all PyData.str (fun _ => PyData.bool true)]
  · simp [Function.comp_def, all_true]
  · intro x hx
    obtain ⟨d, hd⟩ := look_some hx
    exact ⟨_, rfl, rfl, by simp [oIx_tab hd, is_method_sp (g.ds _ (look_mem hd))]⟩

end HT
end

section
set_option Elab.async false
set_option linter.all false
set_option maxRecDepth 100000
set_option maxHeartbeats 1000000
namespace HT
open PySem L2 Pd PySem.W
/-! ### the whole dict -/
theorem is_house_data_sp {k : Nat} {st : Sto} {h : Home} (g : HomeOk h) : S (k + 4) 7 [.p (eHome h)] st = .ok (.p (.bool true)) st := by
  have e2 : S (k + 3) 5 [.p (eHome h), .p (.int 6)] st = .ok (.p (.bool true)) st := is_names_sp (f := eServ) (n := 6) g.ns (by omega)
  have e3 : mkL ((h.map (·.1)).map .str) st = .ok (.p (.list ((h.map (·.1)).map .str))) st := mkL_small (by have := g.ns.le; simp at this ⊢; omega)
  refine Ok.to_eq ?_
  rw [st_7]
  simp [b_7, e2, e3, -List.map_map]
  rw [lcL_all PyData.str (fun _ => PyData.bool true)]
  rotate_left
  · intro x hx
    obtain ⟨d, hd⟩ := look_some hx
    exact ⟨_, rfl, rfl, by simp [oIx_home hd, is_service_sp (g.sv _ (look_mem hd))]⟩
  simp [all_true, e3, -List.map_map]
  refine forL_pre PyData.str (h.map (·.1)) (fun _ en st' => st' = st ∧ ∃ a b c d e f, en = [some (.p (eHome h)), a, b, c, d, e, f]) (fun pre x post en st' e ⟨q1, a, b, c, d, e', f, q2⟩ => ?_) (fun en st' ⟨q1, a, b, c, d, e', f, q2⟩ => ?_) ⟨rfl, _, _, _, _, _, _, rfl⟩
  · subst q1 q2
    obtain ⟨s, hs⟩ := look_some (show x ∈ h.map (·.1) by rw [e]; simp)
    have gs := g.sv _ (look_mem hs)
    have e4 : mkL ((s.2.2.map (·.1)).map .str) st' = .ok (.p (.list ((s.2.2.map (·.1)).map .str))) st' := mkL_small (by have := gs.ns.le; simp at this ⊢; omega)
    have e5 : mkL [eScr s.2.1] st' = .ok (.p (.list [eScr s.2.1])) st' := mkL_small (by simp)
    have hin : ∀ y ∈ s.2.2.map (·.1), ∃ dd, look s.2.2 y = some dd := fun y hy => look_some hy
    simp [oIx_home hs, e4, e5, -List.map_map]
    rw [lcL_all PyData.str (fun y => eScr (((look s.2.2 y).map (·.2)).getD []))]
    rotate_left
    · intro y hy
      obtain ⟨dd, hd⟩ := look_some hy
      exact ⟨_, rfl, rfl, by simp [oIx_home hs, oIx_tab hd, hd]⟩
    have e6 : ([eScr s.2.1] ++ (s.2.2.map (·.1)).map fun y => eScr (((look s.2.2 y).map (·.2)).getD [])) = (s.2.1 :: (s.2.2.map (·.1)).map fun y => ((look s.2.2 y).map (·.2)).getD []).map eScr := by simp [Function.comp_def]
    have e7 : mkL ([eScr s.2.1] ++ (s.2.2.map (·.1)).map fun y => eScr (((look s.2.2 y).map (·.2)).getD [])) st' = .ok (.p (.list ((s.2.1 :: (s.2.2.map (·.1)).map fun y => ((look s.2.2 y).map (·.2)).getD []).map eScr))) st' := by
      rw [e6]; exact mkL_small (by have := gs.ns.le; simp at this ⊢; omega)
    have okx : ∀ sc ∈ (s.2.1 :: (s.2.2.map (·.1)).map fun y => ((look s.2.2 y).map (·.2)).getD []), ScrOk h sc := by
      intro sc hsc
      rcases List.mem_cons.mp hsc with rfl | hsc
      · exact gs.st
      · obtain ⟨y, hy, rfl⟩ := List.mem_map.mp hsc
        obtain ⟨dd, hd⟩ := look_some hy
        rw [hd]
        exact (gs.ds _ (look_mem hd)).2.2
    generalize (s.2.1 :: (s.2.2.map (·.1)).map fun y => ((look s.2.2 y).map (·.2)).getD []) = scs at e7 okx
    simp only [List.nil_append, bind_ok, keepL_eq, ok_ok, oAdd, val_list, e7, itemsOf_list]
    refine forL_pre eScr scs (fun _ en st2 => st2 = st' ∧ ∃ a b c d e f, en = [some (.p (eHome h)), a, b, c, d, e, f]) (fun pre sc post en st2 ee2 ⟨q1, a, b, c, d, e', f, q2⟩ => ?_) (fun en st2 ⟨q1, a, b, c, d, e', f, q2⟩ => ?_) ⟨rfl, _, _, _, _, _, _, rfl⟩
    · subst q1 q2
      have osc := okx sc (by rw [ee2]; simp)
      simp
      refine forL_pre eStep sc (fun _ en st3 => st3 = st2 ∧ ∃ a b c d e f, en = [some (.p (eHome h)), a, b, c, d, e, f]) (fun pre t post en st3 ee3 ⟨q1, a, b, c, d, e', f, q2⟩ => ?_) (fun en st3 ⟨q1, a, b, c, d, e', f, q2⟩ => ?_) ⟨rfl, _, _, _, _, _, _, rfl⟩
      · subst q1 q2
        obtain ⟨_, sv, m, h1, h2⟩ := osc.2 t (by rw [ee3]; simp)
        have m1 : t.2.1 ∈ h.map (·.1) := List.mem_map.mpr ⟨_, look_mem h1, rfl⟩
        have m2 : t.2.2 ∈ sv.2.2.map (·.1) := List.mem_map.mpr ⟨_, look_mem h2, rfl⟩
        simp [oIn_home, m1, oIx_home h1, oIn_tab, m2, -List.mem_map]
      · subst q1 q2; simp
    · subst q1 q2; simp
  · subst q1 q2; simp

end HT
end

section
set_option Elab.async false
set_option linter.all false
set_option maxRecDepth 100000
set_option maxHeartbeats 1000000
namespace HT
open PySem L2 Pd PySem.W
/-! ### scripts, what they wait for -/
theorem script_in_sp {k : Nat} {st : Sto} {a : Nat} {h : Home} {c : Call} {x : Scr} (hs : st[a]? = some (.dic (eD eServ h))) (e : scrOf h c = some x) : S (k + 1) 8 [.o a, .p (eC c)] st = .ok (.p (eScr x)) st := by
  obtain ⟨n, m⟩ := c
  unfold scrOf at e
  split at e
  · cases e
  · rename_i sv h1
    rw [st_8]
    cases m with
    | none => cases e; simp [sSeq_eq, b_8, eO, oIsN, isNoneD, oIx_dic eServ hs h1]
    | some m =>
      simp only at e
      obtain ⟨d, h2, rfl⟩ := Option.map_eq_some_iff.mp e
      simp [sSeq_eq, b_8, eO, oIsN, isNoneD, oIx_dic eServ hs h1, oIx_tab h2]
theorem eqv_wait (w : Str) : PyData.eqv (.str w) (.str "wait") = decide (w = sWait) := eqv_str w sWait
theorem wait_calls_sp {k : Nat} {st : Sto} {x : Scr} : S (k + 1) 9 [.p (eScr x)] st = .ok (.o st.length) (st ++ [.lst ((waitsOf x).map eC)]) := by
  rw [st_9]
  simp [b_9]
  rw [lcL_map eStep (fun s => decide (s.1 = sWait)) (fun s => eC (s.2.1, some s.2.2))]
  · simp [waitsOf, Function.comp_def]
  · intro s hs
    refine ⟨_, rfl, ?_, fun _ => ?_⟩
    · simp [oEq, eqv_wait]
    · simp [mkT, sizeLine, eC, eO]
/-- what is found so far, what is left -/
structure WInv (h : Home) (x : Scr) (c : Call) (st0 : Sto) (a n0 : Nat) (m : Nat) (en : En) (st : Sto) (fnd rest : List Call) (r : Nat) : Prop where
  en' : ∃ o, en = [some (.o a), some (.p (eC c)), some (.o n0), o, some (.o r)]
  fd : st[n0]? = some (.dit (eSet fnd))
  rs : st[r]? = some (.lst (rest.map eC))
  ne : r ≠ n0
  ext : Ext st0 st
  ln : st0.length ≤ n0
  lr : st0.length ≤ r
  nd : fnd.Nodup
  mf : ∀ d ∈ fnd, Rch h c d
  mr : ∀ d ∈ rest, Rch h c d
  b : ∀ d ∈ waitsOf x, d ∈ fnd ∨ d ∈ rest
  s : ∀ e ∈ fnd, ∀ y, scrOf h e = some y → ∀ d ∈ waitsOf y, d ∈ fnd ∨ d ∈ rest
  mm : m = rest.length + 4 * (30 - fnd.length)
  le : m ≤ 124
theorem waited_for_sp {k : Nat} {st : Sto} {a : Nat} {h : Home} (g : HomeOk h) {c : Call} {x : Scr} (hs : st[a]? = some (.dic (eD eServ h))) (e : scrOf h c = some x) :
    Ok (S (k + 2) 10 [.o a, .p (eC c)] st) fun w st' => ∃ l : List Call, w = .p (.list (l.map eC)) ∧ l.Nodup ∧ l.length ≤ 30 ∧ (∀ d, d ∈ l ↔ Rch h c d) ∧ Ext st st' := by
  rw [st_10]
  have hs1 := get_app [Cell.dit []] hs
  simp [b_10, script_in_sp hs1 e, wait_calls_sp]
  have lx : (waitsOf x).length ≤ 4 := by
    have := (g.scr e).1
    simp [waitsOf]
    exact Nat.le_trans (List.length_filter_le _ _) this
  have start : WInv h x c st a st.length ((waitsOf x).length + 4 * 30) [some (.o a), some (.p (eC c)), some (.o st.length), none, some (.o (st.length + 1))] (st ++ [.dit [], .lst ((waitsOf x).map eC)]) [] (waitsOf x) (st.length + 1) :=
    ⟨⟨_, rfl⟩, by simp [eSet, eT], by simp, by omega, Ext.app _, by omega, by omega, List.nodup_nil, by simp, fun d hd => .base e hd, fun d hd => .inr hd, by simp, by simp, by omega⟩
  refine while_ok (fun m en st' => ∃ fnd rest r, WInv h x c st a st.length m en st' fnd rest r) (fun m en st' ⟨fnd, rest, r, I⟩ => ?_) 4096 _ _ _ ⟨_, _, _, start⟩ ?_
  · obtain ⟨o, e1⟩ := I.en'
    subst e1
    have lf : fnd.length ≤ 30 := Nat.le_trans (nodup_len fnd (allCalls h) I.nd fun d hd => let ⟨y, hy⟩ := (I.mf d hd).scr g; mem_allCalls hy) (allCalls_len g)
    simp [mkL_small, oNe_calls I.rs]
    by_cases hr : rest = []
    · subst hr
      rw [if_pos rfl]
      simp [cListB_set I.fd, mkL_small (show (fnd.map eC).length ≤ 1000000 by simp; omega)]
      obtain ⟨m2, p, e2⟩ := sort_calls (st := st') (l := fnd) (fun d hd => (I.mf d hd).meth) (by omega)
      simp [e2]
      have clo : ∀ d, Rch h c d → d ∈ fnd := fun d rr => by
        induction rr with
        | base e' hd => rw [e] at e'; cases e'; simpa using I.b _ hd
        | step r' e' hd ih => simpa using I.s _ ih _ e' _ hd
      exact ⟨m2, rfl, p.nodup_iff.mpr I.nd, by rw [p.length_eq]; exact lf, fun a b => by rw [p.mem_iff]; exact ⟨I.mf _, clo _⟩, I.ext⟩
    · rw [if_neg hr]
      obtain ⟨ri, d, rfl⟩ := snoc_of_ne hr
      have rd := I.mr d (by simp)
      obtain ⟨y, hy⟩ := rd.scr g
      have hp := mPop_map (e := eC) I.rs
      have f1 := get_set_ne (c := .lst (ri.map eC)) I.ne I.fd
      have r1 := get_set (c := .lst (ri.map eC)) I.rs
      have a1 : (st'.set r (.lst (ri.map eC)))[a]? = some (.dic (eD eServ h)) := get_set_ne (by have := get_lt hs; have := I.lr; omega) (I.ext.get hs)
      have l4 : (waitsOf y).length ≤ 4 := by
        have := (g.scr hy).1
        simp [waitsOf]
        exact Nat.le_trans (List.length_filter_le _ _) this
      simp [isLst_o I.rs, hp, oInT_set f1]
      by_cases hd : d ∈ fnd
      · simp only [hd, if_true, turn_nx]
        refine ⟨_, ?_, fnd, ri, r, ⟨⟨_, rfl⟩, f1, r1, I.ne, I.ext.setNew I.lr, I.ln, I.lr, I.nd, I.mf, fun z hz => I.mr z (by simp [hz]), fun z hz => ?_, fun e' he' y' hy' z hz => ?_, rfl, by have h1 := I.mm; have h2 := I.le; simp at h1; omega⟩⟩
        · have := I.mm; simp at this; omega
        · have := I.b z hz
          simp at this
          rcases this with q | q | q
          · exact .inl q
          · exact .inr q
          · exact .inl (q ▸ hd)
        · have := I.s e' he' y' hy' z hz
          simp at this
          rcases this with q | q | q
          · exact .inl q
          · exact .inr q
          · exact .inl (q ▸ hd)
      · have f2 := get_set (c := .dit (eSet (fnd ++ [d]))) f1
        have r2 := get_set_ne (c := .dit (eSet (fnd ++ [d]))) (fun q => I.ne q.symm) r1
        have a2 := get_set_ne (c := .dit (eSet (fnd ++ [d]))) (Nat.ne_of_gt (get_lt hs)) a1
        simp [hd, oPutT_set f1 (by have := sizeLine_big (n := fnd.length + 1) (by omega); omega) hd]
        generalize hst2 : (st'.set r (.lst (ri.map eC))).set st.length (.dit (eSet (fnd ++ [d]))) = st2 at *
        have ext2 : Ext st st2 := by rw [← hst2]; exact (I.ext.setNew I.lr).setNew (Nat.le_refl _)
        have r3 := get_app [Cell.lst ((waitsOf y).map eC)] r2
        have v3 : (st2 ++ [Cell.lst ((waitsOf y).map eC)])[st2.length]? = some (.lst ((waitsOf y).map eC)) := by simp
        simp [script_in_sp a2 hy, wait_calls_sp, oAddO, val_lst r3, val_lst v3]
        have small : (ri.map eC ++ (waitsOf y).map eC).length ≤ 1000000 := by
          have h1 := I.mm
          have h2 := I.le
          simp at h1 ⊢
          omega
        simp [mkO_small small]
        have f4 := get_app [Cell.lst ((waitsOf y).map eC), Cell.lst ((ri ++ waitsOf y).map eC)] f2
        have lf2 : (fnd ++ [d]).length ≤ 30 := by
          refine Nat.le_trans (nodup_len (fnd ++ [d]) (allCalls h) (List.nodup_append.mpr ⟨I.nd, by simp, fun a ha b hb => ?_⟩) fun z hz => ?_) (allCalls_len g)
          · simp at hb; subst hb; exact fun q => hd (q ▸ ha)
          · simp at hz
            rcases hz with hz | rfl
            · obtain ⟨y', hy'⟩ := (I.mf z hz).scr g; exact mem_allCalls hy'
            · exact mem_allCalls hy
        have hm := I.mm
        have hle := I.le
        simp at hm lf2
        have hlen : st2.length = st'.length := by rw [← hst2]; simp
        have hlx := I.ext.1
        refine ⟨(ri ++ waitsOf y).length + 4 * (30 - (fnd ++ [d]).length), ?_, fnd ++ [d], ri ++ waitsOf y, st2.length + 1, ⟨⟨_, rfl⟩, ?_, ?_, ?_, Kept.app ext2 _, I.ln, ?_, ?_, ?_, ?_, ?_, ?_, rfl, ?_⟩⟩
        · simp; omega
        · simpa using f4
        · simp
        · have := get_lt f2; omega
        · omega
        · exact List.nodup_append.mpr ⟨I.nd, by simp, fun a ha b hb => by simp at hb; subst hb; exact fun q => hd (q ▸ ha)⟩
        · intro z hz
          simp at hz
          rcases hz with hz | rfl
          · exact I.mf z hz
          · exact rd
        · intro z hz
          simp at hz
          rcases hz with hz | hz
          · exact I.mr z (by simp [hz])
          · exact .step rd hy hz
        · intro z hz
          have := I.b z hz
          simp at this ⊢
          rcases this with q | q | q
          · exact .inl (.inl q)
          · exact .inr (.inl q)
          · exact .inl (.inr q)
        · intro e' he' y' hy' z hz
          simp at he'
          rcases he' with he' | rfl
          · have := I.s e' he' y' hy' z hz
            simp at this ⊢
            rcases this with q | q | q
            · exact .inl (.inl q)
            · exact .inr (.inl q)
            · exact .inl (.inr q)
          · rw [hy] at hy'; cases hy'
            simp [hz]
        · simp; omega
  · omega

end HT
end

section
set_option Elab.async false
set_option linter.all false
set_option maxRecDepth 100000
set_option maxHeartbeats 1000000
namespace HT
open PySem L2 Pd PySem.W
/-! ### how many calls -/
structure Known (h : Home) (sz : Call → Nat) (kn : Nat) (st : Sto) (l : List (Call × Int)) : Prop where
  at' : st[kn]? = some (.dit (eT PyData.int l))
  nd : (l.map (·.1)).Nodup
  ok : ∀ p ∈ l, p.2 = sz p.1 ∧ p.1 ∈ allCalls h
theorem Known.len {h : Home} (g : HomeOk h) {sz : Call → Nat} {kn : Nat} {st : Sto} {l : List (Call × Int)} (K : Known h sz kn st l) : l.length ≤ 30 := by
  have := nodup_len (l.map (·.1)) (allCalls h) K.nd fun c hc => by
    obtain ⟨p, hp, rfl⟩ := List.mem_map.mp hc
    exact (K.ok p hp).2
  rw [List.length_map] at this
  exact Nat.le_trans this (allCalls_len g)
theorem calls_made_sp {a : Nat} {h : Home} (g : HomeOk h) {sz : Call → Nat} (z : Sized h sz) {kn : Nat} (ak : a ≠ kn) : ∀ (n : Nat) {k : Nat} {st : Sto} {c : Call} {x : Scr} {l : List (Call × Int)}, st[a]? = some (.dic (eD eServ h)) → scrOf h c = some x → sz c ≤ n → Known h sz kn st l →
    Ok (S (k + n + 2) 11 [.o a, .p (eC c), .o kn] st) fun w st' => w = .p (.int (sz c)) ∧ Kept (· = kn) st st' ∧ ∃ l', Known h sz kn st' l' ∧ ∀ p ∈ l', p ∈ l ∨ sz p.1 ≤ sz c := by
  intro n
  induction n using Nat.strongRecOn with
  | ind n ih =>
  intro k st c x l hs e hn K
  rw [show k + n + 2 = (k + n + 1) + 1 from rfl, st_11]
  simp [b_11, oInT_dit _ K.at', -List.mem_map]
  by_cases hc : c ∈ l.map (·.1)
  · rw [if_pos hc]
    obtain ⟨v, hv⟩ := lookC_some hc
    have := (K.ok _ (lookC_mem hv)).1
    simp at this
    subst this
    simp [oIxT_dit _ K.at' hv]
    exact ⟨.refl, l, K, fun a b i hp => .inl hp⟩
  · rw [if_neg hc]
    have sv : (st ++ [Cell.lst ((waitsOf x).map eC)])[st.length]? = some (.lst ((waitsOf x).map eC)) := by simp
    simp [script_in_sp (k := k + n) hs e, wait_calls_sp, frzW_lst sv]
    have K0 : Known h sz kn (st ++ [Cell.frz (.list ((waitsOf x).map eC))]) l := ⟨get_app _ K.at', K.nd, K.ok⟩
    refine forL_pre eC (waitsOf x) (fun pre en st' => ∃ o l', en = [some (.o a), some (.p (eC c)), some (.o kn), some (.p (.int ((pre.map fun d => 1 + sz d).sum : Nat))), o] ∧ Kept (· = kn) st st' ∧ Known h sz kn st' l' ∧ ∀ p ∈ l', p ∈ l ∨ sz p.1 < sz c)
      (fun pre d post en st' e1 ⟨o, l', e2, kp, K1, hl⟩ => ?_) (fun en st' ⟨o, l', e2, kp, K1, hl⟩ => ?_) ⟨_, l, rfl, Ext.app _, K0, fun p hp => .inl hp⟩
    · subst e2
      have hd : d ∈ waitsOf x := by rw [e1]; simp
      have lt := z.lt e hd
      obtain ⟨y, hy⟩ := g.wait e hd
      have a1 := kp.2 a _ ak hs
      have lv : k + n + 1 = (k + n - 1 - sz d) + sz d + 2 := by omega
      have sp := ih (sz d) (by omega) (k := k + n - 1 - sz d) a1 hy (Nat.le_refl _) K1
      rw [← lv] at sp
      simp only [gN_eq, ok_ok, List.set_cons_succ, List.set_cons_zero]
      rw [sAugI_eq (a := ((pre.map fun d => 1 + sz d).sum : Nat)) rfl]
      simp
      refine sp.mono fun w st2 ⟨h1, h2, l2, K2, hl2⟩ => ?_
      subst h1
      simp [oAdd]
      refine ⟨kp.trans h2, l2, K2, fun a b i hp => ?_⟩
      rcases hl2 _ hp with q | q
      · exact hl _ q
      · exact .inr (by simp at q; omega)
    · subst e2
      have nc : c ∉ l'.map (·.1) := fun q => by
        obtain ⟨p, hp, rfl⟩ := List.mem_map.mp q
        rcases hl p hp with q | q
        · exact hc (List.mem_map.mpr ⟨p, q, rfl⟩)
        · omega
      have hlen := K1.len g
      have hsum : ((waitsOf x).map fun d => 1 + sz d).sum = sz c := (z.eq c x e).symm
      rw [hsum]
      simp [oPutT_dit PyData.int K1.at' (by have := sizeLine_big (n := l'.length + 1) (by omega); omega) nc]
      have at2 : (st'.set kn (.dit (eT PyData.int (l' ++ [(c, (sz c : Int))]))))[kn]? = some (.dit (eT PyData.int (l' ++ [(c, (sz c : Int))]))) := get_set K1.at'
      have nd2 : ((l' ++ [(c, (sz c : Int))]).map (·.1)).Nodup := by
        rw [List.map_append]
        exact List.nodup_append.mpr ⟨K1.nd, by simp, fun u hu v hv => by simp at hv; subst hv; exact fun q => nc (q ▸ hu)⟩
      have lk : lookC (l' ++ [(c, (sz c : Int))]) c = some (sz c : Int) := lookC_of_mem nd2 (by simp)
      simp [oIxT_dit _ at2 lk]
      refine ⟨kp.set rfl, _, ⟨at2, nd2, fun p hp => ?_⟩, fun u b i hp => ?_⟩
      · simp at hp
        rcases hp with hp | rfl
        · exact K1.ok p hp
        · exact ⟨rfl, mem_allCalls e⟩
      · simp at hp
        rcases hp with hp | ⟨⟨rfl, rfl⟩, rfl⟩
        · rcases hl _ hp with q | q
          · exact .inl q
          · exact .inr (by simp at q; omega)
        · exact .inr (Nat.le_refl _)
/-- the starts first -/
def allS (h : Home) : List Call := h.map (fun p => (p.1, none)) ++ h.flatMap fun p => p.2.2.2.map fun q => (p.1, some q.1)
theorem flat_len {α β : Type} (f : α → List β) (n : Nat) : ∀ l : List α, (∀ x ∈ l, (f x).length ≤ n) → (l.flatMap f).length ≤ n * l.length
  | [], _ => by simp
  | x :: l, h => by
    have h1 := flat_len f n l fun y hy => h y (List.mem_cons_of_mem _ hy)
    have h2 := h x List.mem_cons_self
    rw [List.flatMap_cons, List.length_append, List.length_cons, Nat.mul_succ]; omega
theorem allS_len {h : Home} (g : HomeOk h) : (allS h).length ≤ 30 := by
  have h1 := flat_len (fun p : Str × Serv => p.2.2.2.map fun q => ((p.1, some q.1) : Call)) 4 h fun p hp => by have := (g.sv p hp).ns.le; simpa using this
  have h2 := g.ns.le
  rw [List.length_map] at h2
  unfold allS
  rw [List.length_append, List.length_map]; omega
theorem mem_allS {h : Home} (g : HomeOk h) {c : Call} (hc : c ∈ allS h) : ∃ x, scrOf h c = some x := by
  rcases List.mem_append.mp hc with hc | hc
  · obtain ⟨p, hp, rfl⟩ := List.mem_map.mp hc
    exact ⟨_, by simp [scrOf, look_of_mem g.ns.nd (show (p.1, p.2) ∈ h from hp)]; rfl⟩
  · obtain ⟨p, hp, hc⟩ := List.mem_flatMap.mp hc
    obtain ⟨q, hq, rfl⟩ := List.mem_map.mp hc
    have := look_of_mem (g.sv p hp).ns.nd (show (q.1, q.2) ∈ p.2.2.2 from hq)
    exact ⟨_, by simp [scrOf, look_of_mem g.ns.nd (show (p.1, p.2) ∈ h from hp), this]; rfl⟩
theorem allS_of {h : Home} {c : Call} {x : Scr} (e : scrOf h c = some x) : c ∈ allS h := by
  obtain ⟨a, b⟩ := c
  unfold scrOf at e
  split at e
  · cases e
  · rename_i sv hs
    cases b with
    | none => exact List.mem_append_left _ (List.mem_map.mpr ⟨_, look_mem hs, rfl⟩)
    | some m =>
      simp only at e
      obtain ⟨d, hd, _⟩ := Option.map_eq_some_iff.mp e
      exact List.mem_append_right _ (List.mem_flatMap.mpr ⟨_, look_mem hs, List.mem_map.mpr ⟨_, look_mem hd, rfl⟩⟩)
theorem allS_nodup {h : Home} (g : HomeOk h) : (allS h).Nodup := by
  unfold allS
  refine List.nodup_append.mpr ⟨?_, ?_, ?_⟩
  · have := g.ns.nd
    have e : h.map (fun p => ((p.1, none) : Call)) = (h.map (·.1)).map fun n => (n, none) := by simp
    rw [e]
    exact List.pairwise_map.mpr (this.imp fun hne q => hne (by simpa using q))
  · have key : ∀ l : Home, (l.map (·.1)).Nodup → (∀ p ∈ l, (p.2.2.2.map (·.1)).Nodup) → (l.flatMap fun p => p.2.2.2.map fun q => ((p.1, some q.1) : Call)).Nodup := by
      intro l
      induction l with
      | nil => intro _ _; simp
      | cons p l ih =>
        intro nd hh
        rw [List.map_cons, List.nodup_cons] at nd
        rw [List.flatMap_cons]
        refine List.nodup_append.mpr ⟨?_, ih nd.2 fun q hq => hh q (List.mem_cons_of_mem _ hq), ?_⟩
        · have e : p.2.2.2.map (fun q => ((p.1, some q.1) : Call)) = (p.2.2.2.map (·.1)).map fun m => (p.1, some m) := by simp
          rw [e]
          exact List.pairwise_map.mpr ((hh p List.mem_cons_self).imp fun hne q => hne (by simpa using q))
        · rintro u hu v hv rfl
          obtain ⟨q, hq, rfl⟩ := List.mem_map.mp hu
          obtain ⟨p', hp', hv⟩ := List.mem_flatMap.mp hv
          obtain ⟨q', hq', e⟩ := List.mem_map.mp hv
          simp at e
          exact nd.1 (List.mem_map.mpr ⟨p', hp', e.1⟩)
    exact key h g.ns.nd fun p hp => (g.sv p hp).ns.nd
  · rintro u hu v hv rfl
    obtain ⟨p, hp, rfl⟩ := List.mem_map.mp hu
    obtain ⟨p', hp', hv⟩ := List.mem_flatMap.mp hv
    obtain ⟨q', hq', e⟩ := List.mem_map.mp hv
    simp at e
/-- the methods of a service -/
def mths (h : Home) (n : Str) : List Str := match look h n with
  | some s => s.2.2.map fun q => q.1
  | none => []
theorem all_scripts_sp {k : Nat} {st : Sto} {a : Nat} {h : Home} (g : HomeOk h) (hs : st[a]? = some (.dic (eD eServ h))) : S (k + 1) 12 [.o a] st = .ok (.p (.list ((allS h).map eC))) st := by
  have hl := allS_len g
  have h6 := g.ns.le
  have e3 : mkL ((h.map (·.1)).map .str) st = .ok (.p (.list ((h.map (·.1)).map .str))) st := mkL_small (by simp at h6 ⊢; omega)
  rw [st_12]
  simp [sSeq_eq, b_12, cListB_dic eServ hs, e3, -List.map_map]
  rw [lcL_all PyData.str (fun n => eC (n, none))]
  rotate_left
  · intro n hn
    exact ⟨_, rfl, rfl, by simp [mkT, sizeLine, eC, eO]⟩
  simp [cListB_dic eServ hs, e3, -List.map_map]
  rw [lc2L_map (β := Unit) PyData.str (fun n => (mths h n).map PyData.str) (fun n => (mths h n).map fun m => eC (n, some m))]
  rotate_left
  · intro n hn
    obtain ⟨s, h1⟩ := look_some hn
    have h4 := (g.sv _ (look_mem h1)).ns.le
    have e4 : mkL ((s.2.2.map (·.1)).map .str) st = .ok (.p (.list ((s.2.2.map (·.1)).map .str))) st := mkL_small (by simp at h4 ⊢; omega)
    refine ⟨_, rfl, rfl, by simp [oIx_dic eServ hs h1, e4, mths, h1, -List.map_map], fun acc => ?_⟩
    simp only [mths, h1]
    rw [lcL_all PyData.str (fun m => eC (n, some m))]
    intro m hm
    exact ⟨_, rfl, rfl, by simp [mkT, sizeLine, eC, eO]⟩
  · have : ([] ++ (h.map fun p : Str × Serv => p.1).flatMap fun n : Str => (mths h n).map fun m => eC (n, some m)).length ≤ 4 * (h.map fun p : Str × Serv => p.1).length := by
      rw [List.nil_append]
      refine flat_len _ 4 _ fun n hn => ?_
      obtain ⟨s, h1⟩ := look_some hn
      have h4 := (g.sv _ (look_mem h1)).ns.le
      simp only [mths, h1]
      simpa using h4
    exact sizeLine_big (by omega)
  have e5 : (h.map (·.1)).flatMap (fun n => (mths h n).map fun m => eC (n, some m)) = (h.flatMap fun p => p.2.2.2.map fun q => ((p.1, some q.1) : Call)).map eC := by
    rw [List.flatMap_map, List.map_flatMap]
    have key : ∀ l : Home, (∀ p ∈ l, p ∈ h) → l.flatMap (fun p => (mths h p.1).map fun m => eC (p.1, some m)) = l.flatMap fun p => (p.2.2.2.map fun q => ((p.1, some q.1) : Call)).map eC := by
      intro l
      induction l with
      | nil => intro _; rfl
      | cons p l ih =>
        intro hh
        rw [List.flatMap_cons, List.flatMap_cons, ih fun q hq => hh q (List.mem_cons_of_mem _ hq), show mths h p.1 = p.2.2.2.map fun q => q.1 by unfold mths; rw [look_of_mem g.ns.nd (show (p.1, p.2) ∈ h from hh p List.mem_cons_self)]]
        simp [Function.comp_def]
    exact key h fun _ hp => hp
  have e6 : (h.map (·.1)).map (fun n => eC (n, none)) = (h.map fun p => ((p.1, none) : Call)).map eC := by simp
  rw [e5]
  have e7 : mkL (((h.map (·.1)).map fun n => eC (n, none)) ++ (h.flatMap fun p => p.2.2.2.map fun q => ((p.1, some q.1) : Call)).map eC) st = .ok (.p (.list ((allS h).map eC))) st := by
    rw [e6, ← List.map_append]
    exact mkL_small (by rw [List.length_map]; unfold allS at hl; omega)
  simp [oAdd, -List.map_map, e7]

end HT
end

section
set_option Elab.async false
set_option linter.all false
set_option maxRecDepth 100000
set_option maxHeartbeats 1000000
namespace HT
open PySem L2 Pd PySem.W
/-! ### what a service needs; the house -/
theorem tup2 {st : Sto} {n : Str} {m : Option Str} : mkT [.str n, eO m] st = .ok (.p (eC (n, m))) st := mkT_small (by simp)
theorem needs_in_sp {k : Nat} {st : Sto} {a b : Nat} {h : Home} {W : List (Call × List Call)} (g : HomeOk h) (q : WaitOk h W) (hs : st[a]? = some (.dic (eD eServ h))) (ws : st[b]? = some (.dit (eT eCs W))) {n : Str} {s : Serv} (hn : look h n = some s) :
    S (k + 1) 13 [.o a, .o b, .p (.str n)] st = .ok (.p (eStrs (setOf (needsL h W n)))) st := by
  have scN : scrOf h (n, none) = some s.2.1 := by simp [scrOf, hn]
  obtain ⟨l0, hl0, nd0, len0, _⟩ := q.get scN
  have sv := g.sv _ (look_mem hn)
  have h4 := sv.ns.le
  rw [List.length_map] at h4
  have t0 : mkT [.str n, .none] st = .ok (.p (eC (n, none))) st := tup2 (m := none)
  refine Ok.to_eq ?_
  rw [st_13]
  simp [b_13, t0, oIxT_dit eCs ws hl0]
  rw [lcL_all eC (fun c => .str c.1)]
  rotate_left
  · intro c hc
    exact ⟨_, rfl, rfl, by simp⟩
  have fin : ∀ xs : List Str, needsL h W n = xs → xs.length < 4000 → Ok (sortSetOf mkL (.p (.list (xs.map .str))) st) fun w st' => w = .p (eStrs (setOf (needsL h W n))) ∧ st' = st := by
    intro xs hx hl
    rw [sort_set hl, hx]
    exact ⟨rfl, rfl⟩
  have e0 : l0.map (fun c => PyData.str c.1) = (l0.map fun c => c.1).map .str := by simp
  simp [oIx_dic eServ hs hn, oNotN, e0, -List.map_map]
  obtain ⟨w, x, t⟩ := s
  cases w with
  | none =>
    simp [eI, isNoneD, -List.map_map]
    refine fin _ ?_ (by simp; omega)
    simp [needsL, hl0, hn]
  | some i =>
    have e3 : mkL ((t.map (·.1)).map .str) st = .ok (.p (.list ((t.map (·.1)).map .str))) st := mkL_small (by simp at h4 ⊢; omega)
    simp [eI, isNoneD, oIx_dic eServ hs hn, e3, -List.map_map]
    refine forL_pre PyData.str (t.map (·.1)) (fun pre en st' => st' = st ∧ ∃ o o2, en = [some (.o a), some (.o b), some (.p (.str n)), some (.p (.list ((l0.map (fun c => c.1) ++ pre.flatMap fun m => ((lookC W (n, some m)).getD []).map fun c => c.1).map .str))), o, o2])
      (fun pre m post en st' e1 ⟨e2, o, o2, e4⟩ => ?_) (fun en st' ⟨e2, o, o2, e4⟩ => ?_) ⟨rfl, none, none, by simp⟩
    · subst e2 e4
      obtain ⟨d, hd⟩ := look_some (show m ∈ t.map (·.1) by rw [e1]; simp)
      have scM : scrOf h (n, some m) = some d.2 := by simp [scrOf, hn, hd]
      obtain ⟨l1, hl1, nd1, len1, _⟩ := q.get scM
      have t1 : mkT [.str n, .str m] st' = .ok (.p (eC (n, some m))) st' := tup2 (m := some m)
      simp [t1, oIxT_dit eCs ws hl1, -List.map_append]
      rw [lcL_all eC (fun c => .str c.1)]
      rotate_left
      · intro c hc
        exact ⟨_, rfl, rfl, by simp⟩
      have e5 : l1.map (fun c => PyData.str c.1) = (l1.map fun c => c.1).map .str := by simp
      have hpre : pre.length ≤ 4 := by
        have := congrArg List.length e1
        simp at this h4; omega
      have hfl := flat_len (fun m => ((lookC W (n, some m)).getD []).map fun c : Call => c.1) 30 pre fun m' hm' => by
        obtain ⟨d', hd'⟩ := look_some (show m' ∈ t.map (·.1) by rw [e1]; simp [hm'])
        obtain ⟨l2, hl2, _, len2, _⟩ := q.get (show scrOf h (n, some m') = some d'.2 by simp [scrOf, hn, hd'])
        rw [hl2]; simpa using len2
      have sm : mkL ((l0.map (fun c => c.1) ++ pre.flatMap fun m => ((lookC W (n, some m)).getD []).map fun c => c.1).map .str ++ (l1.map fun c => c.1).map .str) st' = .ok (.p (.list ((l0.map (fun c => c.1) ++ (pre ++ [m]).flatMap fun m => ((lookC W (n, some m)).getD []).map fun c => c.1).map .str))) st' := by
        rw [← List.map_append]
        have : (l0.map (fun c => c.1) ++ pre.flatMap fun m => ((lookC W (n, some m)).getD []).map fun c => c.1) ++ (l1.map fun c => c.1) = l0.map (fun c => c.1) ++ (pre ++ [m]).flatMap fun m => ((lookC W (n, some m)).getD []).map fun c => c.1 := by
          rw [List.flatMap_append, List.append_assoc]; simp [hl1]
        rw [← this]
        exact mkL_small (by simp at hfl ⊢; omega)
      simp only [List.nil_append, bind_ok, keepL_eq, oAdd, val_list, ok_ok, e5, sm, ok_bind, List.set_cons_succ, List.set_cons_zero, turn_nx]
      simp
    · subst e2 e4
      have hfl := flat_len (fun m => ((lookC W (n, some m)).getD []).map fun c : Call => c.1) 30 (t.map (·.1)) fun m' hm' => by
        obtain ⟨d', hd'⟩ := look_some hm'
        obtain ⟨l2, hl2, _, len2, _⟩ := q.get (show scrOf h (n, some m') = some d'.2 by simp [scrOf, hn, hd'])
        rw [hl2]; simpa using len2
      rw [List.length_map] at hfl
      simp only [ok_ok, ok_bind, bind_ok, sRet_eq, sSortSet_eq, sVar_eq, varOf_some, List.getElem?_cons_succ, List.getElem?_cons_zero, retF_rt, seq_nx]
      refine fin _ ?_ ?_
      · simp [needsL, hl0, hn, List.flatMap_map]
      · simp at h4 hfl ⊢; omega

end HT
end

section
set_option Elab.async false
set_option linter.all false
set_option maxRecDepth 100000
set_option maxHeartbeats 1000000
namespace HT
open PySem L2 Pd PySem.W
/-! ### the house is made -/
theorem table_sp {st : Sto} {n : Nat} {s : Serv} {h : Home} (sv : ServOk h s) {en : En} : ∀ a b c d e f g i, en = [a, b, c, d, e, some (.p (eScr s.2.1)), some (.p (eTab s.2.2)), f, g, i] →
    Ok (sFrz (sDc dputK (sItems (sCall (cSortedA mkL) (sCons (sCall (cListB mkL) (sCons (sVar 6) sNil)) sNil))) (gN 9) tYesS (sVar 9) (sB oIx (sVar 6) (sVar 9)) [9] keepDO) en st) fun w st' => w = .p (eTab (sortA s.2.2)) ∧ Ext st st' := by
  intro a b c d e f g i he
  subst he
  have h4 := sv.ns.le
  rw [List.length_map] at h4
  have e3 : mkL ((s.2.2.map (·.1)).map .str) st = .ok (.p (.list ((s.2.2.map (·.1)).map .str))) st := mkL_small (by simp; omega)
  simp [e3, -List.map_map]
  rw [sorted_strs (n := 0) (by simp; omega)]
  simp [-List.map_map]
  have key := fold_dputK eDeed (fun x => (look s.2.2 x).getD (0, [])) (fun x => eDeed ((look s.2.2 x).getD (0, []))) (srtS (s.2.2.map (·.1))) [] (fun _ _ => rfl) (srtS_nodup sv.ns.nd) (by simp) (by rw [srtS_len]; simp; omega)
  refine (dcL_ok (fun st' => st' = st) dputK PyData.str PyData.str (fun x => eDeed ((look s.2.2 x).getD (0, []))) _ [] st (fun x hx st' e1 => ?_) rfl _ key).mono fun kvs st' ⟨e1, e2⟩ => ?_
  · subst e1
    obtain ⟨dd, hdd⟩ := look_some (mem_srtS.mp hx)
    simp [oIx_tab hdd, hdd]
  · subst e1 e2
    have v : ∀ z, (st' ++ [Cell.dic z])[st'.length]? = some (.dic z) := by simp
    rw [frzW_dic (v _)]
    have fin : [] ++ (srtS (s.2.2.map (·.1))).map (fun x => (x, (look s.2.2 x).getD (0, []))) = sortA s.2.2 := by
      unfold sortA
      rw [List.nil_append]
      have : ∀ l : List Str, (∀ x ∈ l, x ∈ s.2.2.map (·.1)) → l.map (fun x => (x, (look s.2.2 x).getD (0, []))) = l.filterMap fun k => (look s.2.2 k).map fun a => (k, a) := by
        intro l
        induction l with
        | nil => intro _; rfl
        | cons x l ih =>
          intro hh
          obtain ⟨a, ha⟩ := look_some (hh x List.mem_cons_self)
          rw [List.map_cons, ih fun y hy => hh y (List.mem_cons_of_mem _ hy), List.filterMap_cons, ha]
          simp
      exact this _ fun x hx => mem_srtS.mp hx
    rw [fin]
    exact ⟨rfl, (Ext.app _).setNew (Nat.le_refl _)⟩
theorem init_sp {k : Nat} {st : Sto} {n : Nat} {h : Home} (g : HomeOk h) {sz : Call → Nat} (z : Sized h sz) (hn : st[n]? = some (.ins "House" [])) :
    Ok (S (k + 33) 42 [.o n, .p (eHome h)] st) fun w st' => w = .p .none ∧ Kept (· = n) st st' ∧ ∃ a b c W, HallAt st' n a b c (norm h) W ∧ WaitOk (norm h) W ∧ st.length ≤ a ∧ st.length ≤ b ∧ st.length ≤ c := by
  have hd : S (k + 32) 7 [.p (eHome h)] st = .ok (.p (.bool true)) st := is_house_data_sp (k := k + 28) g
  have gn := homeOk_norm g
  have zn := sized_norm g z
  have h6 := g.ns.le
  rw [List.length_map] at h6
  have e3 : ∀ st : Sto, mkL ((h.map (·.1)).map .str) st = .ok (.p (.list ((h.map (·.1)).map .str))) st := fun st => mkL_small (by simp; omega)
  rw [st_42]
  simp [b_42, hd, e3, -List.map_map]
  rw [sorted_strs (n := n) (by simp; omega)]
  have nl := get_lt hn
  have nn : n ≠ st.length := Nat.ne_of_lt nl
  simp [setFld_o hn, -List.map_map]
  have c1 := get_app [Cell.dic []] (get_set (c := .ins "House" [(("names" : Str), .p (.list ((srtS (h.map (·.1))).map .str)))]) hn)
  simp [setFld_o c1, -List.map_map]
  have c2 := get_set (c := .ins "House" [(("names" : Str), .p (.list ((srtS (h.map (·.1))).map .str))), (("parts" : Str), .o st.length)]) c1
  have d2 : (((st.set n (.ins "House" [(("names" : Str), .p (.list ((srtS (h.map (·.1))).map .str)))])) ++ [Cell.dic []]).set n (.ins "House" [(("names" : Str), .p (.list ((srtS (h.map (·.1))).map .str))), (("parts" : Str), .o st.length)]))[st.length]? = some (.dic (eD eServ [])) := by
    rw [List.getElem?_set_ne nn]; simp
  have k2 : Kept (· = n) st (((st.set n (.ins "House" [(("names" : Str), .p (.list ((srtS (h.map (·.1))).map .str)))])) ++ [Cell.dic []]).set n (.ins "House" [(("names" : Str), .p (.list ((srtS (h.map (·.1))).map .str))), (("parts" : Str), .o st.length)])) := ((Kept.setN .refl).app _).setN
  generalize (((st.set n (.ins "House" [(("names" : Str), .p (.list ((srtS (h.map (·.1))).map .str)))])) ++ [Cell.dic []]).set n (.ins "House" [(("names" : Str), .p (.list ((srtS (h.map (·.1))).map .str))), (("parts" : Str), .o st.length)])) = st2 at c2 d2 k2 ⊢
  simp [fldOf_o c2 (lk_names _ _), -List.map_map]
  refine forL_pre PyData.str (srtS (h.map (·.1))) (fun pre en st' => ∃ o3 o5 o6 o7, en = [some (.o n), some (.p (eHome h)), none, o3, none, o5, o6, o7, none, none] ∧ Kept (· = n) st st' ∧ st'[n]? = some (.ins "House" [(("names" : Str), .p (.list ((srtS (h.map (·.1))).map .str))), (("parts" : Str), .o st.length)]) ∧ st'[st.length]? = some (.dic (eD eServ (pre.map fun x => (x, vS h x)))))
    (fun pre x post en st' e1 ⟨o3, o5, o6, o7, e2, k3, c3, d3⟩ => ?_) (fun en st' ⟨o3, o5, o6, o7, e2, k3, c3, d3⟩ => ?_) ⟨_, _, _, _, rfl, k2, c2, d2⟩
  · subst e2
    have hx : x ∈ h.map (·.1) := mem_srtS.mp (by rw [e1]; simp)
    obtain ⟨s, hs⟩ := look_some hx
    have sv := g.sv _ (look_mem hs)
    have nx : x ∉ (pre.map fun x => (x, vS h x)).map (·.1) := by
      have nd := srtS_nodup g.ns.nd
      rw [e1] at nd
      have := (List.nodup_append.mp nd).2.2
      simp only [List.map_map, Function.comp_def, List.map_id']
      exact fun q => this x q x List.mem_cons_self rfl
    have hv : vS h x = normS s := by simp [vS, hs]
    have hlen : pre.length ≤ 6 := by
      have h1 := congrArg List.length e1
      have h2 := srtS_len (h.map (·.1))
      rw [h1] at h2
      simp at h2; omega
    simp [oIx_home hs, -sFrz_eq]
    refine (table_sp (n := n) sv _ _ _ _ _ _ _ _ rfl).mono fun w st4 ⟨e5, x4⟩ => ?_
    subst e5
    have c4 := x4.get c3
    have d4 := x4.get d3
    have t1 : mkT [eI s.1, eScr s.2.1, eTab (sortA s.2.2)] st4 = .ok (.p (eServ (vS h x))) st4 := by
      rw [hv]; exact mkT_small (by simp)
    have p1 := oPut_dic eServ (a := vS h x) d4 (by simp; omega) nx
    simp only [Function.comp_apply, ok_ok, bind_ok, plains_p, plains_nil, Option.map_some, dispOf_some, t1, List.getElem?_cons_zero, List.getElem?_cons_succ, varOf_some, fldOf_o c4 (lk_parts _ _ _), p1, nxt_some, turn_nx]
    refine ⟨⟨_, _, _, _, rfl⟩, (k3.trans x4.to).setNew (Nat.le_refl _), get_set_ne (Ne.symm nn) c4, ?_⟩
    rw [get_set d4]
  · subst e2
    rw [norm_map] at d3
    have hS := all_scripts_sp (k := k + 31) gn d3
    simp [fldOf_o c3 (lk_parts _ _ _), hS]
    have hl := allS_len gn
    refine (dcT_rel (fun st4 => Ext st' st4) eCs (fun c l => l.Nodup ∧ l.length ≤ 30 ∧ ∀ d, d ∈ l ↔ Rch (norm h) c d) (allS (norm h)) [] st' (fun c hc st4 x4 => ?_) .refl (allS_nodup gn) (by simp) (by simp; omega)).mono fun kvs st5 ⟨W, e1, e4, e5, x5⟩ => ?_
    · obtain ⟨sc, hsc⟩ := mem_allS gn hc
      have c4 := x4.get c3
      have d4 := x4.get d3
      simp [fldOf_o c4 (lk_parts _ _ _)]
      refine (waited_for_sp (k := k + 30) gn d4 hsc).mono fun w st5 ⟨l, q1, q2, q3, q4, q5⟩ => ⟨l, q1, ⟨q2, q3, fun a b => q4 (a, b)⟩, x4.trans q5⟩
    subst e1
    have WO : WaitOk (norm h) W := ⟨by rw [e4]; exact allS_nodup gn, fun c => by rw [e4]; exact ⟨mem_allS gn, fun ⟨x, hx⟩ => allS_of hx⟩, e5⟩
    have c5 := get_app [Cell.dit (eT eCs W)] (x5.get c3)
    have d5 := get_app [Cell.dit (eT eCs W)] (x5.get d3)
    simp only [List.nil_append, keepTO_eq, ok_ok, List.getElem?_cons_zero, varOf_some, setFld_o c5 (show _ < 1000 by simp), put_waited, seq_nx]
    have c6 := get_set (c := .ins "House" [(("names" : Str), .p (.list ((srtS (h.map (·.1))).map .str))), (("parts" : Str), .o st.length), (("waited" : Str), .o st5.length)]) c5
    have d6 := get_set_ne (c := .ins "House" [(("names" : Str), .p (.list ((srtS (h.map (·.1))).map .str))), (("parts" : Str), .o st.length), (("waited" : Str), .o st5.length)]) nn d5
    have n5 : n < st5.length := Nat.lt_of_lt_of_le nl (Nat.le_trans k3.1 x5.1)
    have w6 : ((st5 ++ [Cell.dit (eT eCs W)]).set n (.ins "House" [(("names" : Str), .p (.list ((srtS (h.map (·.1))).map .str))), (("parts" : Str), .o st.length), (("waited" : Str), .o st5.length)]))[st5.length]? = some (.dit (eT eCs W)) := by
      rw [List.getElem?_set_ne (Nat.ne_of_lt n5)]; simp
    have k6 : Kept (· = n) st ((st5 ++ [Cell.dit (eT eCs W)]).set n (.ins "House" [(("names" : Str), .p (.list ((srtS (h.map (·.1))).map .str))), (("parts" : Str), .o st.length), (("waited" : Str), .o st5.length)])) := (((k3.trans x5.to).app _).setN)
    have l5 : st.length ≤ st5.length := Nat.le_trans k3.1 x5.1
    generalize ((st5 ++ [Cell.dit (eT eCs W)]).set n (.ins "House" [(("names" : Str), .p (.list ((srtS (h.map (·.1))).map .str))), (("parts" : Str), .o st.length), (("waited" : Str), .o st5.length)])) = st6 at c6 d6 w6 k6 ⊢
    generalize st5.length = wb at c6 w6 l5 ⊢
    have mk1 : ∀ st, mkL ((allS (norm h)).map eC) st = .ok (.p (.list ((allS (norm h)).map eC))) st := fun st => mkL_small (by simp; omega)
    have eW : W.map (fun p => p.1) = allS (norm h) := e4
    simp [fldOf_o c6 (lk_waited _ _ _ _), cListB_dit eCs w6, eW, mk1, -List.map_map]
    rw [lcL_map eC (fun _ => false) eC]
    rotate_left
    · intro c hc
      obtain ⟨sc, hsc⟩ := mem_allS gn hc
      obtain ⟨l, hl1, _, _, hl4⟩ := WO.get hsc
      refine ⟨_, rfl, ?_, fun q => by cases q⟩
      have : ¬ c ∈ l := fun q => Nat.lt_irrefl _ (zn.rch ((hl4 c).mp q))
      simp [fldOf_o c6 (lk_waited _ _ _ _), oIxT_dit eCs w6 hl1, oIn_calls, eCs, this]
    have ff : (allS (norm h)).filter (fun _ => false) = [] := List.filter_eq_nil_iff.mpr (by simp)
    rw [ff]
    simp [mkL_small, oNe, PyData.eqv, PyData.eqvAll]
    have c7 := get_app [Cell.dit []] c6
    have d7 := get_app [Cell.dit []] d6
    have w7 := get_app [Cell.dit []] w6
    have kn7 : (st6 ++ [Cell.dit []])[st6.length]? = some (.dit []) := by simp
    have k7 : Kept (· = n) st (st6 ++ [Cell.dit []]) := k6.app _
    have l67 : (st6 ++ [Cell.dit []]).length = st6.length + 1 := by simp
    have l6 : st.length < st6.length := get_lt d6
    have wl6 := get_lt w6
    have n6 := get_lt c6
    generalize st6 ++ [Cell.dit []] = st7 at c7 d7 w7 kn7 k7 l67 ⊢
    generalize st6.length = kn at kn7 l67 l6 wl6 n6 ⊢
    simp [fldOf_o c7 (lk_waited _ _ _ _), cListB_dit eCs w7, eW, mk1, -List.map_map]
    refine (lcL_ok (fun st8 => Kept (· = kn) st7 st8 ∧ ∃ l, Known (norm h) sz kn st8 l) eC (fun _ => true) (fun c d => d = PyData.int (sz c)) (allS (norm h)) [] st7 (fun c hc st8 ⟨k8, l, K⟩ => ?_) ⟨.refl, [], kn7, by simp, by simp⟩).mono fun ds st8 ⟨l, e6, e7, k8, l2, K⟩ => ?_
    · obtain ⟨sc, hsc⟩ := mem_allS gn hc
      have c8 := k8.2 _ _ (Nat.ne_of_lt n6) c7
      have d8 := k8.2 _ _ (Nat.ne_of_lt l6) d7
      have le := zn.le c sc hsc
      simp [fldOf_o c8 (lk_parts _ _ _)]
      have sp := calls_made_sp gn zn (Nat.ne_of_lt l6) 30 (k := k) d8 hsc le K
      refine sp.mono fun w st9 ⟨q1, q2, l9, q3, _⟩ => ⟨_, q1, rfl, k8.trans q2, l9, q3⟩
    rw [List.filter_eq_self.mpr fun _ _ => rfl] at e7
    have e8 := paired_map e7
    have e6' : ds = (allS (norm h)).map fun c => PyData.int (sz c) := by rw [e6, List.nil_append, e8]
    rw [e6']
    have hne : allS (norm h) ≠ [] := by
      have : norm h ≠ [] := fun q => by
        have h1 := gn.ns.pos
        rw [q] at h1; simp at h1
      cases hnn : norm h with
      | nil => exact absurd hnn this
      | cons p r => simp [allS]
    have mx : cMaxL [.p (.list ((allS (norm h)).map fun c => PyData.int (sz c)))] st8 = .ok (.p (.int (maxI ((allS (norm h)).map fun c => (sz c : Int))))) st8 := by
      simp [cMaxL, intsOf_map, List.length_pos_iff, hne]
    have mle : maxI ((allS (norm h)).map fun c => (sz c : Int)) ≤ 30 := maxI_le (by simpa using hne) fun x hx => by
      obtain ⟨c, hc, rfl⟩ := List.mem_map.mp hx
      obtain ⟨sc, hsc⟩ := mem_allS gn hc
      have := zn.le c sc hsc
      omega
    have mle2 : ¬ (30 : Int) < maxI ((allS (norm h)).map fun c => (sz c : Int)) := by omega
    simp only [keepL_eq, ok_ok, mx, oCI, val_int, mle2, decide_false, retB_eq, boolOf_bool, ok_asB, bind_ok, Bool.false_eq_true, if_false, sNext_eq, seq_nx, sFldS_eq, ok_bind]
    have c8 := k8.2 _ _ (Nat.ne_of_lt n6) c7
    have d8 := k8.2 _ _ (Nat.ne_of_lt l6) d7
    have w8 := k8.2 _ _ (Nat.ne_of_lt wl6) w7
    simp [fldOf_o c8 (lk_names _ _), -List.map_map]
    have h6n := gn.ns.le
    rw [norm_keys] at h6n
    have key := fold_dputK eStrs (fun x => setOf (needsL (norm h) W x)) (fun x => eStrs (setOf (needsL (norm h) W x))) (srtS (h.map (·.1))) [] (fun _ _ => rfl) (srtS_nodup g.ns.nd) (by simp) (by simp at h6n ⊢; omega)
    refine (dcL_ok (fun st9 => st9 = st8) dputK PyData.str PyData.str (fun x => eStrs (setOf (needsL (norm h) W x))) _ [] st8 (fun x hx st9 e9 => ?_) rfl _ key).mono fun kvs st9 ⟨e1, e2⟩ => ?_
    · subst e9
      have hx2 : x ∈ (norm h).map (·.1) := by
        have := norm_keys h
        rw [this]; exact hx
      obtain ⟨s, hs⟩ := look_some hx2
      simp [fldOf_o c8 (lk_parts _ _ _), fldOf_o c8 (lk_waited _ _ _ _), needs_in_sp (k := k + 31) gn WO d8 w8 hs]
    subst e1 e2
    have c9 := get_app [Cell.dic (eD eStrs ([] ++ (srtS (h.map (·.1))).map fun x => (x, setOf (needsL (norm h) W x))))] c8
    simp only [keepDO_eq, ok_ok, List.getElem?_cons_zero, varOf_some, setFld_o c9 (show _ < 1000 by simp), put_wanted, retF_nx]
    have nk := norm_keys h
    refine ⟨trivial, ?_, st.length, wb, st9.length, W, ⟨?_, ?_, ?_, ?_⟩, WO, Nat.le_refl _, l5, ?_⟩
    · exact ((k7.transNew k8 fun i q => by subst q; omega).app _).setN
    · rw [get_set c9]
      simp [houseFs, nk]
    · exact get_set_ne nn (get_app _ d8)
    · exact get_set_ne (by omega) (get_app _ w8)
    · have : n ≠ st9.length := Nat.ne_of_lt (get_lt c8)
      rw [List.getElem?_set_ne this]
      have : (norm h).map (fun p => (p.1, setOf (needsL (norm h) W p.1))) = (srtS (h.map (·.1))).map fun x => (x, setOf (needsL (norm h) W x)) := by
        rw [← nk]; simp
      simp [this]
    · have := k8.1
      have := k7.1
      omega

end HT
end

section
set_option Elab.async false
set_option linter.all false
set_option maxRecDepth 100000
set_option maxHeartbeats 1000000
namespace HT
open PySem L2 Pd PySem.W
/-! ### reading the house -/
section
variable {st : Sto} {n a b c : Nat} {h : Home} {W : List (Call × List Call)}
theorem need_service_sp {k : Nat} (H : HallAt st n a b c h W) {x : Str} {s : Serv} (hx : look h x = some s) : S (k + 1) 44 [.o n, .p (.str x)] st = .ok (.p .none) st := by
  have m : x ∈ h.map (·.1) := List.mem_map.mpr ⟨_, look_mem hx, rfl⟩
  rw [st_44]
  simp [b_44, fldOf_o H.obj (lk_parts _ _ _), oIn_dic eServ x H.parts, m, -List.mem_map]
theorem need_method_sp {k : Nat} (H : HallAt st n a b c h W) {x m : Str} {s : Serv} {d : Deed} (hx : look h x = some s) (hm : look s.2.2 m = some d) : S (k + 2) 45 [.o n, .p (.str x), .p (.str m)] st = .ok (.p .none) st := by
  have mm : m ∈ s.2.2.map (·.1) := List.mem_map.mpr ⟨_, look_mem hm, rfl⟩
  refine Ok.to_eq ?_
  rw [st_45]
  simp [b_45, methOf_o H.obj (lk_m1 _ _ _ _), need_service_sp H hx, fldOf_o H.obj (lk_parts _ _ _), oIx_dic eServ H.parts hx, oIn_tab, mm, -List.mem_map]
theorem need_script_sp {k : Nat} (H : HallAt st n a b c h W) {cl : Call} {x : Scr} (e : scrOf h cl = some x) : S (k + 3) 46 [.o n, .p (.str cl.1), .p (eO cl.2)] st = .ok (.p .none) st := by
  obtain ⟨u, v⟩ := cl
  unfold scrOf at e
  split at e
  · cases e
  · rename_i sv hs
    refine Ok.to_eq ?_
    rw [st_46]
    cases v with
    | none => simp [b_46, methOf_o H.obj (lk_m1 _ _ _ _), need_service_sp H hs, eO, oNotN, isNoneD]
    | some m =>
      simp only at e
      obtain ⟨d, hd, rfl⟩ := Option.map_eq_some_iff.mp e
      simp [b_46, methOf_o H.obj (lk_m1 _ _ _ _), methOf_o H.obj (lk_m2 _ _ _ _), need_service_sp H hs, eO, oNotN, isNoneD, need_method_sp H hs hd]
theorem waits_sp {k : Nat} (H : HallAt st n a b c h W) {cl : Call} {x : Scr} {l : List Call} (e : scrOf h cl = some x) (hl : lookC W cl = some l) (h30 : l.length ≤ 30) : S (k + 4) 14 [.o n, .p (.str cl.1), .p (eO cl.2)] st = .ok (.p (eCs l)) st := by
  refine Ok.to_eq ?_
  have t0 : mkT [.str cl.1, eO cl.2] st = .ok (.p (eC cl)) st := tup2
  have m0 : mkL (l.map eC) st = .ok (.p (eCs l)) st := mkL_small (by simp; omega)
  rw [st_14]
  simp [b_14, methOf_o H.obj (lk_m3 _ _ _ _), need_script_sp H e, fldOf_o H.obj (lk_waited _ _ _ _), t0, oIxT_dit eCs H.waited hl, m0]
/-- the services of some calls -/
def servs (l : List Call) : List Str := setOf (l.map fun c => c.1)
theorem services_of_sp {k : Nat} {l : List Call} (h30 : l.length ≤ 3000) : S (k + 1) 15 [.p (eCs l)] st = .ok (.p (eStrs (servs l))) st := by
  rw [st_15]
  simp [b_15]
  rw [lcL_all eC (fun c => .str c.1)]
  rotate_left
  · intro c hc
    exact ⟨_, rfl, rfl, by simp⟩
  have e5 : l.map (fun c => PyData.str c.1) = (l.map fun c => c.1).map .str := by simp
  rw [List.nil_append, e5]
  simp only [bind_ok, keepL_eq]
  rw [sort_set (by rw [List.length_map]; omega)]
  rfl
theorem reach_sp {k : Nat} (H : HallAt st n a b c h W) {cl : Call} {x : Scr} {l : List Call} (e : scrOf h cl = some x) (hl : lookC W cl = some l) (h30 : l.length ≤ 30) : S (k + 5) 16 [.o n, .p (.str cl.1), .p (eO cl.2)] st = .ok (.p (eStrs (servs l))) st := by
  rw [st_16]
  simp [b_16, waits_sp H e hl h30, services_of_sp (show l.length ≤ 3000 by omega)]
/-- what the starts reach -/
def startsL (h : Home) (W : List (Call × List Call)) : List (Str × List Str) := h.map fun p => (p.1, servs ((lookC W (p.1, none)).getD []))
theorem starts_table_sp {k : Nat} (g : HomeOk h) (q : WaitOk h W) (H : HallAt st n a b c h W) : S (k + 6) 22 [.o n] st = .ok (.o st.length) (st ++ [.dic (eD eStrs (startsL h W))]) := by
  have h6 := g.ns.le
  refine Ok.to_eq ?_
  rw [st_22]
  simp [b_22, fldOf_o H.obj (lk_names _ _), -List.map_map]
  have key := fold_dputK eStrs (fun x => servs ((lookC W (x, none)).getD [])) (fun x => eStrs (servs ((lookC W (x, none)).getD []))) (h.map (·.1)) [] (fun _ _ => rfl) g.ns.nd (by simp) (by simp at h6 ⊢; omega)
  refine (dcL_ok (fun st' => st' = st) dputK PyData.str PyData.str (fun x => eStrs (servs ((lookC W (x, none)).getD []))) _ [] st (fun x hx st' e1 => ?_) rfl _ key).mono fun kvs st' ⟨e1, e2⟩ => ?_
  · subst e1
    obtain ⟨s, hs⟩ := look_some hx
    have sc : scrOf h (x, none) = some s.2.1 := by simp [scrOf, hs]
    obtain ⟨l, hl, _, h30, _⟩ := q.get sc
    have := reach_sp (k := k) H (cl := (x, none)) sc hl h30
    simp only [eO] at this
    simp [this, hl]
  · subst e1 e2
    have : [] ++ (h.map (·.1)).map (fun x => (x, servs ((lookC W (x, none)).getD []))) = startsL h W := by simp [startsL]
    rw [this]
    simp
end

end HT
end

section
set_option Elab.async false
set_option linter.all false
set_option maxRecDepth 100000
set_option maxHeartbeats 1000000
namespace HT
open PySem L2 Pd PySem.W
/-! ### draws -/
section
variable {n g T : Nat} {st : Sto}
theorem mixed_sp {k : Nat} (D : Draw n g T st) (hT : T ≤ 2 ^ 40) : Ok (S (k + 1) 26 [.o n] st) fun w st' => ∃ v : Int, w = .p (.int v) ∧ Draw n g (T + 1) st' ∧ Kept (Dn n g) st st' := by
  obtain ⟨cs, gs, r, t, d⟩ := D
  rw [st_26]
  have p1 := oPut_rcd (k := "turn") (v := .p (.int (t + 1))) d.at' (draw_small g cs r t)
  rw [draw_put_turn] at p1
  simp [b_26, oIx_rcd d.at' (draw_turn g cs r t), p1, mkL_small]
  have d2 : DrawAt n g (T + 1) (st.set n (.rcd (drawR g cs r (t + 1)))) cs gs r (t + 1) := ⟨get_set d.at', get_set_ne d.ne d.gr, by have := d.t0; omega, by have := d.tT; omega, d.cl, d.gl, d.ne⟩
  have k2 : Kept (Dn n g) st (st.set n (.rcd (drawR g cs r (t + 1)))) := Kept.refl.set (.inl rfl)
  generalize st.set n (.rcd (drawR g cs r (t + 1))) = st2 at d2 k2 ⊢
  have ht0 := d2.t0
  have htT := d2.tT
  have hprimes : [PyData.int 2147483629, .int 2147483587, .int 2147483579, .int 2147483563, .int 2147483549, .int 2147483543] = ([2147483629, 2147483587, 2147483579, 2147483563, 2147483549, 2147483543] : List Int).map PyData.int := rfl
  rw [hprimes]
  refine forL_pre PyData.int _ (fun pre en st' => st' = st2 ∧ ∃ o1 o2 o4 f, en = [some (.o n), o1, o2, some (.p (.int f)), o4, some (.p (.int (t + 1)))]) (fun pre p post en st' e1 ⟨e2, o1, o2, o4, f, e3⟩ => ?_) (fun en st' ⟨e2, o1, o2, o4, f, e3⟩ => ?_) ⟨rfl, _, _, _, _, rfl⟩
  · subst e2 e3
    have hp : p ∈ ([2147483629, 2147483587, 2147483579, 2147483563, 2147483549, 2147483543] : List Int) := by rw [e1]; simp
    have hp2 : 2147483543 ≤ p ∧ p ≤ 2147483629 := by
      simp at hp
      omega
    have sm : smallI 130363 = true := smallI_ok (by omega) (by omega)
    simp [oMul_l sm, oDiv_int (show (0 : Int) < 13 by omega) (by omega), oIx_rcd d2.at' (draw_cells g cs r (t + 1))]
    have sm2 : smallI 48271 = true := smallI_ok (by omega) (by omega)
    have sm3 : smallI 2147483647 = true := smallI_ok (by omega) (by omega)
    refine forL_pre PyData.int cs (fun pre en st3 => st3 = st' ∧ ∃ o2 b, en = [some (.o n), some (.p (.int b)), o2, some (.p (.int f)), some (.p (.int p)), some (.p (.int (t + 1)))] ∧ 0 ≤ b ∧ b < 2 ^ 63) (fun pre c post en st3 e4 ⟨e5, o2, b, e6, hb⟩ => ?_) (fun en st3 ⟨e5, o2, b, e6, hb⟩ => ?_) ⟨rfl, _, _, rfl, ?_⟩
    · subst e5 e6
      simp [oMul_r sm2, oMod_int (show 0 < p by omega)]
      have h1 := Int.emod_nonneg (b * 48271 + c) (show p ≠ 0 by omega)
      have h2 := Int.emod_lt_of_pos (b * 48271 + c) (show 0 < p by omega)
      exact ⟨_, _, ⟨rfl, rfl⟩, h1, by omega⟩
    · omega
    · subst e5 e6
      simp [oMul_r sm3, oPow_int (show (0 : Int) ≤ 5 by omega) (by omega) (show b.natAbs < 2 ^ 64 by omega), oMod_int (show 0 < p by omega)]
  · subst e2 e3
    simp
    exact ⟨_, _, _, _, d2⟩ |> fun q => ⟨q, k2⟩
theorem take_sp {k : Nat} (D : Draw n g T st) (hT : T ≤ 2 ^ 40) {z : Nat} (hz : 1 ≤ z) (hz2 : z < 1073741824) : Ok (S (k + 2) 27 [.o n, .p (.int z)] st) fun w st' => ∃ v : Nat, w = .p (.int v) ∧ v < z ∧ Draw n g (T + 1) st' ∧ Kept (Dn n g) st st' := by
  have tail : ∀ stx, Draw n g (T + 1) stx → Kept (Dn n g) st stx → Ok ((sSeq (sSet 2 (sB oMod (sCall cInt (sCons (sB oIx (sVar 0) (sC (.str "rest"))) sNil)) (sVar 1)))
    (sSeq (sPut (sVar 0) (sC (.str "rest")) (sB oDiv (sB oIx (sVar 0) (sC (.str "rest"))) (sVar 1)))
    (sRet (sVar 2)))) [some (.o n), some (.p (.int z)), none] stx) fun a st2 => Ok (retF a st2) fun w st' => ∃ v : Nat, w = .p (.int v) ∧ v < z ∧ Draw n g (T + 1) st' ∧ Kept (Dn n g) st st' := by
    intro stx ⟨cs, gs, r, t, d⟩ kx
    have p1 := oPut_rcd (k := "rest") (v := .p (.int (r / z))) d.at' (draw_small g cs r t)
    rw [draw_put_rest] at p1
    simp [oIx_rcd d.at' (draw_rest g cs r t), oMod_int (show (0 : Int) < z by omega), oDiv_int (show (0 : Int) < z by omega) (by omega), p1]
    have h1 := Int.emod_nonneg r (show (z : Int) ≠ 0 by omega)
    have h2 := Int.emod_lt_of_pos r (show 0 < (z : Int) by omega)
    refine ⟨(r % z).toNat, by omega, by omega, ⟨cs, gs, _, t, get_set d.at', get_set_ne d.ne d.gr, d.t0, d.tT, d.cl, d.gl, d.ne⟩, kx.set (.inl rfl)⟩
  obtain ⟨cs, gs, r, t, d⟩ := D
  rw [st_27]
  have lz : (0 : Int) < z := by omega
  simp [b_27, oIx_rcd d.at' (draw_rest g cs r t), -sSet_eq]
  by_cases hr : r = 0
  · rw [if_pos hr]
    simp [oIx_rcd d.at' (draw_great g cs r t), mkL_small, oNe_ints d.gr, -sSet_eq]
    cases gs with
    | nil =>
      simp [oIx_rcd d.at' (draw_rest g cs r t), hr, -sSet_eq]
      subst hr
      refine (mixed_sp (k := k) ⟨cs, [], 0, t, d⟩ hT).mono fun w st2 ⟨v, hw, ⟨cs2, gs2, r2, t2, d2⟩, k2⟩ => ?_
      subst hw
      have p1 := oPut_rcd (k := "rest") (v := .p (.int v)) d2.at' (draw_small g cs2 r2 t2)
      rw [draw_put_rest] at p1
      simp only [p1, nxt_some, ok_ok, seq_nx, List.getElem?_cons_zero, varOf_some]
      exact tail _ ⟨cs2, gs2, v, t2, get_set d2.at', get_set_ne d2.ne d2.gr, d2.t0, d2.tT, d2.cl, d2.gl, d2.ne⟩ (k2.set (.inl rfl))
    | cons x gs =>
      have pp := mPopAt_map (v := 0) (x := x) d.gr rfl (by have := d.gl; omega)
      have a2 := get_set_ne (c := .lst (gs.map .int)) (Ne.symm d.ne) d.at'
      have p1 := oPut_rcd (k := "rest") (v := .p (.int x)) a2 (draw_small g cs r t)
      rw [draw_put_rest] at p1
      have pp' : mPopAt (.o g) [.p (.int 0)] st = .ok (.p (.int x)) (st.set g (.lst (gs.map .int))) := pp
      simp only [isLst_o d.gr, oIx_rcd d.at' (draw_great g cs r t), ok_ok, pp', p1, nxt_some, seq_nx, List.getElem?_cons_zero, varOf_some, if_true, Bool.not_false, List.cons_ne_nil, decide_false, reduceCtorEq, sIfS_eq, sPut_eq, sBm_eq, sB_eq, sVar_eq, sC_eq, bind_ok, sCons_eq, sNil_eq, ok_bind]
      refine tail _ ⟨cs, gs, x, t, get_set a2, ?_, d.t0, by have := d.tT; omega, d.cl, by have := d.gl; simp at this; omega, d.ne⟩ ((Kept.refl.set (.inr rfl)).set (.inl rfl))
      exact get_set_ne d.ne (get_set d.gr)
  · rw [if_neg hr]
    simp [oIx_rcd d.at' (draw_rest g cs r t), hr, -sSet_eq]
    have := tail _ ⟨cs, gs, r, t, d.at', d.gr, d.t0, by have := d.tT; omega, d.cl, d.gl, d.ne⟩ .refl
    rw [ok_sSeq] at this
    exact this
end

end HT
end

section
set_option Elab.async false
set_option linter.all false
set_option maxRecDepth 100000
set_option maxHeartbeats 1000000
namespace HT
open PySem L2 Pd PySem.W
/-! ### picks, shuffles, names -/
section
variable {n g T : Nat} {st : Sto}
theorem pick_sp {α : Type} {e : α → PyData} {k : Nat} (D : Draw n g T st) (hT : T ≤ 2 ^ 40) {xs : List α} (h0 : xs ≠ []) (hl : xs.length ≤ 1000000) : Ok (S (k + 3) 28 [.o n, .p (.list (xs.map e))] st) fun w st' => ∃ x ∈ xs, w = .p (e x) ∧ Draw n g (T + 1) st' ∧ Kept (Dn n g) st st' := by
  rw [st_28]
  have hp := List.length_pos_iff.mpr h0
  simp [b_28]
  refine (take_sp (k := k) D hT (z := xs.length) (by omega) (by omega)).mono fun w st2 ⟨v, hw, hv, d2, k2⟩ => ?_
  subst hw
  have e1 : atI (xs.map e) (v : Int) = some (e xs[v]) := by rw [atIN, List.getElem?_map, List.getElem?_eq_getElem hv]; rfl
  simp [oIx_list e1]
  exact ⟨xs[v], List.getElem_mem hv, rfl, d2, k2⟩
theorem pick_letter_sp {k : Nat} (D : Draw n g T st) (hT : T ≤ 2 ^ 40) : Ok (S (k + 3) 28 [.o n, .p (.str "abcdefghijklmnopqrstuvwxyz")] st) fun w st' => ∃ c, 97 ≤ c ∧ c ≤ 122 ∧ w = .p (.str (one c)) ∧ Draw n g (T + 1) st' ∧ Kept (Dn n g) st st' := by
  rw [st_28]
  have al := alpha_len
  have hs : alpha.length ≤ sizeLine := sizeLine_big (by omega)
  have cl : cLen [.p (.str "abcdefghijklmnopqrstuvwxyz")] st = .ok (.p (.int (26 : Nat))) st := by
    have := cLen_str (st := st) hs
    rw [al] at this
    exact this
  simp [b_28, cl]
  refine (take_sp (k := k) D hT (z := 26) (by omega) (by omega)).mono fun w st2 ⟨v, hw, hv, d2, k2⟩ => ?_
  subst hw
  have e1 : atI alpha.cps.toList (v : Int) = some (97 + v) := by
    rw [atIN, alpha_cps, List.getElem?_range' (by omega)]; simp
  have e2 : oIx (.p (.str "abcdefghijklmnopqrstuvwxyz")) (.p (.int v)) st2 = .ok (.p (.str (one (97 + v)))) st2 := oIx_str hs e1
  simp [e2]
  exact ⟨97 + v, by omega, by omega, rfl, d2, k2⟩
theorem shuffled_sp {α : Type} {e : α → PyData} (pe : PlainE e) {k : Nat} (D : Draw n g T st) {xs : List α} (hT : T + xs.length ≤ 2 ^ 40) (hl : xs.length ≤ 1000) : Ok (S (k + 3) 29 [.o n, .p (.list (xs.map e))] st) fun w st' => ∃ ys : List α, ys.Perm xs ∧ w = .p (.list (ys.map e)) ∧ Draw n g (T + xs.length) st' ∧ Kept (Dn n g) st st' := by
  rw [st_29]
  obtain ⟨ln, lg⟩ := D.lt
  simp [b_29, cListB_list, mkO_small (ds := xs.map e) (by simp; omega), mkO_small (ds := []) (by simp)]
  refine while_ok (fun m en st' => ∃ (l f : List α) (o : Nat), en = [some (.o n), some (.p (.list (xs.map e))), some (.o (st.length + 1)), some (.o st.length)] ∧ Draw n g (T + f.length) st' ∧ Kept (Dn n g) st st' ∧ st'[st.length]? = some (.lst (l.map e)) ∧ st'[st.length + 1]? = some (.lst (f.map e)) ∧ (l ++ f).Perm xs ∧ m = l.length)
    (fun m en st' ⟨l, f, o, e1, d1, k1, cl, cf, pm, hm⟩ => ?_) 4096 xs.length _ _ ⟨xs, [], 0, rfl, ?_, Ext.app _, by simp, by simp, by simp, rfl⟩ (by omega)
  · subst e1
    simp [mkL_small, oNe_lst pe cl]
    by_cases hlz : l = []
    · subst hlz
      simp [frzW_lst cf]
      refine ⟨f, by simpa using pm, rfl, ?_, k1.setNew (by omega)⟩
      have h1 := pm.length_eq
      simp at h1
      rw [← h1]
      refine d1.kept (D' := fun i => i = st.length + 1) (Kept.refl.setN) (by omega) (by omega)
    · rw [if_neg hlz]
      have hp := List.length_pos_iff.mpr hlz
      have hlen := pm.length_eq
      rw [List.length_append] at hlen
      simp [isLst_o cf, isLst_o cl, cLen_lst cl]
      refine (take_sp (k := k) d1 (by omega) (z := l.length) (by omega) (by omega)).mono fun w st2 ⟨v, hw, hv, d2, k2⟩ => ?_
      subst hw
      have hx : l[v]? = some l[v] := List.getElem?_eq_getElem hv
      have cl2 := k2.2 _ _ (by omega) cl
      have cf2 := k2.2 _ _ (by omega) cf
      have cf3 := get_set_ne (m := st.length) (n := st.length + 1) (c := .lst ((l.eraseIdx v).map e)) (by omega) cf2
      have ap := mAppend_map (x := l[v]) cf3 (by have := sizeLine_big (n := 1001) (by omega); omega)
      simp [mPopAt_map cl2 hx (by omega), ap]
      refine ⟨_, ?_, l.eraseIdx v, f ++ [l[v]], ?_, ?_, ?_, get_set (c := .lst ((f ++ [l[v]]).map e)) cf3 |> fun q => by simpa using q, ?_, rfl⟩
      · rw [List.length_eraseIdx_of_lt hv]; omega
      · have d3 := d2.kept (st' := (st2.set st.length (.lst ((l.eraseIdx v).map e))).set (st.length + 1) (.lst ((f ++ [l[v]]).map e))) (D' := fun i => st.length ≤ i) ((Kept.refl.set (Nat.le_refl _)).set (Nat.le_succ _)) (by omega) (by omega)
        simpa [Nat.add_assoc] using d3
      · exact ((k1.trans k2).setNew (Nat.le_refl _)).setNew (Nat.le_succ _)
      · exact get_set cl2
      · have := perm_erase hx
        refine List.Perm.trans ?_ pm
        refine List.Perm.trans ?_ (List.Perm.append_right f this)
        exact (List.perm_append_comm (l₁ := f) (l₂ := [l[v]])).append_left _ |>.trans (by
          rw [← List.append_assoc]
          exact List.Perm.append_right f (List.perm_append_comm (l₁ := l.eraseIdx v) (l₂ := [l[v]])))
  · exact (D.ext (Ext.app _)).mono (by simp)
end

end HT
end

section
set_option Elab.async false
set_option linter.all false
set_option maxRecDepth 100000
set_option maxHeartbeats 1000000
namespace HT
open PySem L2 Pd PySem.W
/-! ### names -/
def lawWords : List Str := ["wait", "post", "start", "method", "any", "down", "up", "starting", "go", "none", "a", "ab", "zzzzzzzz"]
theorem lawWords_ok : ∀ x ∈ lawWords, NameOk x := by
  unfold NameOk
  decide +kernel
theorem cut8_ok {x : Str} {c : Nat} (h : NameOk x) (hc : 97 ≤ c ∧ c ≤ 122) : NameOk (L2.cutS (x ++ one c) none (some 8)) := by
  have e : (x ++ one c).cps.toList = x.cps.toList ++ [c] := by
    show (x.cps ++ #[c]).toList = _
    rw [Array.toList_append]
  have e2 : (x ++ one c).length = x.cps.size + 1 := by
    show (x.cps ++ #[c]).size = _
    rw [Array.size_append]; rfl
  have e3 : (L2.cutS (x ++ one c) none (some 8)).cps.toList = (x.cps.toList ++ [c]).take (min 8 (x.cps.size + 1)) := by
    unfold L2.cutS
    rw [e, e2]
    have := HT.sIx_nat (x.cps.size + 1) (x.cps.size + 1) 8
    rw [HT.sIx_none, show ((8 : Nat) : Int) = 8 from rfl] at *
    rw [this]
    simp
  refine ⟨?_, ?_, fun z hz => ?_⟩
  · have := h.1
    rw [← Array.length_toList, e3, List.length_take, List.length_append, Array.length_toList]
    simp; omega
  · rw [← Array.length_toList, e3, List.length_take]
    omega
  · rw [e3] at hz
    rcases List.mem_append.mp (List.mem_of_mem_take hz) with q | q
    · exact h.2.2 z q
    · rw [List.mem_singleton.mp q]; exact hc
section
variable {n g T : Nat} {st : Sto}
theorem names_sp {k : Nat} (D : Draw n g T st) {many : Nat} (hm : many ≤ 24) (hT : T + 12 * many ≤ 2 ^ 40) : Ok (S (k + 4) 30 [.o n, .p (.int many)] st) fun w st' => ∃ xs : List Str, w = .p (.list (xs.map .str)) ∧ xs.length = many ∧ xs.Nodup ∧ (∀ x ∈ xs, NameOk x) ∧ Draw n g (T + 12 * many) st' ∧ Kept (Dn n g) st st' := by
  obtain ⟨ln, lg⟩ := D.lt
  have wl : mkL [.str "wait", .str "post", .str "start", .str "method", .str "any", .str "down", .str "up", .str "starting", .str "go", .str "none", .str "a", .str "ab", .str "zzzzzzzz"] st = .ok (.p (.list (lawWords.map .str))) st := mkL_small (by simp)
  have sr : smallR (many : Int) = true := by unfold smallR; simp; omega
  rw [st_30]
  simp [b_30, wl, mkO_small (ds := []) (by simp), rng1_int sr]
  unfold intsD
  refine forL_pre (fun i : Nat => PyData.int (0 + (i : Nat))) (List.range many) (fun pre en st' => ∃ xs : List Str, (∃ o2 o4 o6 o8 o9, en = [some (.o n), some (.p (.int many)), o2, some (.p (.str "abcdefghijklmnopqrstuvwxyz")), o4, some (.o st.length), o6, some (.p (.list (lawWords.map .str))), o8, o9]) ∧ st'[st.length]? = some (.lst (xs.map .str)) ∧ xs.length = pre.length ∧ xs.Nodup ∧ (∀ x ∈ xs, NameOk x) ∧ Draw n g (T + 12 * pre.length) st' ∧ Kept (Dn n g) st st')
    (fun pre i post en st' e1 ⟨xs, ⟨o2, o4, o6, o8, o9, e2⟩, hc, hl, nd, ok, d1, k1⟩ => ?_) (fun en st' ⟨xs, ⟨o2, o4, o6, o8, o9, e2⟩, hc, hl, nd, ok, d1, k1⟩ => ?_) ⟨[], ⟨_, _, _, _, _, rfl⟩, by simp, rfl, List.nodup_nil, by simp, (D.ext (Ext.app _)).mono (by simp), Ext.app _⟩
  · subst e2
    have hpre : pre.length < many := by
      have := congrArg List.length e1
      simp at this; omega
    simp
    refine (take_sp (k := k + 1) d1 (by omega) (z := 4) (by omega) (by omega)).mono fun w st2 ⟨way, hw, hway, d2, k2⟩ => ?_
    subst hw
    simp
    refine (pick_sp (k := k) d2 (by omega) (xs := lawWords) (by simp [lawWords]) (by simp [lawWords])).mono fun w st3 ⟨x0, hx0, hw, d3, k3⟩ => ?_
    subst hw
    have c3 := k3.2 _ _ (by omega) (k2.2 _ _ (by omega) hc)
    have k13 := k1.trans (k2.trans k3)
    refine Ok.mono (Q := fun f st4 => ∃ x o8, f = .nx [some (.o n), some (.p (.int many)), some (.p (.int i)), some (.p (.str "abcdefghijklmnopqrstuvwxyz")), some (.p (.str x)), some (.o st.length), some (.p (.int way)), some (.p (.list (lawWords.map .str))), o8, o9] ∧ NameOk x ∧ Draw n g (T + 12 * pre.length + 11) st4 ∧ Kept (Dn n g) st st4 ∧ st4[st.length]? = some (.lst (xs.map .str))) ?_ ?_
    · by_cases hz : way = 0
      · rw [if_pos hz]
        simp
        refine (take_sp (k := k + 1) d3 (by omega) (z := 8) (by omega) (by omega)).mono fun w st4 ⟨q, hw, hq, d4, k4⟩ => ?_
        subst hw
        have sr2 : smallR (1 + (q : Int)) = true := by unfold smallR; simp; omega
        simp [rng1_int sr2]
        unfold intsD
        refine (lcL_okN (fun m stz => Draw n g (T + 12 * pre.length + 3 + m) stz ∧ Kept (Dn n g) st stz ∧ stz[st.length]? = some (.lst (xs.map .str))) (fun i : Nat => PyData.int (0 + (i : Nat))) (fun d => ∃ c, 97 ≤ c ∧ c ≤ 122 ∧ d = .str (one c)) (List.range (1 + (q : Int)).toNat) 0 [] st4 (fun x m stz hx hm2 ⟨dz, kz, cz⟩ => ?_) ⟨d4, k13.trans k4, k4.2 _ _ (by omega) c3⟩).mono fun ds st5 ⟨l, e5, e6, e7, d5, k5, c5⟩ => ?_
        · simp at hm2
          simp
          refine (pick_letter_sp (k := k) dz (by omega)).mono fun w st5 ⟨c, h1, h2, hw, d5, k5⟩ => ?_
          subst hw
          exact ⟨_, rfl, ⟨c, h1, h2, rfl⟩, d5, kz.trans k5, k5.2 _ _ (by omega) cz⟩
        · rw [List.nil_append] at e5
          rw [e5]
          clear e5
          have hcs : ∃ cs : List Nat, l = cs.map (fun c => .str (one c)) ∧ ∀ c ∈ cs, 97 ≤ c ∧ c ≤ 122 := by
            clear e6 d5 c5
            induction l with
            | nil => exact ⟨[], rfl, by simp⟩
            | cons d l ih =>
              obtain ⟨cs, h1, h2⟩ := ih fun z hz => e7 z (List.mem_cons_of_mem _ hz)
              obtain ⟨c, h3, h4, h5⟩ := e7 d List.mem_cons_self
              refine ⟨c :: cs, by rw [h1, h5]; rfl, fun z hz => ?_⟩
              rcases List.mem_cons.mp hz with rfl | hz
              · exact ⟨h3, h4⟩
              · exact h2 z hz
          obtain ⟨cs, h1, h2⟩ := hcs
          subst h1
          rw [Nat.zero_add, List.length_range] at d5
          have e6' : cs.length = (1 + (q : Int)).toNat := by simpa using e6
          have lq : cs.length = 1 + q := by omega
          have so : strsOf (cs.map fun c => PyData.str (one c)) = some (cs.map one) := by
            have := strsOf_map (cs.map one)
            rw [List.map_map] at this
            exact this
          have jo : joinOf ("" : Str) (some (.list (cs.map fun c => PyData.str (one c)))) st5 = .ok (.p (.str (Txt.join ("" : Str) (cs.map one)))) st5 := by
            have h0 : ("" : Str).length = 0 := by decide +kernel
            have hs := sum_ones cs
            simp only [joinOf, so, hs, h0, Nat.mul_zero, Nat.add_zero, show cs.length ≤ 16777216 by omega, if_true, retS_eq]
          have nk : NameOk (Txt.join ("" : Str) (cs.map one)) := by
            have hj := join_empty cs
            refine ⟨?_, ?_, ?_⟩
            · rw [← Array.length_toList, hj]; omega
            · rw [← Array.length_toList, hj]; omega
            · rw [hj]; exact h2
          simp [jo]
          exact ⟨nk, d5.mono (by omega), k5, c5⟩
      · rw [if_neg hz]
        simp
        exact ⟨lawWords_ok _ hx0, d3.mono (by omega), k13, c3⟩
    · rintro f st4 ⟨x, o8', rfl, okx, d4, k4, c4⟩
      rw [seq_nx, ok_sSeq]
      refine Ok.mono (Q := fun f st5 => ∃ x, f = .nx [some (.o n), some (.p (.int many)), some (.p (.int i)), some (.p (.str "abcdefghijklmnopqrstuvwxyz")), some (.p (.str x)), some (.o st.length), some (.p (.int way)), some (.p (.list (lawWords.map .str))), o8', o9] ∧ NameOk x ∧ Draw n g (T + 12 * pre.length + 12) st5 ∧ Kept (Dn n g) st st5 ∧ st5[st.length]? = some (.lst (xs.map .str))) ?_ ?_
      · simp
        by_cases hz : (way : Int) = 1
        · rw [if_pos hz]
          simp [mkL_small, oNe_strs c4]
          by_cases hx : xs = []
          · rw [if_pos hx]
            simp
            exact ⟨okx, d4.mono (by omega), k4, c4⟩
          · rw [if_neg hx]
            obtain ⟨xi, xl, rfl⟩ := snoc_of_ne hx
            have e1 : atI ((xi ++ [xl]).map PyData.str) (-1) = some (.str xl) := by
              rw [List.map_append]; exact atI_last
            simp only [oIx_lst c4 e1, ok_ok, bind_ok, ok_bind]
            refine (pick_letter_sp (k := k) d4 (by omega)).mono fun w st5 ⟨c, h1, h2, hw, d5, k5⟩ => ?_
            subst hw
            have okl := ok xl (by simp)
            have ll : xl.length + (one c).length ≤ sizeLine := sizeLine_big (by have := okl.2.1; show xl.cps.size + 1 ≤ _; omega)
            have ll2 : (xl ++ one c).length ≤ sizeLine := by
              have : (xl ++ one c).length = xl.cps.size + 1 := by
                show (xl.cps ++ #[c]).size = _
                rw [Array.size_append]; rfl
              rw [this]
              exact sizeLine_big (by have := okl.2.1; omega)
            simp [oAdd, ll, oSl, ll2]
            exact ⟨cut8_ok okl ⟨h1, h2⟩, d5.mono (by omega), k4.trans k5, by simpa using k5.2 _ _ (by omega) c4⟩
        · rw [if_neg hz]
          simp
          exact ⟨okx, d4.mono (by omega), k4, c4⟩
      · rintro f st5 ⟨x, rfl, okx, d5, k5, c5⟩
        rw [seq_nx, ok_sSeq]
        refine Ok.mono (Q := fun f st6 => ∃ x, f = .nx [some (.o n), some (.p (.int many)), some (.p (.int i)), some (.p (.str "abcdefghijklmnopqrstuvwxyz")), some (.p (.str x)), some (.o st.length), some (.p (.int way)), some (.p (.list (lawWords.map .str))), o8', o9] ∧ NameOk x ∧ x ∉ xs ∧ Draw n g (T + 12 * pre.length + 12) st6 ∧ Kept (Dn n g) st st6 ∧ st6[st.length]? = some (.lst (xs.map .str))) ?_ ?_
        · simp [oIn_strsO x c5]
          by_cases hx : x ∈ xs
          · rw [if_pos hx]
            have is : itemsOf (.p (.str "abcdefghijklmnopqrstuvwxyz")) st5 = .ok ((List.range' 97 26).map fun c => .str (one c)) st5 := by
              rw [← signs_alpha]
              exact itemsOf_str (sizeLine_big (by have := alpha_len; show alpha.length ≤ _; omega))
            simp [is]
            rw [lcL_map (fun c => PyData.str (one c)) (fun c => !decide (one c ∈ xs)) (fun c => PyData.str (one c))]
            rotate_left
            · intro c hc
              refine ⟨_, rfl, ?_, fun _ => rfl⟩
              simp [oIn_strsO (one c) c5]
            have fl := free_letter (xs := xs) (by omega)
            cases hf : (List.range' 97 26).filter (fun c => !decide (one c ∈ xs)) with
            | nil => exact absurd hf fl
            | cons c r =>
              have hc : c ∈ (List.range' 97 26).filter (fun c => !decide (one c ∈ xs)) := by rw [hf]; simp
              rw [List.mem_filter, List.mem_range'] at hc
              obtain ⟨⟨q, hq, hq2⟩, hn⟩ := hc
              have e1 : atI ((c :: r).map fun c => PyData.str (one c)) 0 = some (.str (one c)) := atIN _ 0
              simp at e1
              simp [oIx_list e1]
              exact ⟨nameOk_one (by omega), by simpa using hn, d5, k5, c5⟩
          · rw [if_neg hx]
            simp
            exact ⟨okx, hx, d5, k5, c5⟩
        · rintro f st6 ⟨x, rfl, okx, hx, d6, k6, c6⟩
          have ap := mAppend_map (x := x) c6 (by have := sizeLine_big (n := 1001) (by omega); omega)
          simp [isLst_o c6, ap]
          refine ⟨xs ++ [x], ?_, by simp [hl], List.nodup_append.mpr ⟨nd, by simp, fun a ha b hb => by simp at hb; subst hb; exact fun q => hx (q ▸ ha)⟩, fun y hy => ?_, ?_, k6.setNew (Nat.le_refl _)⟩
          · have := get_set (c := .lst ((xs ++ [x]).map .str)) c6
            simpa using this
          · rcases List.mem_append.mp hy with hy | hy
            · exact ok y hy
            · rw [List.mem_singleton.mp hy]; exact okx
          · exact (d6.kept (D' := fun i => i = st.length) Kept.refl.setN (by omega) (by omega)).mono (by omega)
  · subst e2
    rw [List.length_range] at hl d1
    simp [frzW_lst hc]
    exact ⟨xs, rfl, hl, nd, ok, d1.kept (D' := fun i => i = st.length) Kept.refl.setN (by omega) (by omega), k1.setNew (Nat.le_refl _)⟩
end

end HT
end

section
set_option Elab.async false
set_option linter.all false
set_option maxRecDepth 100000
set_option maxHeartbeats 1000000
namespace HT
open PySem L2 Pd PySem.W
/-! ### steps -/
section
variable {n g T : Nat} {st : Sto}
theorem steps_sp {k : Nat} (D : Draw n g T st) (hT : T + 13 ≤ 2 ^ 40) {near every : List Call} {m : Nat} {Z : List (Call × Int)} {sz : Call → Nat} {cap : Nat} (hn : ∀ d ∈ near, (∃ q, d.2 = some q) ∧ lookC Z d = some (sz d : Int)) (he0 : every ≠ []) (he : ∀ d ∈ every, ∃ q, d.2 = some q) (hs : st[m]? = some (.dit (eT PyData.int Z)))
    (mn : m ≠ n ∧ m ≠ g) (ln1 : near.length ≤ 1000) (ln2 : every.length ≤ 1000) :
    Ok (S (k + 4) 31 [.o n, .p (.list (near.map eC)), .p (.list (every.map eC)), .o m, .p (.int cap)] st) fun w st' => ∃ x s, w = .p (.tuple [eScr x, .int (s : Nat)]) ∧ x.length ≤ 4 ∧ Steps near every sz cap x s ∧ Draw n g (T + 13) st' ∧ Kept (Dn n g) st st' := by
  obtain ⟨ln, lg⟩ := D.lt
  have lm := get_lt hs
  rw [st_31]
  simp [b_31, mkO_small (ds := []) (by simp)]
  refine (take_sp (k := k + 1) (D.ext (Ext.app [Cell.lst []])) (by omega) (z := 5) (by omega) (by omega)).mono fun w st1 ⟨q, hw, hq, d1, k1⟩ => ?_
  subst hw
  have k01 : Kept (Dn n g) st st1 := (Ext.app _).trans k1
  have c1 : st1[st.length]? = some (.lst []) := k1.2 _ _ (by omega) (by simp)
  have sr : smallR (q : Int) = true := by unfold smallR; simp; omega
  simp [rng1_int sr]
  unfold intsD
  refine forL_pre (fun i : Nat => PyData.int (0 + (i : Nat))) (List.range q) (fun pre en st' => ∃ x s, (∃ o5 o6 o7, en = [some (.o n), some (.p (.list (near.map eC))), some (.p (.list (every.map eC))), some (.o m), some (.p (.int cap)), o5, o6, o7, some (.p (.int (s : Nat))), some (.o st.length)]) ∧ st'[st.length]? = some (.lst (x.map eStep)) ∧ x.length ≤ pre.length ∧ Steps near every sz cap x s ∧ Draw n g (T + 1 + 3 * pre.length) st' ∧ Kept (Dn n g) st st')
    (fun pre i post en st' e1 ⟨x, s, ⟨o5, o6, o7, e2⟩, hc, hl, ok, d2, k2⟩ => ?_) (fun en st' ⟨x, s, ⟨o5, o6, o7, e2⟩, hc, hl, ok, d2, k2⟩ => ?_) ⟨[], 0, ⟨_, _, _, rfl⟩, c1, by simp, ⟨by simp, by simp [waitsOf], by omega⟩, d1.mono (by simp), k01⟩
  · subst e2
    have hpre : pre.length < q := by
      have := congrArg List.length e1
      simp at this; omega
    simp
    refine (take_sp (k := k + 1) d2 (by omega) (z := 4) (by omega) (by omega)).mono fun w st3 ⟨v, hw, hv, d3, k3⟩ => ?_
    subst hw
    simp only [oEq_int, ok_ok]
    refine (pick_sp (k := k) d3 (by omega) he0 (by omega)).mono fun w st4 ⟨p, hp, hw, d4, k4⟩ => ?_
    subst hw
    have c4 := k4.2 _ _ (by omega) (k3.2 _ _ (by omega) hc)
    have k24 := k2.trans (k3.trans k4)
    obtain ⟨pa, pm⟩ := p
    obtain ⟨pm, rfl⟩ := he _ hp
    have bound : x.length + 1 < sizeLine := by have := sizeLine_big (n := 100) (by omega); omega
    by_cases hv0 : v = 0
    · have t1 : mkT [.str "post", .str pa, eO (some pm)] st4 = .ok (.p (eStep (sPost, pa, pm))) st4 := mkT_small (by simp)
      have ap := mAppend_map (x := (sPost, pa, pm)) c4 (by omega)
      simp [hv0, isLst_o c4, t1, ap]
      refine ⟨x ++ [(sPost, pa, pm)], s, rfl, ?_, by simp; omega, ⟨fun t ht => ?_, by rw [waitsOf_post]; exact ok.sz, ok.le⟩, ?_, k24.setNew (Nat.le_refl _)⟩
      · have := get_set (c := .lst ((x ++ [(sPost, pa, pm)]).map eStep)) c4
        simpa using this
      · rcases List.mem_append.mp ht with ht | ht
        · exact ok.ok t ht
        · rw [List.mem_singleton.mp ht]; exact .inr ⟨rfl, hp⟩
      · exact (d4.kept (D' := fun i => i = st.length) Kept.refl.setN (by omega) (by omega)).mono (by omega)
    · have hv0' : ¬ (v : Int) = 0 := by omega
      simp [hv0, mkL_small, oNe_list plainC]
      by_cases hne : near = []
      · simp [hne]
        subst hne
        exact ⟨x, s, rfl, c4, by omega, ok, d4.mono (by omega), k24⟩
      · simp [hne]
        refine (pick_sp (k := k) d4 (by omega) hne (by omega)).mono fun w st5 ⟨r, hr, hw, d5, k5⟩ => ?_
        subst hw
        have c5 := k5.2 _ _ (by omega) c4
        have k25 := k24.trans k5
        have s5 := k25.2 _ _ (by omega) hs
        obtain ⟨⟨rm, hrm⟩, hz⟩ := hn r hr
        obtain ⟨ra, rb⟩ := r
        simp only at hrm
        subst hrm
        simp [oIxT_dit PyData.int s5 hz, oCI]
        by_cases hle : (s : Int) + 1 + (sz (ra, some rm) : Int) ≤ (cap : Int)
        · have t1 : mkT [.str "wait", .str ra, eO (some rm)] st5 = .ok (.p (eStep (sWait, ra, rm))) st5 := mkT_small (by simp)
          have ap := mAppend_map (x := (sWait, ra, rm)) c5 (by omega)
          have s6 := get_set_ne (m := st.length) (n := m) (c := .lst ((x ++ [(sWait, ra, rm)]).map eStep)) (by omega) s5
          simp only [List.map_append] at s6 ap
          simp [hle, isLst_o c5, t1, ap]
          simp at s6
          simp [oIxT_dit PyData.int s6 hz]
          refine ⟨x ++ [(sWait, ra, rm)], s + 1 + sz (ra, some rm), by omega, ?_, by simp; omega, ⟨fun t ht => ?_, ?_, by omega⟩, ?_, k25.setNew (Nat.le_refl _)⟩
          · have := get_set (c := .lst ((x ++ [(sWait, ra, rm)]).map eStep)) c5
            simpa using this
          · rcases List.mem_append.mp ht with ht | ht
            · exact ok.ok t ht
            · rw [List.mem_singleton.mp ht]; exact .inl ⟨rfl, hr⟩
          · rw [waitsOf_wait, List.map_append, List.sum_append, ← ok.sz]; simp; omega
          · exact (d5.kept (D' := fun i => i = st.length) Kept.refl.setN (by omega) (by omega)).mono (by omega)
        · simp [hle]
          exact ⟨x, s, rfl, c5, by omega, ok, d5.mono (by omega), k25⟩
  · subst e2
    rw [List.length_range] at hl d2
    have t2 : cTupOf [.o st.length] st' = .ok (.p (eScr x)) st' := by
      simp only [cTupOf, val_lst hc]
      exact mkT_small (by simp; omega)
    have t3 : mkT [eScr x, .int (s : Nat)] st' = .ok (.p (.tuple [eScr x, .int (s : Nat)])) st' := mkT_small (by simp)
    simp [t2, t3]
    exact ⟨x, s, ⟨rfl, rfl⟩, by omega, ok, d2.mono (by omega), k2⟩
end

end HT
end

section
set_option Elab.async false
set_option linter.all false
set_option maxRecDepth 100000
set_option maxHeartbeats 1000000
namespace HT
open PySem L2 Pd PySem.W
/-! ### random houses -/
section
variable {n g T : Nat} {st : Sto}
theorem home_sp {k : Nat} (D : Draw n g T st) (hT : T + 1000 ≤ 2 ^ 40) {M N cap : Nat} (hM1 : 1 ≤ M) (hM : M ≤ 6) (hN1 : 1 ≤ N) (hN : N ≤ 4) (hcap : cap ≤ 30) :
    Ok (S (k + 5) 32 [.o n, .p (.int M), .p (.int N), .p (.int cap)] st) fun w st' => ∃ h, w = .p (eHome h) ∧ HomeOk h ∧ (∃ sz, Sized h sz) ∧ Draw n g (T + 1000) st' ∧ Kept (Dn n g) st st' := by
  obtain ⟨ln, lg⟩ := D.lt
  rw [st_32]
  simp [b_32]
  refine (take_sp (k := k + 2) D (by omega) (z := 3) (by omega) (by omega)).mono fun w st1 ⟨way, hw, hway, d1, k1⟩ => ?_
  subst hw
  refine (take_sp (k := k + 2) d1 (by omega) (z := M) (by omega) (by omega)).mono fun w st2 ⟨q, hw, hq, d2, k2⟩ => ?_
  subst hw
  rw [oAdd_int, ok_ok, show (1 + (q : Int)) = ((1 + q : Nat) : Int) by omega]
  refine (names_sp (k := k) d2 (many := 1 + q) (by omega) (by omega)).mono fun w st3 ⟨xs, hw, hxl, hxn, hxo, d3, k3⟩ => ?_
  subst hw
  simp [two_le]
  refine (pick_sp (k := k + 1) (e := PyData.str) d3 (by omega) (xs := xs) (by intro e; subst e; simp at hxl; omega) (by omega)).mono fun w st4 ⟨free, hfree, hw, d4, k4⟩ => ?_
  subst hw
  simp [two_le, mkL_small]
  have k14 : Kept (Dn n g) st st4 := k1.trans (k2.trans (k3.trans k4))
  replace d4 : Draw n g (T + 80) st4 := d4.mono (by omega)
  refine forL_pre PyData.str xs (fun pre en st' => ∃ P : List (Str × List Str), (∃ o9, en = [some (.o n), some (.p (.int M)), some (.p (.int N)), some (.p (.int cap)), none, none, some (.p (.str free)), none, none, o9, some (.p (.list (xs.map .str))), none, none, some (.p (.list ((flatP P).map eC))), none, none, none, none, some (.p (.int way)), none, none]) ∧ P.map (fun p => p.1) = pre ∧ (∀ p ∈ P, NamesOk p.2 N) ∧ Draw n g (T + 80 + 49 * pre.length) st' ∧ Kept (Dn n g) st st')
    (fun pre x post en st' e1 ⟨P, ⟨o9, e2⟩, hP, hP2, d5, k5⟩ => ?_) (fun en st' ⟨P, ⟨o9, e2⟩, hP, hP2, d5, k5⟩ => ?_) ⟨[], ⟨_, rfl⟩, rfl, by simp, d4.mono (by simp), k14⟩
  · subst e2
    have hpre : pre.length < 6 := by
      have := congrArg List.length e1
      simp at this; omega
    simp
    refine (take_sp (k := k + 2) d5 (by omega) (z := N) (by omega) (by omega)).mono fun w st6 ⟨q2, hw, hq2, d6, k6⟩ => ?_
    subst hw
    rw [oAdd_int, ok_ok, show (1 + (q2 : Int)) = ((1 + q2 : Nat) : Int) by omega]
    refine (names_sp (k := k) d6 (many := 1 + q2) (by omega) (by omega)).mono fun w st7 ⟨ds, hw, hdl, hdn, hdo, d7, k7⟩ => ?_
    subst hw
    simp
    rw [lcL_all PyData.str (fun d => eC (x, some d))]
    rotate_left
    · intro d hd
      exact ⟨_, rfl, rfl, by simp [mkT_small, eC, eO]⟩
    have sum : ∀ P : List (Str × List Str), flatP (P ++ [(x, ds)]) = flatP P ++ ds.map fun d => (x, some d) := fun P => by simp [flatP]
    have hlen : (flatP P).length ≤ 24 := by
      have h1 : ∀ l : List (Str × List Str), (∀ p ∈ l, p.2.length ≤ 4) → (flatP l).length ≤ 4 * l.length := by
        intro l
        induction l with
        | nil => intro _; simp [flatP]
        | cons p l ih =>
          intro hh
          have h1 := ih fun q hq => hh q (List.mem_cons_of_mem _ hq)
          have h2 := hh p List.mem_cons_self
          unfold flatP at h1 ⊢
          rw [List.flatMap_cons, List.length_append, List.length_cons, List.length_map, Nat.mul_succ]
          omega
      have h2 := h1 P fun p hp => Nat.le_trans (hP2 p hp).le hN
      have h3 := congrArg List.length hP
      rw [List.length_map] at h3
      omega
    have e3 : ((flatP P).map eC ++ ds.map fun d => eC (x, some d)) = (flatP (P ++ [(x, ds)])).map eC := by rw [sum]; simp
    have e4 : mkL ((flatP P).map eC ++ ds.map fun d => eC (x, some d)) st7 = .ok (.p (.list ((flatP (P ++ [(x, ds)])).map eC))) st7 := by
      rw [e3]; exact mkL_small (by rw [← e3]; simp; omega)
    simp [oAdd, e4]
    refine ⟨P ++ [(x, ds)], rfl, by simp [hP], fun a b hab => ?_, d7.mono (by omega), k5.trans (k6.trans k7)⟩
    rcases List.mem_append.mp hab with hab | hab
    · exact hP2 _ hab
    · have e5 := List.mem_singleton.mp hab
      cases e5
      exact ⟨hdn, by omega, by omega, hdo⟩
  · subst e2
    have PO : PairsOk P 6 N := ⟨by rw [hP]; exact ⟨hxn, by omega, by omega, hxo⟩, hP2⟩
    have hfl := flatP_len PO
    have hfl2 : (flatP P).length ≤ 24 := Nat.le_trans hfl (by omega)
    have fnd : (flatP P).Nodup := flatP_nodup PO.ns.nd fun p hp => (hP2 p hp).nd
    replace d5 : Draw n g (T + 380) st' := d5.mono (by omega)
    simp
    refine (shuffled_sp plainC (k := k + 1) d5 (xs := flatP P) (by omega) (by omega)).mono fun w st6 ⟨rk, pm, hw, d6, k6⟩ => ?_
    subst hw
    have rnd : rk.Nodup := pm.nodup_iff.mpr fnd
    have rl : rk.length ≤ 24 := by rw [pm.length_eq]; exact hfl2
    simp [four_le]
    have l06 : st.length ≤ st6.length := Nat.le_trans k5.1 k6.1
    have k06 := k5.trans k6
    generalize hst7 : st6 ++ [Cell.dit [], Cell.dit [], Cell.dic []] = st7
    have z7 : st7[st6.length]? = some (.dit []) := by rw [← hst7]; simp
    have s7 : st7[st6.length + 1]? = some (.dit []) := by rw [← hst7]; simp
    have h7 : st7[st6.length + 1 + 1]? = some (.dic []) := by
      rw [← hst7, List.getElem?_append_right (by omega), show st6.length + 1 + 1 - st6.length = 2 by omega]; rfl
    have k07 : Kept (Dn n g) st st7 := by rw [← hst7]; exact k06.app _
    have d7 : Draw n g (T + 420) st7 := by rw [← hst7]; exact (d6.ext (Ext.app _)).mono (by omega)
    have hB : st.length ≤ st6.length := l06
    generalize st6.length = B at z7 s7 h7 hB ⊢
    have idx : ∀ {a : Str}, a ∈ P.map (fun p => p.1) → a ∈ xs := fun {a} ha => by rw [← hP]; exact ha
    have rkx : ∀ c ∈ rk, c.1 ∈ xs := fun c hc => idx (flatP_name (pm.mem_iff.mp hc))
    refine forL_enum (rk.map eC) (fun i en st' => ∃ L : Grow, (∃ o4 o8 o9 o11 o12, en = [some (.o n), some (.p (.int M)), some (.p (.int N)), some (.p (.int cap)), o4, none, some (.p (.str free)), some (.o (B + 1 + 1)), o8, o9, some (.p (.list (xs.map .str))), o11, o12, some (.p (.list ((flatP P).map eC))), some (.p (.list (rk.map eC))), some (.o (B + 1)), some (.o B), none, some (.p (.int way)), none, none])
        ∧ Grown (flatP P) cap L ∧ L.map (fun p => p.1) = rk.take i ∧ st'[B]? = some (.dit (eT PyData.int (L.map fun p => (p.1, (p.2.2 : Int))))) ∧ st'[B + 1]? = some (.dit (eT eScr (L.map fun p => (p.1, p.2.1)))) ∧ st'[B + 1 + 1]? = some (.dic []) ∧ Draw n g (T + 420 + 13 * i) st' ∧ Kept (Dn n g) st st')
      (fun i e en st' he ⟨L, ⟨o4, o8, o9, o11, o12, e2⟩, gr, hL, hz, hsc, hh, d8, k8⟩ => ?_) (fun en st' ⟨L, ⟨o4, o8, o9, o11, o12, e2⟩, gr, hL, hz, hsc, hh, d8, k8⟩ => ?_) ⟨[], ⟨_, _, _, _, _, rfl⟩, .nil, rfl, z7, s7, h7, d7.mono (by omega), k07⟩
    · subst e2
      rw [List.getElem?_map] at he
      obtain ⟨c, hc, rfl⟩ := Option.map_eq_some_iff.mp he
      have hi : i < rk.length := (List.getElem?_eq_some_iff.mp hc).1
      have hcm : c ∈ rk := List.mem_of_getElem? hc
      simp [oSl_list, cutD_take, -List.map_take]
      rw [← List.map_take, lcL_map eC (fun o => decide ((way : Int) = 0) || ((decide ((way : Int) = 2) && decide (c.1 = free)) || decide (((xs.idxOf o.1 : Nat) : Int) < (xs.idxOf c.1 : Nat)))) eC]
      rotate_left
      · intro o ho
        refine ⟨_, rfl, ?_, fun _ => rfl⟩
        have ho2 := rkx o (List.mem_of_mem_take ho)
        have h0 := fun st => mIndex_strs (st := st) ho2
        have h1 := fun st => mIndex_strs (st := st) (rkx c hcm)
        simp only [sOr_eq, sAnd_eq, sT_eq, sB_eq, sVar_eq, sC_eq, List.getElem?_cons_succ, List.getElem?_cons_zero, List.set_cons_succ, List.set_cons_zero, varOf_some, bind_ok, oEq_int, oIx_call0, oEq_str, asB_bool, sBm_eq, isLst_p, if_true, sCons_eq, sNil_eq, h0, h1, oCI, val_int, retB_eq]
        generalize decide ((way : Int) = 0) = b1
        generalize decide ((way : Int) = 2) = b2
        generalize decide (c.1 = free) = b3
        generalize decide (((xs.idxOf o.1 : Nat) : Int) < (xs.idxOf c.1 : Nat)) = b4
        cases b1 <;> cases b2 <;> cases b3 <;> cases b4 <;> rfl
      simp only [List.nil_append, ok_ok, keepL_eq, seq_nx, ok_sSeq, sSet_eq, sCall_eq, sCons_eq, sNil_eq, sVar_eq, List.getElem?_cons_succ, List.getElem?_cons_zero, List.set_cons_succ, List.set_cons_zero, varOf_some, bind_ok, ok_bind]
      have nearL : ∀ d ∈ (rk.take i).filter (fun o => decide ((way : Int) = 0) || ((decide ((way : Int) = 2) && decide (c.1 = free)) || decide (((xs.idxOf o.1 : Nat) : Int) < (xs.idxOf c.1 : Nat)))), d ∈ L.map fun p => p.1 := fun d hd => by
        rw [hL]; exact (List.mem_filter.mp hd).1
      have lz : ∀ d ∈ L.map (fun p => p.1), lookC (L.map fun p => (p.1, (p.2.2 : Int))) d = some (szL L d : Int) := fun d hd => by
        obtain ⟨p, hp, rfl⟩ := List.mem_map.mp hd
        have h1 : lookC (L.map fun p => (p.1, (p.2.2 : Int))) p.1 = some (p.2.2 : Int) := lookC_of_mem (by rw [List.map_map]; exact gr.nd) (List.mem_map.mpr ⟨p, hp, rfl⟩)
        rw [h1, (gr.get p.1 p.2.1 p.2.2 hp).2.2]
      refine (steps_sp (k := k) d8 (by omega) (near := (rk.take i).filter (fun o => decide ((way : Int) = 0) || ((decide ((way : Int) = 2) && decide (c.1 = free)) || decide (((xs.idxOf o.1 : Nat) : Int) < (xs.idxOf c.1 : Nat))))) (every := flatP P) (sz := szL L) (cap := cap) (fun d hd => ⟨flatP_some (pm.mem_iff.mp (List.mem_of_mem_take (List.mem_filter.mp hd).1)), lz d (nearL d hd)⟩) (by
          intro e
          have := pm.length_eq
          rw [e] at this
          simp at this
          subst this
          simp at hi) (fun d hd => flatP_some hd) hz ⟨by omega, by omega⟩ (by
          refine Nat.le_trans (List.length_filter_le _ _) ?_
          rw [List.length_take]; omega) (by omega)).mono fun w st9 ⟨x, s, hw, hx4, hst, d9, k9⟩ => ?_
      subst hw
      have k89 := k8.trans k9
      have hz9 := k9.2 _ _ (by omega) hz
      have hs9 := k9.2 _ _ (by omega) hsc
      have hh9 := k9.2 _ _ (by omega) hh
      have cn : c ∉ L.map fun p => p.1 := by
        rw [hL]
        intro hcc
        have nd := rnd
        rw [← List.take_append_drop i rk] at nd
        have h2 : c ∈ rk.drop i := by
          rw [List.drop_eq_getElem_cons hi]
          have := (List.getElem?_eq_some_iff.mp hc).2
          rw [this]; exact List.mem_cons_self
        exact (List.nodup_append.mp nd).2.2 c hcc c h2 rfl
      have Ll : L.length ≤ 24 := by
        have := congrArg List.length hL
        rw [List.length_map, List.length_take] at this; omega
      have cn1 : c ∉ (L.map fun p => (p.1, p.2.1)).map fun p => p.1 := by rw [List.map_map]; exact cn
      have cn2 : c ∉ (L.map fun p => (p.1, (p.2.2 : Int))).map fun p => p.1 := by rw [List.map_map]; exact cn
      have sml := sizeLine_big (n := 100) (by omega)
      have pt := oPutT_dit eScr (a := x) hs9 (by rw [List.length_map]; omega) cn1
      have hz10 := get_set_ne (m := B + 1) (n := B) (c := .dit (eT eScr ((L.map fun p => (p.1, p.2.1)) ++ [(c, x)]))) (by omega) hz9
      have pz := oPutT_dit PyData.int (a := (s : Int)) hz10 (by rw [List.length_map]; omega) cn2
      simp only [pair_0, pair_1, pt, pz, nxt_some, ok_ok, seq_nx, ok_sSeq, sPutT_eq, sB_eq, sC_eq, sVar_eq, List.getElem?_cons_succ, List.getElem?_cons_zero, List.set_cons_succ, List.set_cons_zero, varOf_some, bind_ok, ok_bind, turn_nx]
      refine ⟨⟨_, _, _, _, _, rfl⟩, L ++ [(c, x, s)], .snoc gr hx4 hst nearL cn, ?_, ?_, ?_, ?_, ?_, ?_⟩
      · rw [List.map_append, hL, take_snoc hc]; rfl
      · rw [get_set hz10, List.map_append]; rfl
      · rw [List.getElem?_set_ne (by omega), get_set hs9, List.map_append]; rfl
      · rw [List.getElem?_set_ne (by omega), List.getElem?_set_ne (by omega), hh9]
      · exact (d9.kept (D' := fun i => B ≤ i) ((Kept.refl.set (Nat.le_succ _)).set (Nat.le_refl _)) (by omega) (by omega)).mono (by omega)
      · exact (k89.setNew (by omega)).setNew (by omega)
    · subst e2
      rw [List.length_map] at hL d8
      rw [List.take_length] at hL
      have pmL : (L.map fun p => p.1).Perm (flatP P) := by rw [hL]; exact pm
      have Lmem : ∀ c ∈ flatP P, ∃ x s, (c, x, s) ∈ L := fun c hc => by
        obtain ⟨p, hp, rfl⟩ := List.mem_map.mp (pmL.mem_iff.mpr hc)
        exact ⟨p.2.1, p.2.2, hp⟩
      have lz : ∀ d ∈ L.map (fun p => p.1), lookC (L.map fun p => (p.1, (p.2.2 : Int))) d = some (szL L d : Int) := fun d hd => by
        obtain ⟨p, hp, rfl⟩ := List.mem_map.mp hd
        have h1 : lookC (L.map fun p => (p.1, (p.2.2 : Int))) p.1 = some (p.2.2 : Int) := lookC_of_mem (by rw [List.map_map]; exact gr.nd) (List.mem_map.mpr ⟨p, hp, rfl⟩)
        rw [h1, (gr.get p.1 p.2.1 p.2.2 hp).2.2]
      have lsc : ∀ c x s, (c, x, s) ∈ L → lookC (L.map fun p => (p.1, p.2.1)) c = some x := fun c x s h => lookC_of_mem (by rw [List.map_map]; exact gr.nd) (List.mem_map.mpr ⟨_, h, rfl⟩)
      replace d8 : Draw n g (T + 740) st' := d8.mono (by omega)
      simp
      refine forL_enum (xs.map .str) (fun i en st2 => ∃ H : Home, (∃ o4 o5 o8 o9 o11 o12 o17, en = [some (.o n), some (.p (.int M)), some (.p (.int N)), some (.p (.int cap)), o4, o5, some (.p (.str free)), some (.o (B + 1 + 1)), o8, o9, some (.p (.list (xs.map .str))), o11, o12, some (.p (.list ((flatP P).map eC))), some (.p (.list (rk.map eC))), some (.o (B + 1)), some (.o B), o17, some (.p (.int way)), none, none])
          ∧ H.map (fun p => p.1) = xs.take i ∧ (∀ n s ds, (n, s) ∈ H → (n, ds) ∈ P → ServDrawn (flatP P) cap L n ds s) ∧ st2[B]? = some (.dit (eT PyData.int (L.map fun p => (p.1, (p.2.2 : Int))))) ∧ st2[B + 1]? = some (.dit (eT eScr (L.map fun p => (p.1, p.2.1)))) ∧ st2[B + 1 + 1]? = some (.dic (eD eServ H)) ∧ Draw n g (T + 740 + 20 * i) st2 ∧ Kept (Dn n g) st st2)
        (fun i e en st2 he ⟨H, ⟨o4, o5, o8, o9, o11, o12, o17, e2⟩, hH, hH2, hz, hsc, hh, d9, k9⟩ => ?_) (fun en st2 ⟨H, ⟨o4, o5, o8, o9, o11, o12, o17, e2⟩, hH, hH2, hz, hsc, hh, d9, k9⟩ => ?_) ⟨[], ⟨_, _, _, _, _, _, _, rfl⟩, rfl, by simp, hz, hsc, hh, d8.mono (by omega), k8⟩
      · subst e2
        rw [List.getElem?_map] at he
        obtain ⟨x, hx, rfl⟩ := Option.map_eq_some_iff.mp he
        have hi : i < xs.length := (List.getElem?_eq_some_iff.mp hx).1
        have hxm : x ∈ xs := List.mem_of_getElem? hx
        obtain ⟨p, hp, hpx⟩ := List.mem_map.mp (show x ∈ P.map (fun p => p.1) by rw [hP]; exact hxm)
        obtain ⟨px, ds⟩ := p
        simp only at hpx
        subst hpx
        have hds : NamesOk ds N := hP2 _ hp
        simp
        rw [lcL_map eC (fun o => decide ((way : Int) = 0) || ((decide ((way : Int) = 2) && decide (px = free)) || decide (((xs.idxOf o.1 : Nat) : Int) < i))) eC]
        rotate_left
        · intro o ho
          refine ⟨_, rfl, ?_, fun _ => rfl⟩
          have h0 := fun st => mIndex_strs (st := st) (rkx o ho)
          simp only [sOr_eq, sAnd_eq, sT_eq, sB_eq, sVar_eq, sC_eq, List.getElem?_cons_succ, List.getElem?_cons_zero, List.set_cons_succ, List.set_cons_zero, varOf_some, bind_ok, oEq_int, oIx_call0, oEq_str, asB_bool, sBm_eq, isLst_p, if_true, sCons_eq, sNil_eq, h0, oCI, val_int, retB_eq]
          generalize decide ((way : Int) = 0) = b1
          generalize decide ((way : Int) = 2) = b2
          generalize decide (px = free) = b3
          generalize decide (((xs.idxOf o.1 : Nat) : Int) < i) = b4
          cases b1 <;> cases b2 <;> cases b3 <;> cases b4 <;> rfl
        simp only [List.nil_append, ok_ok, keepL_eq, seq_nx, ok_sSeq, sSet_eq, List.getElem?_cons_succ, List.getElem?_cons_zero, List.set_cons_succ, List.set_cons_zero, varOf_some, bind_ok, ok_bind]
        generalize hnr : rk.filter (fun o => decide ((way : Int) = 0) || ((decide ((way : Int) = 2) && decide (px = free)) || decide (((xs.idxOf o.1 : Nat) : Int) < i))) = near
        have nearL : ∀ d ∈ near, d ∈ L.map fun p => p.1 := fun d hd => by
          rw [hL]; rw [← hnr] at hd; exact (List.mem_filter.mp hd).1
        have nearN : near.length ≤ 1000 := by
          rw [← hnr]
          refine Nat.le_trans (List.length_filter_le _ _) ?_
          omega
        refine (take_sp (k := k + 2) d9 (by omega) (z := 3) (by omega) (by omega)).mono fun w st3 ⟨tk, hw, htk, d10, k10⟩ => ?_
        subst hw
        have k910 := k9.trans k10
        have hz3 := k10.2 B _ (by omega) hz
        simp only [oCI, val_int, retB_eq, ok_ok, boolOf_bool, decide_eq_true_eq]
        refine Ok.mono (Q := fun w st4 => ∃ b : Scr, w = .p (eScr b) ∧ b.length ≤ 4 ∧ (∃ s, Steps (L.map fun p => p.1) (flatP P) (szL L) cap b s) ∧ Draw n g (T + 740 + 20 * i + 14) st4 ∧ Kept (Dn n g) st2 st4) ?_ ?_
        · by_cases h0 : (0 : Int) < tk
          · rw [if_pos h0]
            simp
            refine (steps_sp (k := k) d10 (by omega) (near := near) (every := flatP P) (sz := szL L) (cap := cap) (fun d hd => ⟨flatP_some (pmL.mem_iff.mp (nearL d hd)), lz d (nearL d hd)⟩) (by
              intro e
              have h1 := hds.pos
              obtain ⟨m, hm⟩ := List.exists_mem_of_length_pos (show 0 < ds.length by omega)
              have := mem_flatP.mpr ⟨ds, hp, hm⟩
              rw [e] at this; cases this) (fun d hd => flatP_some hd) hz3 ⟨by omega, by omega⟩ nearN (by omega)).mono fun w st5 ⟨b, s, hw, hb4, hst, d11, k11⟩ => ?_
            subst hw
            simp [pair_0]
            refine ⟨b, rfl, hb4, ⟨s, ⟨fun t ht => ?_, hst.sz, hst.le⟩⟩, d11.mono (by omega), k10.trans k11⟩
            rcases hst.ok t ht with q | q
            · exact .inl ⟨q.1, nearL _ q.2⟩
            · exact .inr q
          · rw [if_neg h0]
            simp [mkT_small]
            exact ⟨[], rfl, by simp, ⟨0, by simp, by simp [waitsOf], by omega⟩, d10.mono (by omega), k10⟩
        · rintro w st4 ⟨b, rfl, hb4, hbs, d11, k11⟩
          have k04 := k9.trans k11
          have hsc4 := k11.2 (B + 1) _ (by omega) hsc
          have hz4 := k11.2 B _ (by omega) hz
          have hh4 := k11.2 (B + 1 + 1) _ (by omega) hh
          have hF := flatP_filter PO.ns.nd hp
          rw [lcL_map eC (fun o => decide (o.1 = px)) eC]
          rotate_left
          · intro o ho
            exact ⟨_, rfl, by simp, fun _ => rfl⟩
          rw [hF, List.map_map]
          simp only [List.nil_append, ok_ok, keepL_eq, itemsOf_list]
          have lB := get_lt hh4
          have hTB : B + 1 + 1 < st4.length := lB
          have d12 : Draw n g (T + 740 + 20 * i + 14) (st4 ++ [Cell.dic []]) := d11.ext (Ext.app _)
          have tb0 : (st4 ++ [Cell.dic []])[st4.length]? = some (.dic (eD eDeed [])) := by simp
          have hsc5 := get_app [Cell.dic []] hsc4
          have hz5 := get_app [Cell.dic []] hz4
          have hh5 := get_app [Cell.dic []] hh4
          have k05 : Kept (Dn n g) st (st4 ++ [Cell.dic []]) := k04.app _
          generalize st4 ++ [Cell.dic []] = st5 at d12 tb0 hsc5 hz5 hh5 k05 ⊢
          generalize st4.length = TB at hTB tb0 ⊢
          refine forL_pre (eC ∘ fun d => (px, some d)) ds (fun pre en st6 => ∃ tb : Tab, (∃ o12, en = [some (.o n), some (.p (.int M)), some (.p (.int N)), some (.p (.int cap)), some (.p (.int i)), some (.p (eScr b)), some (.p (.str free)), some (.o (B + 1 + 1)), o8, some (.p (.str px)), some (.p (.list (xs.map .str))), some (.p (.list (near.map eC))), o12, some (.p (.list ((flatP P).map eC))), some (.p (.list (rk.map eC))), some (.o (B + 1)), some (.o B), some (.o TB), some (.p (.int way)), none, none])
              ∧ tb.map (fun p => p.1) = pre ∧ (∀ p ∈ tb, 0 ≤ p.2.1 ∧ p.2.1 ≤ 99 ∧ ∃ k, ((px, some p.1), p.2.2, k) ∈ L) ∧ st6[TB]? = some (.dic (eD eDeed tb)) ∧ Draw n g (T + 740 + 20 * i + 14 + pre.length) st6 ∧ Kept (fun j => Dn n g j ∨ j = TB) st5 st6)
              (fun pre d post en st6 e3 ⟨tb, ⟨o12', e4⟩, ht, ht2, hc6, d6, k6⟩ => ?_) (fun en st6 ⟨tb, ⟨o12', e4⟩, ht, ht2, hc6, d6, k6⟩ => ?_) ⟨[], ⟨_, rfl⟩, rfl, by simp, tb0, d12.mono (by omega), .refl⟩
          · subst e4
            have hdm : d ∈ ds := by rw [e3]; simp
            obtain ⟨sx, ss, hsx⟩ := Lmem (px, some d) (mem_flatP.mpr ⟨ds, hp, hdm⟩)
            have hlk := lsc _ _ _ hsx
            have hpl : pre.length < 4 := by
              have h1 := congrArg List.length e3
              have h2 := hds.le
              simp at h1; omega
            simp
            refine (take_sp (k := k + 2) d6 (by omega) (z := 100) (by omega) (by omega)).mono fun w st7 ⟨wo, hw, hwo, d7, k7⟩ => ?_
            subst hw
            have k67 := k6.trans (k7.mono (D' := fun j => Dn n g j ∨ j = TB) fun _ q => .inl q)
            have hsc7 := k67.2 (B + 1) _ (by omega) hsc5
            have hc7 := k7.2 TB _ (by omega) hc6
            have t1 : mkT [.int wo, eScr sx] st7 = .ok (.p (eDeed ((wo : Int), sx))) st7 := mkT_small (by simp)
            have nd : d ∉ tb.map (fun p => p.1) := by
              rw [ht]
              have := hds.nd
              rw [e3] at this
              exact fun q => (List.nodup_append.mp this).2.2 d q d List.mem_cons_self rfl
            have htl : tb.length = pre.length := by rw [← ht, List.length_map]
            have pu := oPut_dic eDeed (a := ((wo : Int), sx)) hc7 (by omega) nd
            simp [oIxT_dit eScr hsc7 hlk, t1, eO, pu]
            refine ⟨tb ++ [(d, ((wo : Int), sx))], by simp [ht], fun a b c hab => ?_, get_set hc7, ?_, k67.set (.inr rfl)⟩
            · rcases List.mem_append.mp hab with hab | hab
              · exact ht2 _ hab
              · have e5 := List.mem_singleton.mp hab
                cases e5
                exact ⟨by omega, by omega, ss, hsx⟩
            · exact (d7.kept (D' := fun j => j = TB) Kept.refl.setN (by omega) (by omega)).mono (by omega)
          · subst e4
            have h4 := hds.le
            have wks : [PyData.none, .int 1, .int 1, .int 2, .int 3, .int 4] = ([none, some 1, some 1, some 2, some 3, some 4] : List (Option Int)).map eI := rfl
            simp [mkL_small]
            rw [wks]
            refine (pick_sp (k := k + 1) d6 (by omega) (by simp) (by simp)).mono fun w st7 ⟨wk, hwk, hw, d7, k7⟩ => ?_
            subst hw
            have hc7 := k7.2 TB _ (by omega) hc6
            have k67 := k6.trans (k7.mono (D' := fun j => Dn n g j ∨ j = TB) fun _ q => .inl q)
            have hh7 := get_set_ne (m := TB) (n := B + 1 + 1) (c := .frz (.dict (eD eDeed tb))) (by omega) (k67.2 (B + 1 + 1) _ (by omega) hh5)
            have hz7 := get_set_ne (m := TB) (n := B) (c := .frz (.dict (eD eDeed tb))) (by omega) (k67.2 B _ (by omega) hz5)
            have hsc7 := get_set_ne (m := TB) (n := B + 1) (c := .frz (.dict (eD eDeed tb))) (by omega) (k67.2 (B + 1) _ (by omega) hsc5)
            have t1 : ∀ stq, mkT [eI wk, eScr b, .dict (eD eDeed tb)] stq = .ok (.p (eServ (wk, b, tb))) stq := fun stq => mkT_small (by simp)
            have nx : px ∉ H.map (fun p => p.1) := by
              rw [hH]
              intro q
              have nd := hxn
              rw [← List.take_append_drop i xs, List.drop_eq_getElem_cons hi, (List.getElem?_eq_some_iff.mp hx).2] at nd
              exact (List.nodup_append.mp nd).2.2 px q px List.mem_cons_self rfl
            have Hl : H.length ≤ 6 := by
              have := congrArg List.length hH
              rw [List.length_map, List.length_take] at this; omega
            have pu := oPut_dic eServ (a := (wk, b, tb)) hh7 (by omega) nx
            simp [frzW_dic hc7, t1, pu]
            refine ⟨H ++ [(px, (wk, b, tb))], ?_, fun n' a1 a2 a3 ds' hn' hd' => ?_, ?_, ?_, get_set hh7, ?_, ?_⟩
            · rw [List.map_append, hH, take_snoc hx]; rfl
            · rcases List.mem_append.mp hn' with hn' | hn'
              · exact hH2 _ _ _ hn' hd'
              · have e5 := List.mem_singleton.mp hn'
                cases e5
                have e6 : ds' = ds := by
                  have h1 := look_of_mem PO.ns.nd hp
                  have h2 := look_of_mem PO.ns.nd hd'
                  rw [h1] at h2; exact (Option.some.inj h2).symm
                subst e6
                refine ⟨fun j hj => ?_, hb4, hbs, ht, ht2⟩
                simp at hj hwk
                subst hj
                simp at hwk
                omega
            · exact get_set_ne (m := B + 1 + 1) (n := B) (by omega) hz7
            · exact hsc7
            · have l5 : st.length ≤ B := hB
              exact (d7.kept (D' := fun j => B ≤ j) ((Kept.refl.set (show B ≤ TB by omega)).set (show B ≤ B + 1 + 1 by omega)) (by omega) (by omega)).mono (by omega)
            · have k57 : Kept (Dn n g) st st7 := ⟨Nat.le_trans k05.1 k67.1, fun j c hj hc => k67.2 j c (fun q => q.elim hj fun q => by have := get_lt hc; omega) (k05.2 j c hj hc)⟩
              exact (k57.setNew (by omega)).setNew (by omega)
      · subst e2
        rw [List.length_map] at hH d9
        rw [List.take_length] at hH
        simp [frzW_dic hh]
        have hd := drawn_ok PO hN hcap gr pmL (h := H) (by rw [hH, hP]) hH2
        exact ⟨H, rfl, hd.1, hd.2, (d9.kept (D' := fun i => i = B + 1 + 1) Kept.refl.setN (by omega) (by omega)).mono (by omega), k9.setNew (by omega)⟩
end

end HT
end

section
set_option Elab.async false
set_option linter.all false
set_option maxRecDepth 100000
set_option maxHeartbeats 1000000
namespace HT
open PySem L2 Pd PySem.W
/-! ### the law's own walk -/
theorem law_script_sp {k : Nat} {st : Sto} {h : Home} {c : Call} {x : Scr} (e : scrOf h c = some x) : S (k + 1) 33 [.p (eHome h), .p (eC c)] st = .ok (.p (eScr x)) st := by
  obtain ⟨n, m⟩ := c
  unfold scrOf at e
  split at e
  · cases e
  · rename_i sv h1
    refine Ok.to_eq ?_
    rw [st_33]
    cases m with
    | none => cases e; simp [b_33, eO, oIsN, isNoneD, oIx_home h1]
    | some m =>
      simp only at e
      obtain ⟨d, h2, rfl⟩ := Option.map_eq_some_iff.mp e
      simp [b_33, eO, oIsN, isNoneD, oIx_home h1, oIx_tab h2]
theorem law_waited_sp {k : Nat} {st : Sto} {h : Home} (g : HomeOk h) {c : Call} {x : Scr} (e : scrOf h c = some x) :
    Ok (S (k + 2) 34 [.p (eHome h), .p (eC c)] st) fun w st' => ∃ l : List Call, w = .p (eCs l) ∧ l.Nodup ∧ l.length ≤ 30 ∧ (∀ d, d ∈ l ↔ Rch h c d) ∧ Ext st st' := by
  rw [st_34]
  simp [-Prod.forall, -List.mem_append, b_34, mkO_small (ds := []) (by simp), mkO_small (ds := [eC c]) (by simp)]
  have small := sizeLine_big (n := 1001) (by omega)
  refine while_ok (fun m en st' => ∃ met rest : List Call, (∃ o2 o4 o6, en = [some (.p (eHome h)), some (.p (eC c)), o2, some (.o st.length), o4, some (.o (st.length + 1)), o6]) ∧ st'[st.length]? = some (.lst (met.map eC)) ∧ st'[st.length + 1]? = some (.lst (rest.map eC)) ∧ Ext st st' ∧ met.Nodup ∧ (∀ d ∈ met, Rch h c d) ∧ (∀ d ∈ rest, d = c ∨ Rch h c d) ∧
      (∀ f y, (f = c ∨ f ∈ met) → scrOf h f = some y → f ∉ rest → ∀ d ∈ waitsOf y, d ∈ met) ∧ met.length ≤ 30 ∧ m = rest.length + (30 - met.length) ∧ m ≤ 31)
    (fun m en st' ⟨met, rest, ⟨o2, o4, o6, e1⟩, hm, hr, x1, nd, mm, mr, cl, l30, em, m31⟩ => ?_) 4096 31 _ _ ⟨[], [c], ⟨_, _, _, rfl⟩, by simp, by simp, Ext.app _, List.nodup_nil, by simp, by simp, fun f y hf hy hn => absurd (by rcases hf with rfl | hf; simp; cases hf) hn, by simp, by simp, by omega⟩ (by omega)
  · subst e1
    simp [-Prod.forall, -List.mem_append, mkL_small, oNe_calls hr]
    by_cases hz : rest = []
    · rw [if_pos hz]
      subst hz
      have clo : ∀ d, Rch h c d → d ∈ met := fun d rr => by
        induction rr with
        | base e' hd => exact cl c _ (.inl rfl) e' (by simp) _ hd
        | step _ e' hd ih => exact cl _ _ (.inr ih) e' (by simp) _ hd
      simp [-Prod.forall, frzW_lst hm]
      exact ⟨met, rfl, nd, l30, fun a => ⟨mm _, clo _⟩, x1.setNew (Nat.le_refl _)⟩
    · rw [if_neg hz]
      obtain ⟨ri, p, rfl⟩ := snoc_of_ne hz
      have hp := mr p (by simp)
      have hy : ∃ y, scrOf h p = some y := hp.elim (fun q => ⟨x, q ▸ e⟩) fun q => q.scr g
      obtain ⟨y, hy⟩ := hy
      have pr : ∀ d ∈ waitsOf y, Rch h c d := fun d hd => hp.elim (fun q => .base (q ▸ hy) hd) fun q => .step q hy hd
      simp [-Prod.forall, -List.mem_append, isLst_o hr, mPop_map (e := eC) hr, law_script_sp hy]
      have hm2 := get_set_ne (m := st.length + 1) (n := st.length) (c := .lst (ri.map eC)) (by omega) hm
      have hr2 := get_set (c := .lst (ri.map eC)) hr
      have x2 : Ext st (st'.set (st.length + 1) (.lst (ri.map eC))) := x1.setNew (by omega)
      generalize st'.set (st.length + 1) (.lst (ri.map eC)) = st2 at hm2 hr2 x2 ⊢
      have y4 := (g.scr hy).1
      have all30 : ∀ l : List Call, l.Nodup → (∀ d ∈ l, Rch h c d) → l.length ≤ 30 := fun l hn hl => Nat.le_trans (nodup_len l (allCalls h) hn fun d hd => let ⟨z, hz⟩ := (hl d hd).scr g; mem_allCalls hz) (allCalls_len g)
      simp at em
      refine forL_pre eStep y (fun pre en st3 => ∃ new : List Call, (∃ o2 o4 o6, en = [some (.p (eHome h)), some (.p (eC c)), o2, some (.o st.length), o4, some (.o (st.length + 1)), o6]) ∧ st3[st.length]? = some (.lst ((met ++ new).map eC)) ∧ st3[st.length + 1]? = some (.lst ((ri ++ new).map eC)) ∧ Ext st st3 ∧ (met ++ new).Nodup ∧ (∀ d ∈ new, d ∈ waitsOf y) ∧ (∀ d ∈ waitsOf pre, d ∈ met ++ new))
        (fun pre t post en st3 e3 ⟨new, ⟨o2, o4, o6, e1⟩, hm3, hr3, x3, nd3, nw, dn⟩ => ?_) (fun en st3 ⟨new, ⟨o2, o4, o6, e1⟩, hm3, hr3, x3, nd3, nw, dn⟩ => ?_) ⟨[], ⟨_, _, _, rfl⟩, by simpa using hm2, by simpa using hr2, x2, by simpa using nd, by simp, by simp [waitsOf]⟩
      · subst e1
        obtain ⟨tw, ta, tm⟩ := t
        have t1 : ∀ stq, mkT [.str ta, .str tm] stq = .ok (.p (eC (ta, some tm))) stq := fun stq => tup2 (m := some tm)
        have ew : ∀ q : Str, (decide (q = ("wait" : Str))) = decide (q = sWait) := fun q => rfl
        simp [-Prod.forall, t1, oIn_callsO _ hm3, -List.map_append, -List.mem_append]
        have wapp : waitsOf (pre ++ [(tw, ta, tm)]) = waitsOf pre ++ (if tw = sWait then [(ta, some tm)] else []) := by
          unfold waitsOf
          rw [List.filter_append, List.map_append]
          by_cases q : tw = sWait <;> simp [q]
        by_cases hw : tw = sWait
        · have hw' : tw = Str.ofString "wait" := hw
          rw [if_pos hw']
          have tin : (ta, some tm) ∈ waitsOf y := by
            rw [e3]
            unfold waitsOf
            simp [hw]
          by_cases hin : (ta, some tm) ∈ met ++ new
          · have hb : (!decide ((ta, some tm) ∈ met ++ new)) = false := by
              rw [decide_eq_true hin]; rfl
            simp only [hb, ok_ok, Bool.false_eq_true, if_false, turn_nx]
            refine ⟨⟨_, _, _, rfl⟩, new, hm3, hr3, x3, nd3, nw, fun d hd => ?_⟩
            rw [wapp, if_pos hw] at hd
            rcases List.mem_append.mp hd with q | q
            · exact dn _ q
            · rw [List.mem_singleton.mp q]; exact hin
          · have nd4 : (met ++ (new ++ [(ta, some tm)])).Nodup := by
              rw [← List.append_assoc]
              exact List.nodup_append.mpr ⟨nd3, by simp, fun a ha b hb => by simp at hb; subst hb; exact fun q => hin (q ▸ ha)⟩
            have l4 := all30 _ nd4 (fun d hd => by
              rcases List.mem_append.mp hd with q | q
              · exact mm d q
              · rcases List.mem_append.mp q with q | q
                · exact pr d (nw d q)
                · rw [List.mem_singleton.mp q]; exact pr _ tin)
            have ln : new.length ≤ 30 := by simp at l4; omega
            have ap1 := mAppend_map (x := (ta, some tm)) hm3 (by simp at l4 ⊢; omega)
            have hr4 := get_set_ne (m := st.length) (n := st.length + 1) (c := .lst ((met ++ new ++ [(ta, some tm)]).map eC)) (by omega) hr3
            have ap2 := mAppend_map (x := (ta, some tm)) hr4 (by simp; omega)
            have hb : (!decide ((ta, some tm) ∈ met ++ new)) = true := by
              rw [decide_eq_false hin]; rfl
            simp only [hb, ok_ok, if_true]
            simp [-Prod.forall, -List.mem_append, isLst_o hm3, ap1, isLst_o hr4, ap2, t1, -List.map_append, -List.append_assoc]
            refine ⟨new ++ [(ta, some tm)], ?_, ?_, (x3.setNew (Nat.le_refl _)).setNew (by omega), nd4, fun d hab => ?_, fun d hab => ?_⟩
            · have := get_set (c := .lst ((met ++ new ++ [(ta, some tm)]).map eC)) hm3
              simpa [List.append_assoc] using this
            · have := get_set (c := .lst ((ri ++ new ++ [(ta, some tm)]).map eC)) hr4
              simpa [List.append_assoc] using this
            · rcases List.mem_append.mp hab with q | q
              · exact nw _ q
              · rw [List.mem_singleton.mp q]; exact tin
            · rw [wapp, if_pos hw] at hab
              rcases List.mem_append.mp hab with q | q
              · rw [← List.append_assoc]
                exact List.mem_append_left _ (dn _ q)
              · rw [List.mem_singleton.mp q]; simp
        · have hw' : ¬ tw = Str.ofString "wait" := hw
          rw [if_neg hw']
          simp only [bind_ok, ok_ok, if_false, Bool.false_eq_true, turn_nx]
          refine ⟨⟨_, _, _, rfl⟩, new, hm3, hr3, x3, nd3, nw, ?_⟩
          rw [wapp, if_neg hw, List.append_nil]
          exact dn
      · subst e1
        have nall := all30 _ nd3 (fun d hd => by
          rcases List.mem_append.mp hd with q | q
          · exact mm d q
          · exact pr d (nw d q))
        have nall' : met.length + new.length ≤ 30 := by simpa using nall
        simp only [turn_nx]
        refine ⟨(ri ++ new).length + (30 - (met ++ new).length), by simp; omega, ⟨_, _, _, rfl⟩, met ++ new, hm3, ri ++ new, hr3, x3, nd3, fun d hd => ?_, fun d hd => ?_, fun f z hf hzz hn d hd => ?_, nall, rfl, by simp; omega⟩
        · rcases List.mem_append.mp hd with q | q
          · exact mm d q
          · exact pr d (nw d q)
        · rcases List.mem_append.mp hd with q | q
          · exact mr d (by simp [q])
          · exact .inr (pr d (nw d q))
        · by_cases hfp : f = p
          · subst hfp
            rw [hy] at hzz; cases hzz
            exact dn d hd
          · have hf2 : f = c ∨ f ∈ met := by
              rcases hf with q | q
              · exact .inl q
              · rcases List.mem_append.mp q with q | q
                · exact .inr q
                · exact absurd (List.mem_append_right _ q) hn
            exact List.mem_append_left _ (cl f z hf2 hzz (fun q => by
              rcases List.mem_append.mp q with q | q
              · exact hn (List.mem_append_left _ q)
              · exact hfp (List.mem_singleton.mp q)) d hd)

/-- what the law knows of the starts -/
structure StartsOk (h : Home) (T : List (Str × List Str)) : Prop where
  ks : T.map (fun p => p.1) = h.map fun p => p.1
  vs : ∀ p ∈ T, ∃ l : List Call, (∀ d, d ∈ l ↔ Rch h (p.1, none) d) ∧ p.2 = servs l
theorem allKeys_eD {α : Type} (f : α → PyData) {l : List (Str × α)} (h0 : l ≠ []) (hl : l.length ≤ 1000) : allKeys (eD f l) = true := by
  unfold allKeys
  rw [eD_all, eD_len]
  have : (eD f l).isEmpty = false := by
    cases l with
    | nil => exact absurd rfl h0
    | cons p r => rfl
  rw [this]
  simp only [Bool.not_false, Bool.true_and, decide_eq_true_eq]
  exact sizeLine_big (by omega)
theorem law_starts_new {k : Nat} {st : Sto} {h : Home} (g : HomeOk h) : Ok (S (k + 3) 35 [.p (eHome h)] st) fun w st' => ∃ m T, w = .o m ∧ st'[m]? = some (.dic (eD eStrs T)) ∧ StartsOk h T ∧ Ext st st' ∧ st.length ≤ m := by
  have h6 := g.ns.le
  have h1 := g.ns.pos
  rw [List.length_map] at h6 h1
  have h0 : h ≠ [] := fun q => by rw [q] at h1; simp at h1
  have it : itemsOf (.p (eHome h)) st = .ok ((h.map fun p => p.1).map .str) st := by
    have := itemsOf_dict (st := st) (allKeys_eD eServ h0 (by omega))
    rw [eD_keys] at this
    exact this
  rw [st_35]
  simp [-Prod.forall, b_35, it, -List.map_map]
  refine (lcL_ok (fun st' => Ext st st') PyData.str (fun _ => true) (fun x d => ∃ v, d = .tuple [.str x, eStrs v] ∧ ∃ l : List Call, (∀ d, d ∈ l ↔ Rch h (x, none) d) ∧ v = servs l) (h.map fun p => p.1) [] st (fun x hx st' x1 => ?_) .refl).mono fun ds st' ⟨l, e1, e2, x2⟩ => ?_
  · obtain ⟨s, hs⟩ := look_some hx
    have sc : scrOf h (x, none) = some s.2.1 := by simp [scrOf, hs]
    have t0 : mkT [.str x, .none] st' = .ok (.p (eC (x, none))) st' := tup2 (m := none)
    simp [-Prod.forall, t0]
    refine (law_waited_sp (k := k) g sc).mono fun w st2 ⟨l, hw, nd, l30, hl, x2⟩ => ?_
    subst hw
    simp [-Prod.forall]
    rw [lcL_all eC (fun c => .str c.1)]
    rotate_left
    · intro c hc
      exact ⟨_, rfl, rfl, by simp⟩
    have e5 : l.map (fun c => PyData.str c.1) = (l.map fun c => c.1).map .str := by simp
    rw [List.nil_append, e5]
    simp only [ok_ok, keepL_eq]
    rw [sort_set (by rw [List.length_map]; omega)]
    simp only [ok_ok, mkT_small (show [PyData.str x, eStrs (setOf (l.map fun c => c.1))].length ≤ 1000000 by simp)]
    exact ⟨_, rfl, ⟨_, rfl, l, hl, rfl⟩, x1.trans x2⟩
  · rw [List.filter_eq_self.mpr fun _ _ => rfl] at e2
    have key : ∀ (xs : List Str) (l : List PyData), Paired (fun x d => ∃ v, d = .tuple [.str x, eStrs v] ∧ ∃ l : List Call, (∀ d, d ∈ l ↔ Rch h (x, none) d) ∧ v = servs l) xs l → ∃ T : List (Str × List Str), l = T.map (fun p => .tuple [.str p.1, eStrs p.2]) ∧ T.map (fun p => p.1) = xs ∧ ∀ p ∈ T, ∃ l : List Call, (∀ d, d ∈ l ↔ Rch h (p.1, none) d) ∧ p.2 = servs l := by
      intro xs l p
      induction p with
      | nil => exact ⟨[], rfl, rfl, by simp⟩
      | @cons x d xs l hd _ ih =>
        obtain ⟨T, q1, q2, q3⟩ := ih
        obtain ⟨v, e, r⟩ := hd
        refine ⟨(x, v) :: T, by rw [e, q1]; rfl, by rw [List.map_cons, q2], fun p hp => ?_⟩
        rcases List.mem_cons.mp hp with rfl | hp
        · exact r
        · exact q3 p hp
    obtain ⟨T, q1, q2, q3⟩ := key _ _ e2
    rw [List.nil_append] at e1
    rw [e1, q1]
    have nd : (T.map fun p => p.1).Nodup := by rw [q2]; exact g.ns.nd
    have Tl : T.length ≤ 1000 := by
      have := congrArg List.length q2
      rw [List.length_map, List.length_map] at this; omega
    simp [-Prod.forall, cDictP_map eStrs nd Tl]
    exact ⟨T, by simp, ⟨q2, q3⟩, x2.trans (Ext.app _), x2.1⟩
theorem law_starts_sp {k : Nat} {st : Sto} {h : Home} (g : HomeOk h) : Ok (S (k + 3) 35 [.p (eHome h)] st) fun w st' => ∃ m T, w = .o m ∧ st'[m]? = some (.dic (eD eStrs T)) ∧ StartsOk h T ∧ Ext st st' :=
  (law_starts_new g).mono fun _ _ ⟨m, T, e1, e2, e3, e4, _⟩ => ⟨m, T, e1, e2, e3, e4⟩

end HT
end

section
set_option Elab.async false
set_option linter.all false
set_option maxRecDepth 100000
set_option maxHeartbeats 1000000
namespace HT
open PySem L2 Pd PySem.W
/-! ### calmed houses -/
section
variable {n g T : Nat} {st : Sto}
theorem calm_sp {k : Nat} (D : Draw n g T st) (hT : T + 10 ≤ 2 ^ 40) {h : Home} (gh : HomeOk h) {sz : Call → Nat} (z : Sized h sz) : Ok (S (k + 4) 38 [.o n, .p (eHome h)] st) fun w st' => ∃ h', w = .p (eHome h') ∧ HomeOk h' ∧ (∃ sz, Sized h' sz) ∧ Draw n g (T + 10) st' ∧ Kept (Dn n g) st st' := by
  obtain ⟨ln, lg⟩ := D.lt
  have h6 := gh.ns.le
  rw [List.length_map] at h6
  have e3 : mkL ((h.map (·.1)).map .str) st = .ok (.p (.list ((h.map (·.1)).map .str))) st := mkL_small (by simp; omega)
  rw [st_38]
  simp [-Prod.forall, b_38, e3, -List.map_map]
  refine (shuffled_sp plainStr (k := k) D (xs := h.map (·.1)) (by simp; omega) (by simp; omega)).mono fun w st1 ⟨ns, pm, hw, d1, k1⟩ => ?_
  subst hw
  have pl := pm.length_eq
  rw [List.length_map] at pl
  simp [-Prod.forall, two_le]
  have c1 : (st1 ++ [Cell.dic []])[st1.length]? = some (.dic (eD eServ [])) := by simp
  have d2 : Draw n g (T + 10) (st1 ++ [Cell.dic []]) := (d1.ext (Ext.app _)).mono (by simp; omega)
  have k2 : Kept (Dn n g) st (st1 ++ [Cell.dic []]) := k1.app _
  have l1 : st.length ≤ st1.length := k1.1
  generalize st1 ++ [Cell.dic []] = st2 at c1 d2 k2 ⊢
  generalize st1.length = B at c1 l1 ⊢
  refine forL_enum (ns.map .str) (fun i en st3 => ∃ H : Home, (∃ o2 o3 o4 o6 o8 o9 o10 o11 o12 o13, en = [some (.o n), some (.p (eHome h)), o2, o3, o4, some (.o B), o6, some (.p (.list (ns.map .str))), o8, o9, o10, o11, o12, o13]) ∧ H.map (fun p => p.1) = ns.take i ∧ (∀ p ∈ H, ∃ s, look h p.1 = some s ∧ p.2.1 = s.1 ∧ p.2.2.2 = s.2.2 ∧ p.2.2.1.length ≤ 4 ∧ (∀ t ∈ p.2.2.1, t ∈ s.2.1) ∧ ((waitsOf p.2.2.1).Sublist (waitsOf s.2.1))) ∧ st3[B]? = some (.dic (eD eServ H)) ∧ Draw n g (T + 10) st3 ∧ Kept (Dn n g) st st3)
    (fun i e en st3 he ⟨H, ⟨o2, o3, o4, o6, o8, o9, o10, o11, o12, o13, e2⟩, hH, hH2, c3, d3, k3⟩ => ?_) (fun en st3 ⟨H, ⟨o2, o3, o4, o6, o8, o9, o10, o11, o12, o13, e2⟩, hH, hH2, c3, d3, k3⟩ => ?_) ⟨[], ⟨_, _, _, _, _, _, _, _, _, _, rfl⟩, rfl, by simp, c1, d2, k2⟩
  · subst e2
    rw [List.getElem?_map] at he
    obtain ⟨x, hx, rfl⟩ := Option.map_eq_some_iff.mp he
    have hi : i < ns.length := (List.getElem?_eq_some_iff.mp hx).1
    have hxm : x ∈ h.map (·.1) := pm.mem_iff.mp (List.mem_of_getElem? hx)
    obtain ⟨s, hs⟩ := look_some hxm
    have gs := gh.sv _ (look_mem hs)
    have gst : ScrOk h s.2.1 := gs.st
    simp [-Prod.forall, oIx_home hs, mkO_small (ds := []) (by simp)]
    have c4 := get_app [Cell.lst []] c3
    have s4 : (st3 ++ [Cell.lst []])[st3.length]? = some (.lst (([] : Scr).map eStep)) := by simp
    have d4 : Draw n g (T + 10) (st3 ++ [Cell.lst []]) := d3.ext (Ext.app _)
    have k4 : Kept (Dn n g) st (st3 ++ [Cell.lst []]) := k3.app _
    have hB := get_lt c3
    generalize st3 ++ [Cell.lst []] = st4 at c4 s4 d4 k4 ⊢
    generalize st3.length = R at s4 hB ⊢
    refine forL_pre eStep s.2.1 (fun pre en st5 => ∃ b : Scr, (∃ o4 o8 o12 o13, en = [some (.o n), some (.p (eHome h)), some (.p (.int i)), some (.p (eScr s.2.1)), o4, some (.o B), some (.p (.str x)), some (.p (.list (ns.map .str))), o8, some (.o R), some (.p (eTab s.2.2)), some (.p (eI s.1)), o12, o13]) ∧ b.length ≤ pre.length ∧ (∀ t ∈ b, t ∈ pre) ∧ ((waitsOf b).Sublist (waitsOf pre)) ∧ st5[B]? = some (.dic (eD eServ H)) ∧ st5[R]? = some (.lst (b.map eStep)) ∧ Draw n g (T + 10) st5 ∧ Kept (Dn n g) st st5)
      (fun pre t post en st5 e1 ⟨b, ⟨o4, o8, o12, o13, e2⟩, bl, bs, bw, c5, s5, d5, k5⟩ => ?_) (fun en st5 ⟨b, ⟨o4, o8, o12, o13, e2⟩, bl, bs, bw, c5, s5, d5, k5⟩ => ?_) ⟨[], ⟨_, _, _, _, rfl⟩, by simp, by simp, List.Sublist.refl _, c4, s4, d4, k4⟩
    · subst e2
      have tm : t ∈ s.2.1 := by rw [e1]; simp
      obtain ⟨_, sv, m, l1', l2'⟩ := gst.2 t tm
      have sc : scrOf h (t.2.1, some t.2.2) = some m.2 := by simp [scrOf, l1', l2']
      have cut : oSl (.p (eStep t)) (some 1) none st5 = .ok (.p (eC (t.2.1, some t.2.2))) st5 := by
        show Res.ok (Pd.W.p (.tuple (cutD [PyData.str t.1, .str t.2.1, .str t.2.2] (some 1) none))) st5 = _
        have := cutD_drop [PyData.str t.1, .str t.2.1, .str t.2.2] 1
        simp only [Int.natCast_one] at this
        rw [this]; rfl
      have hpre : pre.length < s.2.1.length := by
        have := congrArg List.length e1
        simp at this; omega
      have hs4 := gst.1
      simp [-Prod.forall, mkL_small, cut]
      refine (law_waited_sp (k := k + 1) gh sc).mono fun w st6 ⟨l, hw, nd, l30, hl, x6⟩ => ?_
      subst hw
      simp [-Prod.forall]
      rw [lcL_all eC (fun c => .str c.1)]
      rotate_left
      · intro c hc
        exact ⟨_, rfl, rfl, by simp⟩
      have e5 : (PyData.str t.2.1 :: l.map fun c => PyData.str c.1) = (t.2.1 :: l.map fun c => c.1).map .str := by simp
      have e6 : mkL ([PyData.str t.2.1] ++ l.map fun c => PyData.str c.1) st6 = .ok (.p (.list ((t.2.1 :: l.map fun c => c.1).map .str))) st6 := by
        rw [List.singleton_append, e5]; exact mkL_small (by simp; omega)
      have ew : ∀ q : Str, decide (q = ("post" : Str)) = decide (q = sPost) := fun q => rfl
      simp only [List.nil_append, keepL_eq, ok_ok, oAdd, val_list, e6]
      have c6 := x6.get c5
      have s6 := x6.get s5
      have d6 : Draw n g (T + 10) st6 := d5.ext x6
      have k6 := k5.trans x6.to
      have tk : ∀ q stq, (oSl (.p (.list (ns.map .str))) none (some (i : Int)) stq).bind (fun w st => oIn true (.p (.str q)) w st) = .ok (.p (.bool (!decide (q ∈ ns.take i)))) stq := fun q stq => oIn_seqTake (neg := true) (ds := ns.map .str) rfl (by rw [List.map_take])
      have small := sizeLine_big (n := 100) (by omega)
      have ap := mAppend_map (x := t) s6 (by omega)
      have fin : ∀ stq, stq = st6 ∨ stq = st6.set R (.lst ((b ++ [t]).map eStep)) → (∃ b' : Scr, b'.length ≤ (pre ++ [t]).length ∧ (∀ u ∈ b', u ∈ pre ++ [t]) ∧ ((waitsOf b').Sublist (waitsOf (pre ++ [t]))) ∧ stq[B]? = some (.dic (eD eServ H)) ∧ stq[R]? = some (.lst (b'.map eStep)) ∧ Draw n g (T + 10) stq ∧ Kept (Dn n g) st stq) := by
        intro stq hq
        have wapp : ∀ y : Scr, waitsOf (y ++ [t]) = waitsOf y ++ waitsOf [t] := fun y => by simp [waitsOf]
        rcases hq with rfl | rfl
        · refine ⟨b, by simp; omega, fun u hu => List.mem_append_left _ (bs u hu), ?_, c6, s6, d6, k6⟩
          rw [wapp]; exact bw.trans (List.sublist_append_left _ _)
        · refine ⟨b ++ [t], by simp; omega, fun u hu => ?_, ?_, get_set_ne (by omega) c6, get_set s6, d6.kept (D' := fun j => j = R) Kept.refl.setN (by omega) (by omega), k6.setNew (by omega)⟩
          · rcases List.mem_append.mp hu with q | q
            · exact List.mem_append_left _ (bs u q)
            · exact List.mem_append_right _ q
          · rw [wapp, wapp]; exact List.Sublist.append bw (List.Sublist.refl _)
      simp [-Prod.forall, -List.map_cons, -List.map_map]
      refine Ok.mono (Q := fun _ st7 => st7 = st6) ?_ ?_
      · by_cases hp : t.1 = Str.ofString "post"
        · rw [if_pos hp]; simp
        · rw [if_neg hp]
          simp only [ok_asB, ok_bind]
          rw [lcL_map PyData.str (fun q => !decide (q ∈ ns.take i)) PyData.str]
          rotate_left
          · intro q hq
            refine ⟨_, rfl, ?_, fun _ => rfl⟩
            simp only [sT_eq, sB_eq, sVar_eq, List.getElem?_cons_succ, List.getElem?_cons_zero, List.set_cons_succ, List.set_cons_zero, varOf_some, bind_ok, sSl_eq, oNone_eq, oSome_eq, bndOf_int]
            rw [tk]; rfl
          simp only [List.nil_append, keepL_eq, ok_ok, oEq_strsP, boolOf_bool]
      · rintro bb st7 rfl
        cases bb with
        | false =>
          obtain ⟨b', q1, q2, q3, q4, q5, q6, q7⟩ := fin _ (.inl rfl)
          simp only [Bool.false_eq_true, if_false, ok_ok, turn_nx]
          exact ⟨⟨_, _, _, _, rfl⟩, b', by simpa using q1, by simpa using q2, q3, q4, q5, q6, q7⟩
        | true =>
          obtain ⟨b', q1, q2, q3, q4, q5, q6, q7⟩ := fin _ (.inr rfl)
          simp only [isLst_o s6, ap, if_true, bind_ok, ok_ok, turn_nx]
          exact ⟨⟨_, _, _, _, rfl⟩, b', by simpa using q1, by simpa using q2, q3, q4, q5, q6, q7⟩
    · subst e2
      have hs4 := gst.1
      have t2 : cTupOf [.o R] st5 = .ok (.p (eScr b)) st5 := by
        simp only [cTupOf, val_lst s5]
        exact mkT_small (by simp; omega)
      have t3 : mkT [eI s.1, eScr b, eTab s.2.2] st5 = .ok (.p (eServ (s.1, b, s.2.2))) st5 := mkT_small (by simp)
      have nx : x ∉ H.map (fun p => p.1) := by
        rw [hH]
        intro q
        have nd := pm.nodup_iff.mpr gh.ns.nd
        rw [← List.take_append_drop i ns, List.drop_eq_getElem_cons hi, (List.getElem?_eq_some_iff.mp hx).2] at nd
        exact (List.nodup_append.mp nd).2.2 x q x List.mem_cons_self rfl
      have Hl : H.length ≤ 6 := by
        have := congrArg List.length hH
        rw [List.length_map, List.length_take] at this; omega
      have pu := oPut_dic eServ (a := (s.1, b, s.2.2)) c5 (by omega) nx
      simp only [seq_nx, ok_ok, ok_bind, ok_sSeq, sPut_eq, sDisp_eq, sCons_eq, sNil_eq, sVar_eq, sCall_eq, List.getElem?_cons_succ, List.getElem?_cons_zero, varOf_some, bind_ok, t2, plains_p, plains_nil, Option.map_some, dispOf_some, t3, pu, nxt_some, turn_nx]
      refine ⟨⟨_, _, _, _, _, _, _, _, _, _, rfl⟩, H ++ [(x, (s.1, b, s.2.2))], ?_, fun p hp => ?_, get_set c5, d5.kept (D' := fun j => j = B) Kept.refl.setN (by omega) (by omega), k5.setNew (by omega)⟩
      · rw [List.map_append, hH, take_snoc hx]; rfl
      · rcases List.mem_append.mp hp with hp | hp
        · obtain ⟨s0, q⟩ := hH2 p hp
          exact ⟨s0.1, s0.2.1, s0.2.2, q⟩
        · rw [List.mem_singleton.mp hp]
          exact ⟨s.1, s.2.1, s.2.2, hs, rfl, rfl, by simp; omega, fun t ht => bs t ht, bw⟩
  · subst e2
    rw [List.length_map] at hH
    rw [List.take_length] at hH
    simp [-Prod.forall, frzW_dic c3]
    have cal : Calmed h H := ⟨by rw [hH]; exact pm, fun a b hab => hH2 _ hab⟩
    have ok := calmed_ok gh z cal
    exact ⟨H, rfl, ok.1, ok.2, d3.kept (D' := fun j => j = B) Kept.refl.setN (by omega) (by omega), k3.setNew (by omega)⟩
end
section
variable {n g T : Nat} {st : Sto}
theorem drawn_sp {k : Nat} (D : Draw n g T st) (hT : T + 1100 ≤ 2 ^ 40) {M N cap : Nat} (hM1 : 1 ≤ M) (hM : M ≤ 6) (hN1 : 1 ≤ N) (hN : N ≤ 4) (hcap : cap ≤ 30) :
    Ok (S (k + 6) 39 [.o n, .p (.int M), .p (.int N), .p (.int cap)] st) fun w st' => ∃ h, w = .p (eHome h) ∧ HomeOk h ∧ (∃ sz, Sized h sz) ∧ Draw n g (T + 1100) st' ∧ Kept (Dn n g) st st' := by
  rw [st_39]
  simp [-Prod.forall, b_39]
  refine (home_sp (k := k) D (by omega) hM1 hM hN1 hN hcap).mono fun w st1 ⟨h, hw, gh, ⟨sz, z⟩, d1, k1⟩ => ?_
  subst hw
  refine (take_sp (k := k + 3) d1 (by omega) (z := 3) (by omega) (by omega)).mono fun w st2 ⟨v, hw, hv, d2, k2⟩ => ?_
  subst hw
  simp [-Prod.forall]
  by_cases h0 : v = 0
  · rw [if_pos h0]
    simp [-Prod.forall]
    exact ⟨h, rfl, gh, ⟨sz, z⟩, d2.mono (by omega), k1.trans k2⟩
  · rw [if_neg h0]
    refine (calm_sp (k := k + 1) d2 (by omega) gh z).mono fun w st3 ⟨h', hw, gh', z', d3, k3⟩ => ?_
    subst hw
    simp [-Prod.forall]
    exact ⟨h', rfl, gh', z', d3.mono (by omega), k1.trans (k2.trans k3)⟩
end

end HT
end

section
set_option Elab.async false
set_option linter.all false
set_option maxRecDepth 100000
set_option maxHeartbeats 1000000
namespace HT
open PySem L2 Pd PySem.W
/-! ### a name that is absent -/
section
variable {n g T : Nat} {st : Sto}
theorem absent_sp {k : Nat} {xs : List Str} (hl : xs.length ≤ 25) : ∃ y, NameOk y ∧ y ∉ xs ∧ S (k + 1) 40 [.p (.list (xs.map .str))] st = .ok (.p (.str y)) st := by
  have fl := free_name hl
  cases hf : (List.range' 97 26).filter (fun c => !decide (Txt.mul (one c) 8 ∈ xs)) with
  | nil => exact absurd hf fl
  | cons c r =>
    have hc : c ∈ (List.range' 97 26).filter (fun c => !decide (Txt.mul (one c) 8 ∈ xs)) := by rw [hf]; simp
    rw [List.mem_filter, List.mem_range'] at hc
    obtain ⟨⟨q, hq, hq2⟩, hn⟩ := hc
    refine ⟨Txt.mul (one c) 8, nameOk_mul8 (by omega), by simpa using hn, ?_⟩
    refine Ok.to_eq ?_
    rw [st_40]
    have is : itemsOf (.p (.str "abcdefghijklmnopqrstuvwxyz")) st = .ok ((List.range' 97 26).map fun c => .str (one c)) st := by
      rw [← signs_alpha]
      exact itemsOf_str (sizeLine_big (by have := alpha_len; show alpha.length ≤ _; omega))
    have mu : ∀ c stq, oMul (.p (.str (one c))) (.p (.int 8)) stq = .ok (.p (.str (Txt.mul (one c) 8))) stq := fun c stq => rfl
    simp [b_40, is]
    rw [lcL_map (fun c => PyData.str (one c)) (fun c => !decide (Txt.mul (one c) 8 ∈ xs)) (fun c => PyData.str (Txt.mul (one c) 8))]
    rotate_left
    · intro c hc
      exact ⟨_, rfl, by simp [mu, oIn_strs], fun _ => by simp [mu]⟩
    rw [hf]
    have e1 : atI ((c :: r).map fun c => PyData.str (Txt.mul (one c) 8)) 0 = some (.str (Txt.mul (one c) 8)) := atIN _ 0
    simp only [List.nil_append, keepL_eq, ok_ok, oIx_list e1, retF_rt]
    exact ⟨trivial, trivial⟩
end

end HT
end

section
set_option Elab.async false
set_option linter.all false
set_option maxRecDepth 100000
set_option maxHeartbeats 1000000
namespace HT
open PySem L2 Pd PySem.W
/-! ### lists of services -/
section
variable {st : Sto} {n a b c : Nat} {h : Home} {W : List (Call × List Call)}
theorem startsL_keys : (startsL h W).map (fun p => p.1) = h.map fun p => p.1 := by simp [startsL]
theorem are_services_sp {k : Nat} (H : HallAt st n a b c h W) {d : PyData} (hd : fine d) (hb : ∀ ds, seqOf d = some ds → ds.length < 4000) :
    S (k + 1) 17 [.o n, .p d] st = .ok (.p (.bool (areB (h.map fun p => p.1) d))) st := by
  refine Ok.to_eq ?_
  rw [st_17]
  simp [b_17, val_ok hd.1, isD_seq]
  unfold areB
  cases hs : seqOf d with
  | none => simp
  | some ds =>
    have fd := hd.2 ds hs
    rw [if_neg (by simp)]
    simp only [Option.isSome_some, if_true, ok_ok, seq_nx, ok_sSeq, sIfS_eq, ok_bind, sNot_eq, sT_eq, ok_asB, sCall_eq, sCons_eq, sLc_eq, sItems_eq, sVar_eq, List.getElem?_cons_succ, List.getElem?_cons_zero, varOf_some, bind_ok, itemsOf_seq hs, wipeE_cons, wipeE_nil, List.set_cons_succ, List.set_cons_zero, Bool.true_eq_false, if_false]
    rw [lcL_mapD (fun _ => true) (fun e => .bool (servB (h.map fun p => p.1) e))]
    rotate_left
    · intro e he
      refine ⟨_, rfl, rfl, fun _ => ?_⟩
      have de := fd e he
      simp [val_ok de]
      cases e with
      | str x => simp [fldOf_o H.obj (lk_parts _ _ _), oIn_dic eServ x H.parts, servB, -List.mem_map]
      | _ => simp [servB]
    rw [List.filter_eq_self.mpr fun _ _ => rfl]
    simp only [List.nil_append, ok_ok, keepL_eq, cAll_all, boolOf_bool, sNil_eq, bind_ok]
    cases e3 : strsOf ds with
    | none =>
      have : ds.all (servB (h.map fun p => p.1)) = false := by
        cases e4 : ds.all (servB (h.map fun p => p.1)) with
        | false => rfl
        | true =>
          exfalso
          rw [List.all_eq_true] at e4
          have : ∀ l : List PyData, (∀ e ∈ l, servB (h.map fun p => p.1) e = true) → ∃ xs, strsOf l = some xs := by
            intro l
            induction l with
            | nil => intro _; exact ⟨[], rfl⟩
            | cons e l ih =>
              intro hh
              obtain ⟨xs, hx⟩ := ih fun y hy => hh y (List.mem_cons_of_mem _ hy)
              have := hh e List.mem_cons_self
              cases e with
              | str x => exact ⟨x :: xs, by rw [strsOf, hx]; rfl⟩
              | _ => simp [servB] at this
          obtain ⟨xs, hx⟩ := this ds e4
          rw [hx] at e3; cases e3
      rw [this]; simp
    | some xs =>
      have e4 := strsOf_some e3
      have e5 : ds.all (servB (h.map fun p => p.1)) = xs.all fun x => decide (x ∈ h.map fun p => p.1) := by
        rw [e4, List.all_map]; rfl
      rw [e5]
      simp only
      cases e6 : xs.all fun x => decide (x ∈ h.map fun p => p.1) with
      | false => simp
      | true =>
        have hl := hb ds hs
        rw [e4, List.length_map] at hl
        simp [lenSet_seq (e4 ▸ hs) hl, cLen_seq hs, oEq, eqv_int, -List.mem_map]
        rw [e4, List.length_map]
        have : ((dedup xs).length : Int) = (xs.length : Int) ↔ xs.Nodup := by
          rw [← dedup_len]; omega
        simp [this]
end

end HT
end

section
set_option Elab.async false
set_option linter.all false
set_option maxRecDepth 100000
set_option maxHeartbeats 1000000
namespace HT
open PySem L2 Pd PySem.W
/-! ### the state of the draws; what is shown -/
theorem begun_sp {k : Nat} {st : Sto} {ns : List Int} (hn : ns.length ≤ 63) : Ok (S (k + 1) 25 [.s ns] st) fun w st' => ∃ n g, w = .o n ∧ Draw n g 0 st' ∧ Ext st st' := by
  rw [st_25]
  have it : itemsOf (.s ns) st = .ok (ns.map .int) st := itemsOf_scr (sizeLine_big (by omega))
  have pw : ∀ stq, oPow (.p (.int 10)) (.p (.int 18)) stq = .ok (.p (.int 1000000000000000000)) stq := fun stq => oPow_int (by omega) (by omega) (by decide)
  simp [b_25, it]
  rw [lcL_map PyData.int (fun i => decide (1000000000000000000 ≤ i)) (fun i => .int (i - 1000000000000000000))]
  rotate_left
  · intro i hi
    exact ⟨_, rfl, by simp [pw, oCI], fun _ => by simp [pw]⟩
  have ml : ∀ stq, mkL (ns.map PyData.int) stq = .ok (.p (.list (ns.map .int))) stq := fun stq => mkL_small (by simp; omega)
  simp [cListB_scr, ml, -Nat.reducePow]
  generalize hf : ns.filter (fun i => decide (1000000000000000000 ≤ i)) = fs
  have fl : fs.length ≤ 63 := by rw [← hf]; exact Nat.le_trans (List.length_filter_le _ _) hn
  have e1 : fs.map (fun i => PyData.int (i - 1000000000000000000)) = (fs.map fun i => i - 1000000000000000000).map .int := by simp
  rw [e1, draw_new]
  simp only [newRcd_some, ok_ok]
  refine ⟨_, rfl, ⟨st.length, ns, fs.map fun i => i - 1000000000000000000, 0, 0, ?_, ?_, by omega, by omega, hn, by simpa using fl, by simp⟩, Kept.app (Ext.app _) _⟩
  · simp
  · simp
theorem cRepr_p {st : Sto} {d : PyData} (h : dOk d = true) (s : showOk d = true) : cRepr [.p d] st = .ok (.p (.str d.shown)) st := by
  simp only [cRepr, val_ok h, s, if_true, retS_eq]
theorem cRepr_o {st : Sto} {n : Nat} {ds : List PyData} (h : st[n]? = some (.lst ds)) (s : showOk (.list ds) = true) : cRepr [.o n] st = .ok (.p (.str (PyData.list ds).shown)) st := by
  simp only [cRepr, val_lst h, s, if_true, retS_eq]
theorem oNe_str {st : Sto} (i j : Str) : oNe (.p (.str i)) (.p (.str j)) st = .ok (.p (.bool (!decide (i = j)))) st := by
  simp only [oNe, val_str, okD_str, Bool.and_self, if_true, eqv_str, retB_eq]
theorem forL_D {tg : SemG} {b : SemS} {Q : Fl → Sto → Prop} (all : List PyData) (I : List PyData → En → Sto → Prop)
    (step : ∀ pre x post en st, all = pre ++ x :: post → I pre en st → Ok (tg (.p x) en st) fun en1 st1 => Ok (b en1 st1) (Pd.Turn (I (pre ++ [x])) Q)) (done : ∀ en st, I all en st → Q (.nx en) st) {en : En} {st : Sto} (h : I [] en st) :
    Ok (forL tg b all en st) Q := by
  have := forL_pre (tg := tg) (b := b) (Q := Q) id all I step done h
  rw [List.map_id] at this
  exact this
theorem oAdd_list {st : Sto} (a b : List PyData) : oAdd (.p (.list a)) (.p (.list b)) st = mkL (a ++ b) st := rfl

end HT
end

section
set_option Elab.async false
set_option linter.all false
set_option maxRecDepth 100000
set_option maxHeartbeats 1000000
namespace HT
open PySem L2 Pd PySem.W
/-! ### the greatest closed set, by the program and by the law -/
section
variable {st : Sto} {m : Nat} {T : List (Str × List Str)} {ks l : List Str} {N : Str → Str → Prop}
theorem needs_one_sp {k : Nat} (hT : st[m]? = some (.dic (eD eStrs T))) {x : Str} {v : List Str} (hx : look T x = some v) (l : List Str) : S (k + 1) 18 [.o m, .p (.str x), .p (.list (l.map .str))] st = .ok (.p (.bool (nd1 T l x))) st := by
  refine Ok.to_eq ?_
  rw [st_18]
  simp [b_18, oIx_dic eStrs hT hx]
  rw [lcL_all PyData.str (fun y => .bool (decide (y ∈ l)))]
  rotate_left
  · intro y hy
    exact ⟨_, rfl, rfl, by simp [oIn_strs]⟩
  simp [cAll_map, nd1, hx]
theorem is_closed_sp {k : Nat} (hT : st[m]? = some (.dic (eD eStrs T))) (h : NeedT ks N T) (hl : ∀ x ∈ l, x ∈ ks) : S (k + 2) 20 [.o m, .p (.list (l.map .str))] st = .ok (.p (.bool (l.all (nd1 T l)))) st := by
  refine Ok.to_eq ?_
  rw [st_20]
  simp [b_20]
  rw [lcL_all PyData.str (fun y => .bool (nd1 T l y))]
  rotate_left
  · intro y hy
    obtain ⟨v, hv, _⟩ := h.get (hl y hy)
    exact ⟨_, rfl, rfl, by simp [needs_one_sp hT hv]⟩
  simp [cAll_map]
theorem greatest_sp {k : Nat} (hT : st[m]? = some (.dic (eD eStrs T))) (h : NeedT ks N T) (h6 : T.length ≤ 60) :
    Ok (S (k + 3) 21 [.o m] st) fun w st' => st' = st ∧ ∃ l : List Str, w = .p (.list (l.map .str)) ∧ (l = [] ↔ Cured ks N) := by
  have e3 : mkL ((T.map (·.1)).map .str) st = .ok (.p (.list ((T.map (·.1)).map .str))) st := mkL_small (by simp; omega)
  rw [st_21]
  simp [b_21, cListB_dic eStrs hT, e3, -List.map_map]
  rw [sorted_strs (n := m) (by simp; omega)]
  simp [-List.map_map]
  refine while_ok (fun q en st' => st' = st ∧ ∃ l : List Str, (∃ o2, en = [some (.o m), some (.p (.list (l.map .str))), o2]) ∧ Big ks N l ∧ l.length = q) (fun q en st' ⟨e1, l, ⟨o2, e2⟩, b, hq⟩ => ?_) 4096 T.length _ _
    ⟨rfl, srtS (T.map (·.1)), ⟨_, rfl⟩, Big.all fun x => by rw [mem_srtS]; exact h.ks x, by rw [srtS_len]; simp⟩ (by omega)
  subst e1 e2
  have ic := is_closed_sp (k := k) hT h b.sub
  cases hc : l.all (nd1 T l) with
  | true =>
    rw [hc] at ic
    simp [ic]
    exact ⟨l, rfl, b.done h fun x hx => List.all_eq_true.mp hc x hx⟩
  | false =>
    rw [hc] at ic
    simp [ic]
    rw [lcL_map PyData.str (nd1 T l) PyData.str]
    rotate_left
    · intro y hy
      obtain ⟨v, hv, _⟩ := h.get (b.sub y hy)
      exact ⟨_, rfl, by simp [needs_one_sp (k := k + 1) hT hv], fun _ => by simp⟩
    simp
    have := filter_len_lt hc
    exact ⟨_, by rw [← hq]; exact this, l.filter (nd1 T l), rfl, b.step h, rfl⟩
theorem law_stuck_sp {k : Nat} (h : NeedT ks N T) (h6 : T.length ≤ 60) :
    Ok (S (k + 1) 37 [.p (.dict (eD eStrs T))] st) fun w st' => st' = st ∧ ∃ l : List Str, w = .p (.list (l.map .str)) ∧ (l = [] ↔ Cured ks N) := by
  have e3 : mkL ((T.map (·.1)).map .str) st = .ok (.p (.list ((T.map (·.1)).map .str))) st := mkL_small (by simp; omega)
  rw [st_37]
  simp [b_37, cListB_eD, e3, -List.map_map]
  rw [sorted_strs (n := 0) (by simp; omega)]
  simp [-List.map_map, two_le]
  refine while_ok (fun q en st' => st' = st ∧ ∃ (l : List Str) (i : Int), (∃ o3 o4, en = [some (.p (.dict (eD eStrs T))), some (.p (.list (l.map .str))), some (.p (.int i)), o3, o4]) ∧ Big ks N l ∧
      (i = l.length → ∀ x ∈ l, nd1 T l x = true) ∧ q = if i = l.length then 0 else l.length + 1) (fun q en st' ⟨e1, l, i, ⟨o3, o4, e2⟩, b, hi, hq⟩ => ?_) 4096 (T.length + 1) _ _
    ⟨rfl, srtS (T.map (·.1)), -1, ⟨_, _, rfl⟩, Big.all fun x => by rw [mem_srtS]; exact h.ks x, fun q => by omega, by rw [if_neg (by omega), srtS_len]; simp⟩ (by omega)
  subst e1 e2
  simp [cLen_list, oNe, eqv_int]
  by_cases hz : i = (l.length : Int)
  · simp [hz]
    exact ⟨l, rfl, b.done h (hi hz)⟩
  · rw [if_neg hz] at hq
    simp [hz]
    rw [lcL_map PyData.str (nd1 T l) PyData.str]
    rotate_left
    · intro y hy
      obtain ⟨v, hv, _⟩ := h.get (b.sub y hy)
      refine ⟨_, rfl, ?_, fun _ => by simp⟩
      simp [oIx_eD eStrs hv]
      rw [lcL_map PyData.str (fun z => decide (z ∈ l)) PyData.str]
      rotate_left
      · intro z hz
        exact ⟨_, rfl, by simp [oIn_strs], fun _ => by simp⟩
      simp [mkL_small, oNe_strsP, nd1, hv]
      rw [Bool.eq_iff_iff]
      simp
    simp
    refine ⟨_, ?_, l.filter (nd1 T l), l.length, ⟨rfl, rfl⟩, b.step h, fun q => ?_, rfl⟩
    · rw [hq]
      have := List.length_filter_le (nd1 T l) l
      split <;> omega
    · have e : l.filter (nd1 T l) = l := by
        refine List.Sublist.eq_of_length List.filter_sublist ?_
        omega
      rw [e]
      exact filter_len_all (by rw [e])
end

end HT
end

section
set_option Elab.async false
set_option linter.all false
set_option maxRecDepth 100000
set_option maxHeartbeats 1000000
namespace HT
open PySem L2 Pd PySem.W
/-! ### cures, by the program -/
section
variable {st : Sto} {n a b c : Nat} {h : Home} {W : List (Call × List Call)}
def needsT (h : Home) (W : List (Call × List Call)) : List (Str × List Str) := h.map fun p => (p.1, setOf (needsL h W p.1))
theorem look_pairs {α : Type} (f : Str → α) : ∀ (xs : List Str) (x : Str), x ∈ xs → look (xs.map fun x => (x, f x)) x = some (f x)
  | y :: xs, x, hx => by
    by_cases e : y = x
    · subst e; simp [look]
    · rw [List.map_cons, look, if_neg (by simpa using e)]
      exact look_pairs f xs x ((List.mem_cons.mp hx).resolve_left fun z => e z.symm)
theorem needsT_eq : needsT h W = (h.map fun p => p.1).map fun x => (x, setOf (needsL h W x)) := by simp [needsT]
theorem startsL_eq : startsL h W = (h.map fun p => p.1).map fun x => (x, servs ((lookC W (x, none)).getD [])) := by simp [startsL]
theorem needs_table_sp {k : Nat} (g : HomeOk h) (H : HallAt st n a b c h W) : S (k + 1) 19 [.o n] st = .ok (.o st.length) (st ++ [.dic (eD eStrs (needsT h W))]) := by
  have h6 := g.ns.le
  refine Ok.to_eq ?_
  rw [st_19]
  simp [b_19, fldOf_o H.obj (lk_names _ _), -List.map_map]
  have key := fold_dputK eStrs (fun x => setOf (needsL h W x)) (fun x => eStrs (setOf (needsL h W x))) (h.map (·.1)) [] (fun _ _ => rfl) g.ns.nd (by simp) (by simp at h6 ⊢; omega)
  refine (dcL_ok (fun st' => st' = st) dputK PyData.str PyData.str (fun x => eStrs (setOf (needsL h W x))) _ [] st (fun x hx st' e1 => ?_) rfl _ key).mono fun kvs st' ⟨e1, e2⟩ => ?_
  · subst e1
    have hl : look (h.map fun p => (p.1, setOf (needsL h W p.1))) x = some (setOf (needsL h W x)) := by
      have := needsT_eq (h := h) (W := W)
      unfold needsT at this
      rw [this]
      exact look_pairs (fun x => setOf (needsL h W x)) _ x hx
    simp [fldOf_o H.obj (lk_wanted _ _ _ _ _), oIx_dic eStrs H.wanted hl]
  · subst e1 e2
    rw [List.nil_append, ← needsT_eq]
    simp
theorem oIn_seqS {st : Sto} {d : PyData} {x : Str} {xs : List Str} {neg : Bool} (h : seqOf d = some (xs.map .str)) : oIn neg (.p (.str x)) (.p d) st = .ok (.p (.bool (if neg then !decide (x ∈ xs) else decide (x ∈ xs)))) st := by
  cases d <;> cases h
  · exact oIn_strs ..
  · exact oIn_strsT ..
/-- the table with the free set to their starts -/
def freedT (ks xs : List Str) (f g : Str → List Str) : List (Str × List Str) := ks.map fun x => (x, if x ∈ xs then g x else f x)
theorem freed_sp {k : Nat} {m1 m2 : Nat} {T1 T2 : List (Str × List Str)} {ks xs : List Str} {f g : Str → List Str} {N : Str → Str → Prop} {d : PyData} (h1 : st[m1]? = some (.dic (eD eStrs T1))) (h2 : st[m2]? = some (.dic (eD eStrs T2)))
    (hk : T1.map (fun p => p.1) = ks) (nd : ks.Nodup) (h6 : ks.length ≤ 60) (l1 : ∀ x ∈ ks, look T1 x = some (f x)) (l2 : ∀ x ∈ ks, look T2 x = some (g x)) (hd : seqOf d = some (xs.map .str)) (hv : val st (.p d) = some d)
    (hN : NeedT ks N (freedT ks xs f g)) : Ok (S (k + 4) 23 [.o m1, .o m2, .p d] st) fun w st' => ∃ b : Bool, w = .p (.bool b) ∧ (b = true ↔ Cured ks N) ∧ Ext st st' := by
  have e3 : mkL (ks.map .str) st = .ok (.p (.list (ks.map .str))) st := mkL_small (by simp; omega)
  have eA := cListB_dic (mk := mkL) eStrs h1
  rw [hk, e3] at eA
  rw [st_23]
  simp [b_23, eA, -List.map_map]
  have key := fold_dputK eStrs (fun x => if x ∈ xs then g x else f x) (fun x => eStrs (if x ∈ xs then g x else f x)) ks [] (fun _ _ => rfl) nd (by simp) (by simp; omega)
  refine (dcL_ok (fun st' => st' = st) dputK PyData.str PyData.str (fun x => eStrs (if x ∈ xs then g x else f x)) _ [] st (fun x hx st' e1 => ?_) rfl _ key).mono fun kvs st' ⟨e1, e2⟩ => ?_
  · subst e1
    simp [oIn_seqS hd]
    by_cases hm : x ∈ xs
    · simp [hm, oIx_dic eStrs h2 (l2 x hx)]
    · simp [hm, oIx_dic eStrs h1 (l1 x hx)]
  · subst e1 e2
    have hT : (st' ++ [Cell.dic (eD eStrs (freedT ks xs f g))])[st'.length]? = some (.dic (eD eStrs (freedT ks xs f g))) := by simp
    simp only [List.nil_append, keepDO_eq, ok_ok]
    refine (greatest_sp (k := k) hT hN (by simp [freedT]; omega)).mono fun w st2 ⟨e5, l, e6, e7⟩ => ?_
    subst e5 e6
    simp [mkL_small, oEq_strsP, e7]
    by_cases hc : Cured ks N
    · exact .inr ⟨hc, Ext.app _⟩
    · exact .inl ⟨hc, Ext.app _⟩
theorem servs_mem {l : List Call} {y : Str} : y ∈ servs l ↔ ∃ d ∈ l, d.1 = y := by
  unfold servs
  rw [mem_setOf, List.mem_map]
theorem need_free {free : List Str} (g : HomeOk h) (q : WaitOk h W) : NeedT (h.map fun p => p.1) (Needs h free) (freedT (h.map fun p => p.1) free (fun x => setOf (needsL h W x)) fun x => servs ((lookC W (x, none)).getD [])) := by
  refine ⟨fun x => by simp [freedT], fun x v hv y => ?_⟩
  have hx : x ∈ h.map fun p => p.1 := by
    have := look_mem hv
    obtain ⟨z, hz, e⟩ := List.mem_map.mp this
    cases e
    exact hz
  unfold freedT at hv
  rw [look_pairs (fun x => if x ∈ free then servs ((lookC W (x, none)).getD []) else setOf (needsL h W x)) _ x hx] at hv
  cases hv
  obtain ⟨s, hs⟩ := look_some hx
  have sc : scrOf h (x, none) = some s.2.1 := by simp [scrOf, hs]
  obtain ⟨l, hl, _, _, hr⟩ := q.get sc
  have h0 : (∃ d ∈ l, d.1 = y) ↔ ∃ d, Rch h (x, none) d ∧ d.1 = y := ⟨fun ⟨d, h1, h2⟩ => ⟨d, (hr d).mp h1, h2⟩, fun ⟨d, h1, h2⟩ => ⟨d, (hr d).mpr h1, h2⟩⟩
  by_cases hf : x ∈ free
  · simp only [hf, if_true, hl, Option.getD_some, servs_mem, h0, Needs, not_true, false_and, or_false]
  · simp only [hf, if_false, mem_setOf, Needs, not_false_eq_true, true_and, needsL, hl, Option.getD_some, List.mem_append, List.mem_map]
    refine or_congr h0 ?_
    obtain ⟨w, x0, t⟩ := s
    rw [hs]
    cases w with
    | none => simp
    | some i =>
      simp only [List.mem_flatMap, List.mem_map]
      have key : ∀ m d', look t m = some d' → ∃ lm, lookC W (x, some m) = some lm ∧ ∀ d, d ∈ lm ↔ Rch h (x, some m) d := fun m d' hm => by
        have sm : scrOf h (x, some m) = some d'.2 := by simp [scrOf, hs, hm]
        obtain ⟨lm, h1, _, _, h2⟩ := q.get sm
        exact ⟨lm, h1, h2⟩
      constructor
      · rintro ⟨p, hp, d, hd, e⟩
        obtain ⟨d', hd'⟩ := look_some (l := t) (k := p.1) (List.mem_map.mpr ⟨p, hp, rfl⟩)
        obtain ⟨lm, h1, h2⟩ := key p.1 d' hd'
        rw [h1] at hd
        exact ⟨i, x0, t, rfl, p.1, ⟨p, hp, rfl⟩, d, (h2 d).mp hd, e⟩
      · rintro ⟨i', x', t', e', m, ⟨p, hp, rfl⟩, d, hd, e⟩
        cases e'
        obtain ⟨d', hd'⟩ := look_some (l := t) (k := p.1) (List.mem_map.mpr ⟨p, hp, rfl⟩)
        obtain ⟨lm, h1, h2⟩ := key p.1 d' hd'
        exact ⟨p, hp, d, by rw [h1]; exact (h2 d).mpr hd, e⟩
/-- is the thing a cure of the house -/
def CureD (h : Home) (d : PyData) : Prop := ∃ xs : List Str, seqOf d = some (xs.map .str) ∧ areB (h.map fun p => p.1) d = true ∧ Cured (h.map fun p => p.1) (Needs h xs)
theorem is_cure_sp {k : Nat} (g : HomeOk h) (q : WaitOk h W) (H : HallAt st n a b c h W) {d : PyData} (hd : fine d) (hb : ∀ ds, seqOf d = some ds → ds.length < 4000) :
    Ok (S (k + 7) 24 [.o n, .p d] st) fun w st' => ∃ r : Bool, w = .p (.bool r) ∧ (r = true ↔ CureD h d) ∧ Ext st st' := by
  rw [st_24]
  simp [b_24, are_services_sp (k := k + 5) H hd hb]
  cases e6 : areB (h.map fun p => p.1) d with
  | false =>
    simp
    exact ⟨fun ⟨_, _, z, _⟩ => (by rw [e6] at z; cases z), Kept.refl⟩
  | true =>
    obtain ⟨xs, hs, hin, nd⟩ := areB_true e6
    have H2 := H.ext (Ext.app [Cell.dic (eD eStrs (needsT h W))])
    simp [needs_table_sp (k := k + 5) g H, starts_table_sp (k := k) g q H2]
    have h6 := g.ns.le
    have x2 : Ext st (st ++ [Cell.dic (eD eStrs (needsT h W)), Cell.dic (eD eStrs (startsL h W))]) := Ext.app _
    have t1 : (st ++ [Cell.dic (eD eStrs (needsT h W)), Cell.dic (eD eStrs (startsL h W))])[st.length]? = some (.dic (eD eStrs (needsT h W))) := by simp
    have t2 : (st ++ [Cell.dic (eD eStrs (needsT h W)), Cell.dic (eD eStrs (startsL h W))])[st.length + 1]? = some (.dic (eD eStrs (startsL h W))) := by simp
    generalize st ++ [Cell.dic (eD eStrs (needsT h W)), Cell.dic (eD eStrs (startsL h W))] = st2 at x2 t1 t2 ⊢
    refine (freed_sp (k := k + 2) (f := fun x => setOf (needsL h W x)) (g := fun x => servs ((lookC W (x, none)).getD [])) t1 t2 (by simp [needsT]) g.ns.nd (by omega) (fun x hx => ?_) (fun x hx => ?_) hs (val_ok hd.1) (need_free (free := xs) g q)).mono fun w st3 ⟨r, e1, e2, e3⟩ => ?_
    · rw [needsT_eq]; exact look_pairs (fun x => setOf (needsL h W x)) _ x hx
    · rw [startsL_eq]; exact look_pairs (fun x => servs ((lookC W (x, none)).getD [])) _ x hx
    · have key : r = true ↔ CureD h d := e2.trans ⟨fun c => ⟨xs, hs, e6, c⟩, fun ⟨ys, z1, _, z3⟩ => by
        rw [hs] at z1
        have : xs = ys := (List.map_inj_right (fun a b q => by cases q; rfl)).mp (Option.some.inj z1)
        rw [this]; exact z3⟩
      cases r with
      | true => exact .inr ⟨e1, key.mp rfl, x2.trans e3⟩
      | false => exact .inl ⟨e1, fun z => (by cases key.mpr z), x2.trans e3⟩
end

end HT
end

section
set_option Elab.async false
set_option linter.all false
set_option maxRecDepth 100000
set_option maxHeartbeats 1000000
namespace HT
open PySem L2 Pd PySem.W
/-! ### who needs whom, by the law -/
/-- what is found when the services of pre are done -/
def NeedsP (h : Home) (free pre : List Str) (x y : Str) : Prop := (∃ d, Rch h (x, none) d ∧ d.1 = y) ∨ (x ∈ pre ∧ x ∉ free ∧ ∃ i sc t, look h x = some (some i, sc, t) ∧ ∃ m ∈ t.map (fun p => p.1), ∃ d, Rch h (x, some m) d ∧ d.1 = y)
/-- .. and of x the methods of ms -/
def NeedsQ (h : Home) (free pre : List Str) (x0 : Str) (ms : List Str) (x y : Str) : Prop := NeedsP h free pre x y ∨ (x = x0 ∧ ∃ m ∈ ms, ∃ d, Rch h (x, some m) d ∧ d.1 = y)
def bP (pre : List Str) (z : Str) : Nat := if z ∈ pre then 400 else 200
def bQ (pre : List Str) (x : Str) (n : Nat) (z : Str) : Nat := if z = x then 200 + 40 * n else bP pre z
structure NeedsI (h : Home) (N : Str → Str → Prop) (b : Str → Nat) (T : List (Str × List Str)) : Prop where
  ks : T.map (fun p => p.1) = h.map fun p => p.1
  vs : ∀ x v, look T x = some v → v.length ≤ b x ∧ ∀ y, y ∈ v ↔ N x y
theorem servs_len {h : Home} (g : HomeOk h) {c : Call} {l : List Call} (hl : ∀ d, d ∈ l ↔ Rch h c d) : (servs l).length ≤ 6 := by
  have nd : (servs l).Nodup := srtS_nodup (dedup_nodup _)
  have := nodup_len (servs l) (h.map fun p => p.1) nd fun y hy => by
    obtain ⟨d, hd, rfl⟩ := servs_mem.mp hy
    obtain ⟨z, hz⟩ := ((hl d).mp hd).scr g
    unfold scrOf at hz
    split at hz
    · cases hz
    · rename_i sv hs
      exact List.mem_map.mpr ⟨_, look_mem hs, rfl⟩
  have h6 := g.ns.le
  omega
theorem law_needs_sp {k : Nat} {st : Sto} {h : Home} (g : HomeOk h) {xs : List Str} :
    Ok (S (k + 4) 36 [.p (eHome h), .p (.list (xs.map .str))] st) fun w st' => ∃ T, w = .p (.dict (eD eStrs T)) ∧ NeedT (h.map fun p => p.1) (Needs h xs) T ∧ T.length ≤ 6 ∧ Ext st st' := by
  have h6 := g.ns.le
  have h1 := g.ns.pos
  rw [List.length_map] at h6 h1
  have h0 : h ≠ [] := fun q => by rw [q] at h1; simp at h1
  have it : ∀ st, itemsOf (.p (eHome h)) st = .ok ((h.map fun p => p.1).map .str) st := fun st => by
    have := itemsOf_dict (st := st) (allKeys_eD eServ h0 (by omega))
    rw [eD_keys] at this
    exact this
  rw [st_36]
  simp [-Prod.forall, b_36]
  refine (law_starts_new (k := k) g).mono fun w st1 ⟨m, T, e1, e2, e3, x1, hm⟩ => ?_
  subst e1
  simp [-Prod.forall, it, -List.map_map]
  have I0 : NeedsI h (NeedsP h xs []) (bP []) T := ⟨e3.ks, fun x v hv => by
    obtain ⟨l, hl, e⟩ := e3.vs _ (look_mem hv)
    simp only at e hl
    subst e
    have := servs_len g hl
    refine ⟨by simp [bP]; omega, fun y => ?_⟩
    rw [servs_mem]
    simp only [NeedsP, List.not_mem_nil, false_and, or_false, hl]⟩
  refine forL_pre PyData.str (h.map fun p => p.1) (fun pre en st' => ∃ T, (∃ o2 o4 o5, en = [some (.p (eHome h)), some (.p (.list (xs.map .str))), o2, some (.o m), o4, o5]) ∧ st'[m]? = some (.dic (eD eStrs T)) ∧ NeedsI h (NeedsP h xs pre) (bP pre) T ∧ Ext st st')
    (fun pre x post en st' e4 ⟨T, ⟨o2, o4, o5, e5⟩, c1, I, x2⟩ => ?_) (fun en st' ⟨T, ⟨o2, o4, o5, e5⟩, c1, I, x2⟩ => ?_) ⟨T, ⟨_, _, _, rfl⟩, e2, I0, x1⟩
  · subst e5
    have hx : x ∈ h.map fun p => p.1 := by rw [e4]; simp
    have nx : x ∉ pre := by
      have nd := g.ns.nd
      rw [e4] at nd
      exact fun q => (List.nodup_append.mp nd).2.2 x q x List.mem_cons_self rfl
    obtain ⟨s, hs⟩ := look_some hx
    have sv := g.sv _ (look_mem hs)
    obtain ⟨w, sc, t⟩ := s
    simp only at sv
    have bnd : ∀ {a : Str} {q : Nat}, q ≤ bP pre a → q ≤ bP (pre ++ [x]) a := fun {a q} hq => by
      unfold bP at hq ⊢
      by_cases h1 : a ∈ pre
      · rw [if_pos h1] at hq; rw [if_pos (List.mem_append_left _ h1)]; exact hq
      · rw [if_neg h1] at hq; split <;> omega
    have stay : (¬ (w.isSome = true ∧ x ∉ xs)) → ∀ a b, NeedsP h xs (pre ++ [x]) a b ↔ NeedsP h xs pre a b := fun hn a b => by
      unfold NeedsP
      refine or_congr Iff.rfl ⟨fun ⟨q1, q2, q3⟩ => ?_, fun ⟨q1, q2⟩ => ⟨List.mem_append_left _ q1, q2⟩⟩
      rcases List.mem_append.mp q1 with q | q
      · exact ⟨q, q2, q3⟩
      · rw [List.mem_singleton.mp q] at q2 q3
        obtain ⟨i, sc', t', q4, _⟩ := q3
        rw [hs] at q4
        cases q4
        exact absurd ⟨rfl, q2⟩ hn
    have keep : (¬ (w.isSome = true ∧ x ∉ xs)) → NeedsI h (NeedsP h xs (pre ++ [x])) (bP (pre ++ [x])) T := fun hn => ⟨I.ks, fun a v hv => ⟨bnd (I.vs a v hv).1, fun b => by rw [stay hn]; exact (I.vs a v hv).2 b⟩⟩
    cases w with
    | none =>
      simp [-Prod.forall, oIx_home hs, oNotN, eI, isNoneD]
      exact ⟨T, c1, keep (by simp), x2⟩
    | some i =>
      simp [-Prod.forall, oIx_home hs, oNotN, eI, isNoneD, oIn_strs]
      by_cases hf : x ∈ xs
      · simp [-Prod.forall, hf]
        exact ⟨T, c1, keep (by simp [hf]), x2⟩
      · have h4 := sv.ns.le
        have p4 := sv.ns.pos
        simp only [List.length_map] at h4 p4
        have t0 : t ≠ [] := fun q => by rw [q] at p4; simp at p4
        have itT : ∀ st, itemsOf (.p (eTab t)) st = .ok ((t.map fun p => p.1).map .str) st := fun st => by
          have := itemsOf_dict (st := st) (allKeys_eD eDeed t0 (by omega))
          rw [eD_keys] at this
          exact this
        simp [-Prod.forall, hf, itT, -List.map_map]
        have J0 : NeedsI h (NeedsQ h xs pre x []) (bQ pre x 0) T := ⟨I.ks, fun a v hv => ⟨by
          have := (I.vs a v hv).1
          unfold bQ
          by_cases q : a = x
          · subst q; unfold bP at this; rw [if_neg nx] at this; simpa using this
          · rw [if_neg q]; exact this, fun b => by
          rw [(I.vs a v hv).2 b]
          simp [NeedsQ]⟩⟩
        refine forL_pre PyData.str (t.map fun p => p.1) (fun pm en st' => ∃ T, (∃ o2 o5, en = [some (.p (eHome h)), some (.p (.list (xs.map .str))), o2, some (.o m), some (.p (.str x)), o5]) ∧ st'[m]? = some (.dic (eD eStrs T)) ∧ NeedsI h (NeedsQ h xs pre x pm) (bQ pre x pm.length) T ∧ Ext st st')
          (fun pm y post2 en st' e6 ⟨T, ⟨o2, o5, e7⟩, c1, J, x2⟩ => ?_) (fun en st' ⟨T, ⟨o2, o5, e7⟩, c1, J, x2⟩ => ?_) ⟨T, ⟨_, _, rfl⟩, c1, J0, x2⟩
        · subst e7
          have hy : y ∈ t.map fun p => p.1 := by rw [e6]; simp
          obtain ⟨dd, hdd⟩ := look_some hy
          have scy : scrOf h (x, some y) = some dd.2 := by simp [scrOf, hs, hdd]
          obtain ⟨v, hv⟩ := look_some (l := T) (k := x) (by rw [show T.map (·.1) = T.map (fun p => p.1) from rfl, J.ks]; exact hx)
          have tt : mkT [.str x, .str y] st' = .ok (.p (eC (x, some y))) st' := tup2 (m := some y)
          simp [-Prod.forall, oIx_dic eStrs c1 hv, tt]
          refine (law_waited_sp (k := k + 1) g scy).mono fun w st3 ⟨l, hw, ndl, l30, hl, x3⟩ => ?_
          subst hw
          simp [-Prod.forall]
          rw [lcL_all eC (fun c => .str c.1)]
          rotate_left
          · intro c hc
            exact ⟨_, rfl, rfl, by simp⟩
          have e5 : l.map (fun c => PyData.str c.1) = (l.map fun c => c.1).map .str := by simp
          rw [List.nil_append, e5]
          have c3 := x3.get c1
          have vl := (J.vs x v hv).1
          have pl : pm.length ≤ 4 := by
            have := congrArg List.length e6
            simp at this; omega
          unfold bQ at vl
          rw [if_pos rfl] at vl
          have ad : oAdd (.p (eStrs v)) (.p (.list ((l.map fun c => c.1).map .str))) st3 = .ok (.p (eStrs (v ++ l.map fun c => c.1))) st3 := by
            have : mkL (v.map PyData.str ++ (l.map fun c => c.1).map .str) st3 = .ok (.p (.list (v.map PyData.str ++ (l.map fun c => c.1).map .str))) st3 := mkL_small (by simp; omega)
            simp only [oAdd, eStrs, val_list, this, List.map_append]
          have Tl : T.length ≤ 1000 := by
            have := congrArg List.length J.ks
            simp at this; omega
          have pu := oPut_dicU eStrs (a := v ++ l.map fun c => c.1) c3 Tl (k := x) (by rw [show T.map (·.1) = T.map (fun p => p.1) from rfl, J.ks]; exact hx)
          simp only [ok_ok, ad, pu, nxt_some, turn_nx]
          refine ⟨⟨_, _, rfl⟩, updL T x (v ++ l.map fun c => c.1), get_set c3, ⟨by rw [updL_keys, J.ks], fun a u hu => ?_⟩, (x2.trans x3).setNew hm⟩
          rw [look_updL] at hu
          by_cases q : a = x
          · subst q
            rw [if_pos rfl, hv] at hu
            cases hu
            refine ⟨by unfold bQ; rw [if_pos rfl, List.length_append, List.length_map]; omega, fun b => ?_⟩
            rw [List.mem_append, (J.vs _ _ hv).2 b, List.mem_map]
            simp only [NeedsQ, true_and, List.mem_append, List.mem_singleton]
            constructor
            · rintro ((q1 | ⟨z, q2, q3⟩) | ⟨d, q2, q3⟩)
              · exact .inl q1
              · exact .inr ⟨z, .inl q2, q3⟩
              · exact .inr ⟨y, .inr rfl, d, (hl d).mp q2, q3⟩
            · rintro (q1 | ⟨z, (q2 | rfl), q3⟩)
              · exact .inl (.inl q1)
              · exact .inl (.inr ⟨z, q2, q3⟩)
              · obtain ⟨d, q4, q5⟩ := q3
                exact .inr ⟨d, (hl d).mpr q4, q5⟩
          · rw [if_neg q] at hu
            have old := J.vs a u hu
            refine ⟨by have := old.1; unfold bQ at this ⊢; rw [if_neg q] at this ⊢; exact this, fun b => ?_⟩
            rw [old.2 b]
            simp only [NeedsQ, q, false_and, or_false]
        · subst e7
          simp only [turn_nx]
          refine ⟨⟨_, _, _, rfl⟩, T, c1, ⟨J.ks, fun a v hv => ⟨?_, fun b => ?_⟩⟩, x2⟩
          · have := (J.vs a v hv).1
            unfold bQ at this
            by_cases q : a = x
            · rw [if_pos q, List.length_map] at this
              unfold bP
              rw [if_pos (by simp [q])]
              omega
            · rw [if_neg q] at this
              exact bnd this
          · rw [(J.vs a v hv).2 b]
            unfold NeedsQ NeedsP
            constructor
            · rintro ((q | ⟨q1, q2⟩) | ⟨rfl, q⟩)
              · exact .inl q
              · exact .inr ⟨List.mem_append_left _ q1, q2⟩
              · exact .inr ⟨by simp, hf, i, sc, t, hs, q⟩
            · rintro (q | ⟨q1, q2, i', sc', t', q3, q4⟩)
              · exact .inl (.inl q)
              · rcases List.mem_append.mp q1 with q | q
                · exact .inl (.inr ⟨q, q2, i', sc', t', q3, q4⟩)
                · have e := List.mem_singleton.mp q
                  subst e
                  rw [hs] at q3
                  cases q3
                  exact .inr ⟨rfl, q4⟩
  · subst e5
    simp [frzW_dic c1]
    refine ⟨T, rfl, ⟨fun a => by rw [I.ks], fun a v hv b => ?_⟩, by have := congrArg List.length I.ks; simp at this; omega, x2.setNew hm⟩
    have ha : a ∈ h.map fun p => p.1 := by rw [← I.ks]; exact List.mem_map.mpr ⟨_, look_mem hv, rfl⟩
    rw [(I.vs a v hv).2 b]
    simp only [NeedsP, Needs, ha, true_and]

end HT
end

section
set_option Elab.async false
set_option linter.all false
set_option maxRecDepth 100000
set_option maxHeartbeats 1000000
namespace HT
open PySem L2 Pd PySem.W
/-! ### the houses alike; what is no list of services -/
section
variable {st : Sto} {n a b c n' a' b' c' : Nat} {h : Home} {W W' : List (Call × List Call)}
theorem house_eq_sp {k : Nat} (g : HomeOk h) (H : HallAt st n a b c h W) (H' : HallAt st n' a' b' c' h W') : S (k + 1) 43 [.o n, .o n'] st = .ok (.p (.bool true)) st := by
  refine Ok.to_eq ?_
  rw [st_43]
  simp [b_43, insOf_o H'.obj, fldOf_o H.obj (lk_parts _ _ _), fldOf_o H'.obj (lk_parts _ _ _), oEqS_dic g H.parts H'.parts]
end
/-- no list of services, whatever the services are called -/
structure Odd (ns : List Str) (d : PyData) : Prop where
  f : fine d
  l : ∀ ds, seqOf d = some ds → ds.length ≤ 20
  no : ∀ ks : List Str, (∀ x, x ∈ ks ↔ x ∈ ns) → areB ks d = false
theorem odd_leaf {ns : List Str} {d : PyData} (h : dOk d = true) (hs : seqOf d = none) : Odd ns d :=
  ⟨⟨h, fun ds e => by rw [hs] at e; cases e⟩, fun ds e => (by rw [hs] at e; cases e), fun ks _ => by simp only [areB, hs]⟩
theorem odd_item {ns : List Str} {d e : PyData} {ds : List PyData} {i : Nat} (h : dOk d = true) (hs : seqOf d = some ds) (hd : ∀ e ∈ ds, dOk e = true) (hl : ds.length ≤ 20) (he : ds[i]? = some e) (hn : ∀ x, e ≠ .str x) : Odd ns d :=
  ⟨⟨h, fun es q => by rw [hs] at q; cases q; exact hd⟩, fun es q => (by rw [hs] at q; cases q; exact hl), fun ks _ => by simp only [areB, hs, strsOf_bad he hn]⟩
theorem odd_strs {ns xs : List Str} (hl : xs.length ≤ 20) (hn : (∃ x ∈ xs, x ∉ ns) ∨ ¬ xs.Nodup) : Odd ns (.list (xs.map .str)) :=
  ⟨⟨rfl, fun es q e he => by cases q; obtain ⟨x, _, rfl⟩ := List.mem_map.mp he; rfl⟩, fun es q => (by cases q; simpa using hl), fun ks hk => by
    simp only [areB, seqOf, strsOf_map]
    rcases hn with ⟨x, h1, h2⟩ | h1
    · have : (xs.all fun x => decide (x ∈ ks)) = false := by
        rw [← Bool.not_eq_true, List.all_eq_true]
        exact fun q => h2 ((hk x).mp (of_decide_eq_true (q x h1)))
      rw [this]; rfl
    · rw [decide_eq_false h1, Bool.and_false]⟩
section
variable {st : Sto}
theorem odds_sp {k : Nat} {ns : List Str} (hl : ns.length ≤ 6) (h1 : 1 ≤ ns.length) (nd : ns.Nodup) :
    Ok (S (k + 2) 41 [.p (.list (ns.map .str))] st) fun w st' => ∃ L : List PyData, w = .p (.list L) ∧ (∀ d ∈ L, Odd ns d) ∧ Ext st st' := by
  obtain ⟨y, hy, hny, ab⟩ := absent_sp (k := k) (st := st) (xs := ns) (by omega)
  rw [st_41]
  have n0l : 0 < ns.length := by omega
  have n0 : atI (ns.map PyData.str) 0 = some (.str ns[0]) := by
    have := atIN (ns.map PyData.str) 0
    rw [List.getElem?_map, List.getElem?_eq_getElem n0l] at this
    exact this
  simp [b_41, ab, oIx_list n0]
  have f8 : (st ++ [Cell.dic []])[st.length]? = some (.dic []) := by simp
  have x8 : Ext st ((st ++ [Cell.dic []]).set st.length (.frz (.dict []))) := (Ext.app _).setNew (Nat.le_refl _)
  rw [frzW_dic f8, ok_ok]
  generalize (st ++ [Cell.dic []]).set st.length (.frz (.dict [])) = st8 at x8 ⊢
  rw [lcL_all PyData.str (fun x => .tuple [.str x, .bool true])]
  rotate_left
  · intro x hx
    exact ⟨_, rfl, rfl, by simp [mkT_small]⟩
  rw [List.nil_append, ok_ok]
  have yn : ((ns.map fun x => (x, ())).map fun p => p.1).Nodup := by
    rw [List.map_map]
    have : ((fun p : Str × Unit => p.1) ∘ fun x => (x, ())) = id := rfl
    rw [this, List.map_id]
    exact nd
  have cd := cDictP_map (st := st8) (fun _ : Unit => PyData.bool true) yn (by rw [List.length_map]; omega)
  rw [List.map_map] at cd
  have cd' : cDictP [.p (.list (ns.map fun x => PyData.tuple [.str x, .bool true]))] st8 = .ok (.o st8.length) (st8 ++ [.dic (eD (fun _ : Unit => PyData.bool true) (ns.map fun x => (x, ())))]) := cd
  rw [cd', ok_ok]
  have f10 : (st8 ++ [Cell.dic (eD (fun _ : Unit => PyData.bool true) (ns.map fun x => (x, ())))])[st8.length]? = some (.dic (eD (fun _ : Unit => PyData.bool true) (ns.map fun x => (x, ())))) := by simp
  rw [frzW_dic f10, ok_ok]
  have x10 : Ext st ((st8 ++ [Cell.dic (eD (fun _ : Unit => PyData.bool true) (ns.map fun x => (x, ())))]).set st8.length (.frz (.dict (eD (fun _ : Unit => PyData.bool true) (ns.map fun x => (x, ())))))) := x8.trans ((Ext.app _).setNew (Nat.le_refl _))
  have dk : dOk (.dict (eD (fun _ : Unit => PyData.bool true) (ns.map fun x => (x, ())))) = true := eD_all _ _
  generalize (st8 ++ [Cell.dic (eD (fun _ : Unit => PyData.bool true) (ns.map fun x => (x, ())))]).set st8.length (.frz (.dict (eD (fun _ : Unit => PyData.bool true) (ns.map fun x => (x, ()))))) = st10 at x10 ⊢
  generalize eD (fun _ : Unit => PyData.bool true) (ns.map fun x => (x, ())) = DD at dk ⊢
  have c1 : oSl (.p (.list (ns.map .str))) none (some 1) st10 = .ok (.p (.list [.str ns[0]])) st10 := by
    rw [oSl_list, show (some 1 : Option Int) = some ((1 : Nat) : Int) from rfl, cutD_take]
    congr 3
    cases ns with
    | nil => simp at h1
    | cons z r => rfl
  simp only [mkL_small (show [PyData.str y].length ≤ 1000000 by simp), ok_ok, oAdd_list, mkL_small (show (ns.map PyData.str ++ [PyData.str y]).length ≤ 1000000 by simp; omega), plains_p, plains_nil, Option.map_some, Function.comp_apply, dispOf_some]
  rw [mkL_small (by simp), ok_ok, mkL_small (by simp), ok_ok, c1, ok_ok]
  simp only [oAdd_list]
  rw [mkL_small (by simp; omega), ok_ok, mkL_small (by simp), ok_ok, mkL_small (by simp), ok_ok]
  simp only [plains_p, plains_nil, Option.map_some, dispOf_some]
  rw [mkL_small (by simp), ok_ok, mkL_small (by simp), ok_ok, mkT_small (by simp), ok_ok, mkL_small (by simp), ok_ok]
  simp only [plains_p, plains_nil, Option.map_some, dispOf_some]
  rw [mkL_small (by simp), ok_ok]
  simp only [oAdd_list]
  rw [mkL_small (by simp)]
  refine ⟨_, rfl, fun d hd => ?_, x10⟩
  simp only [List.cons_append, List.nil_append, List.mem_cons, List.not_mem_nil, or_false] at hd
  have ln : (ns.map PyData.str).length ≤ 6 := by rw [List.length_map]; exact hl
  rcases hd with rfl | rfl | rfl | rfl | rfl | rfl | rfl | rfl | rfl | rfl | rfl | rfl | rfl | rfl | rfl | rfl
  · exact odd_leaf rfl rfl
  · exact odd_leaf rfl rfl
  · exact odd_leaf rfl rfl
  · exact odd_leaf rfl rfl
  · exact odd_leaf rfl rfl
  · exact odd_leaf rfl rfl
  · exact odd_leaf dk rfl
  · exact odd_strs (xs := [y]) (by simp) (.inl ⟨y, by simp, hny⟩)
  · have := odd_strs (ns := ns) (xs := ns ++ [y]) (by simp; omega) (.inl ⟨y, by simp, hny⟩)
    simpa using this
  · exact odd_strs (xs := [ns[0], ns[0]]) (by simp) (.inr (by simp))
  · have := odd_strs (ns := ns) (xs := ns ++ [ns[0]]) (by simp; omega) (.inr fun q => by
      have := (List.nodup_append.mp q).2.2 ns[0] (List.getElem_mem n0l) ns[0] (by simp)
      exact this rfl)
    simpa using this
  · exact odd_item (i := 0) (e := .none) rfl rfl (by simp [dOk]) (by simp) rfl (fun x q => by cases q)
  · exact odd_item (i := 0) (e := .list [.str ns[0]]) rfl rfl (by simp [dOk]) (by simp) rfl (fun x q => by cases q)
  · exact odd_item (i := 0) (e := .list (ns.map .str)) rfl rfl (by simp [dOk]) (by simp) rfl (fun x q => by cases q)
  · exact odd_item (i := 1) (e := .int 0) rfl rfl (by simp [dOk]) (by simp) rfl (fun x q => by cases q)
  · exact odd_item (i := 0) (e := .bool true) rfl rfl (by simp [dOk]) (by simp) rfl (fun x q => by cases q)
end

end HT
end

section
set_option Elab.async false
set_option linter.all false
set_option maxRecDepth 100000
set_option maxHeartbeats 1000000
namespace HT
open PySem L2 Pd PySem.W
/-! ### one lap of the law -/
theorem cure_val {h : Home} (g : HomeOk h) {d : PyData} {ys xs : List Str} (hs : seqOf d = some (ys.map .str)) (nd : ys.Nodup) (hy : ∀ y ∈ ys, y ∈ h.map fun p => p.1) (e : ∀ x, x ∈ ys ↔ x ∈ xs) : CureD (norm h) d ↔ Cured (h.map fun p => p.1) (Needs h xs) := by
  have kk : ∀ x, x ∈ (norm h).map (fun p => p.1) ↔ x ∈ h.map fun p => p.1 := fun x => by rw [norm_keys, mem_srtS]
  have nn : ∀ x y, Needs (norm h) ys x y ↔ Needs h xs x y := fun x y => by
    rw [needs_norm g]
    unfold Needs
    rw [e]
  unfold CureD
  constructor
  · rintro ⟨zs, h1, _, h3⟩
    rw [hs] at h1
    have : ys = zs := (List.map_inj_right (fun a b q => by cases q; rfl)).mp (Option.some.inj h1)
    subst this
    exact (cured_congr kk nn).mp h3
  · intro h3
    refine ⟨ys, hs, ?_, (cured_congr kk nn).mpr h3⟩
    simp only [areB, hs, strsOf_map]
    have : (ys.all fun x => decide (x ∈ (norm h).map fun p => p.1)) = true := List.all_eq_true.mpr fun x hx => decide_eq_true ((kk x).mpr (hy x hx))
    rw [this, decide_eq_true nd]; rfl
theorem bool_same {p : Prop} {a b : Bool} (h1 : a = true ↔ p) (h2 : b = true ↔ p) : a = b := Bool.eq_iff_iff.mpr (h1.trans h2.symm)
theorem oNe_same {st : Sto} (l : List Str) : oNe (.p (.list (l.map .str))) (.p (.list (l.map .str))) st = .ok (.p (.bool false)) st := by
  simp only [oNe, val_list, okD_strs, Bool.and_self, if_true, eqv_strs, retB_eq, decide_true, Bool.not_true]
theorem sh_bools2 (a b : Bool) : showOk (.list [.bool a, .bool b]) = true := by cases a <;> cases b <;> decide +kernel
theorem sh_bools3 (b : Bool) : showOk (.list [.bool b, .bool b, .bool b]) = true := by cases b <;> decide +kernel
theorem fine_strs (l : List Str) : fine (.list (l.map .str)) := ⟨rfl, fun es q e he => by cases q; obtain ⟨x, _, rfl⟩ := List.mem_map.mp he; rfl⟩
theorem fine_strsT (l : List Str) : fine (.tuple (l.map .str)) := ⟨rfl, fun es q e he => by cases q; obtain ⟨x, _, rfl⟩ := List.mem_map.mp he; rfl⟩
/-- what is due, by the law -/
theorem due_sp {k : Nat} {st : Sto} {h : Home} (g : HomeOk h) (xs : List Str) : Ok ((S (k + 4) 36 [.p (eHome h), .p (.list (xs.map .str))] st).bind fun w st => (S (k + 4) 37 [w] st).bind fun w st => oEq w (.p (.list [])) st) fun w st' => ∃ r : Bool, w = .p (.bool r) ∧ (r = true ↔ Cured (h.map fun p => p.1) (Needs h xs)) ∧ Ext st st' := by
  rw [ok_bind]
  refine (law_needs_sp (k := k) g (xs := xs)).mono fun w st1 ⟨T, e1, e2, e3, e4⟩ => ?_
  subst e1
  rw [ok_bind]
  refine (law_stuck_sp (k := k + 3) e2 (by omega)).mono fun w st2 ⟨e5, l, e6, e7⟩ => ?_
  subst e5 e6
  rw [oEq_strsP]
  exact ⟨decide (l = []), rfl, by rw [decide_eq_true_iff]; exact e7, e4⟩
def lBody (c : Nat → Fn) : SemS := (sSeq (sSet 7 (sSl (sCall (c 29) (sCons (sVar 8) (sCons (sVar 5) sNil))) oNone (oSome (sCall (c 27) (sCons (sVar 8) (sCons (sB oAdd (sCall cLen (sCons (sVar 5) sNil)) (sC (.int 1))) sNil))))))
    (sSeq (sPar 1 6 (sCons (sB oEq (sCall (c 37) (sCons (sCall (c 36) (sCons (sVar 3) (sCons (sVar 7) sNil))) sNil)) (sDisp mkL sNil)) (sCons (sCall (cListB mkL) (sCons (sVar 7) sNil)) sNil)))
    (sSeq (sSet 9 (sDisp mkL (sCons (sCall (c 24) (sCons (sVar 2) (sCons (sVar 7) sNil))) (sCons (sCall (c 24) (sCons (sVar 2) (sCons (sCall cTupOf (sCons (sVar 7) sNil)) sNil))) (sCons (sCallK 2 [1, 0] (c 24) (sCons (sVar 7) (sCons (sVar 2) sNil))) sNil)))))
    (sIfS (sOr (sT (sB oNe (sCall cRepr (sCons (sVar 9) sNil)) (sCall cRepr (sCons (sB oMul (sDisp mkL (sCons (sVar 1) sNil)) (sC (.int 3))) sNil)))) (sT (sB oNe (sVar 7) (sVar 6)))) (sRet (sC (.bool false))) sNext))))
theorem lap_turn {k : Nat} {st : Sto} {n g T hn a b c : Nat} {h : Home} {W : List (Call × List Call)} (D : Draw n g T st) (hT : T + 30 ≤ 2 ^ 40) (gh : HomeOk h) (WO : WaitOk (norm h) W) (H : HallAt st hn a b c (norm h) W)
    (far : ∀ i, Dn n g i → i ≠ hn ∧ i ≠ a ∧ i ≠ b ∧ i ≠ c) {o0 o1 o4 o6 o7 o9 o10 o11 : Option Pd.W} :
    Ok (lBody (S (k + 7)) [o0, o1, some (.o hn), some (.p (eHome h)), o4, some (.p (.list ((srtS (h.map fun p => p.1)).map .str))), o6, o7, some (.o n), o9, o10, o11] st) fun f st' =>
      (∃ o1 o6 o7 o9, f = .nx [o0, o1, some (.o hn), some (.p (eHome h)), o4, some (.p (.list ((srtS (h.map fun p => p.1)).map .str))), o6, o7, some (.o n), o9, o10, o11]) ∧ Draw n g (T + 10) st' ∧ Kept (Dn n g) st st' := by
  have h6 := gh.ns.le
  have h1 := gh.ns.pos
  have gn := homeOk_norm gh
  have nl : (srtS (h.map fun p => p.1)).length = h.length := by rw [srtS_len, List.length_map]
  rw [List.length_map] at h6 h1
  unfold lBody
  simp [-List.map_map]
  refine (shuffled_sp plainStr (k := k + 4) D (xs := srtS (h.map fun p => p.1)) (by omega) (by omega)).mono fun w st1 ⟨s1, pm, hw, d1, k1⟩ => ?_
  subst hw
  have ei : (((srtS (h.map fun p => p.1)).length : Int) + 1) = (((srtS (h.map fun p => p.1)).length + 1 : Nat) : Int) := by omega
  rw [ei]
  refine (take_sp (k := k + 5) d1 (by omega) (z := (srtS (h.map fun p => p.1)).length + 1) (by omega) (by omega)).mono fun w st2 ⟨q, hw, hq, d2, k2⟩ => ?_
  subst hw
  simp only [bndOf_int, ok_ok, oSl_list, cutD_take]
  have hxs : (s1.map PyData.str).take q = (s1.take q).map PyData.str := List.map_take.symm
  rw [hxs]
  have snd : s1.Nodup := pm.nodup_iff.mpr (srtS_nodup gh.ns.nd)
  have xnd : (s1.take q).Nodup := snd.sublist (List.take_sublist q s1)
  have xin : ∀ y ∈ s1.take q, y ∈ h.map fun p => p.1 := fun y hy => mem_srtS.mp (pm.mem_iff.mp (List.mem_of_mem_take hy))
  have xl : (s1.take q).length ≤ 6 := by
    have := List.length_take_le q s1
    have h2 := List.length_take_le' q s1
    have := pm.length_eq
    omega
  generalize s1.take q = xs at xnd xin xl ⊢
  refine (law_needs_sp (k := k + 3) gh (xs := xs)).mono fun w st3 ⟨T3, e1, e2, e3, x3⟩ => ?_
  subst e1
  refine (law_stuck_sp (k := k + 6) e2 (by omega)).mono fun w st4 ⟨e5, l, e6, e7⟩ => ?_
  subst e5 e6
  rw [mkL_small (by simp), ok_ok, oEq_strsP, ok_ok, cListB_list, mkL_small (by simp; omega), ok_ok]
  have due : decide (l = []) = true ↔ Cured (h.map fun p => p.1) (Needs h xs) := by rw [decide_eq_true_iff]; exact e7
  generalize decide (l = []) = due0 at due ⊢
  have k3 : Kept (Dn n g) st st4 := (k1.trans k2).trans x3.to
  have d3 : Draw n g (T + 10) st4 := (d2.ext x3).mono (by omega)
  have H3 := H.kept k3 far
  have fs : ∀ es, seqOf (.list (xs.map PyData.str)) = some es → es.length < 4000 := fun es he => by cases he; simp; omega
  have ft : ∀ es, seqOf (.tuple (xs.map PyData.str)) = some es → es.length < 4000 := fun es he => by cases he; simp; omega
  refine (is_cure_sp (k := k) gn WO H3 (fine_strs xs) fs).mono fun w st5 ⟨r1, hw, r1e, x5⟩ => ?_
  subst hw
  have q1 : r1 = due0 := bool_same (r1e.trans (cure_val gh rfl xnd xin fun _ => Iff.rfl)) due
  subst q1
  have tu : cTupOf [.p (.list (xs.map .str))] st5 = .ok (.p (.tuple (xs.map .str))) st5 := by
    show mkT (xs.map .str) st5 = _
    exact mkT_small (by simp; omega)
  rw [tu, ok_ok]
  refine (is_cure_sp (k := k) gn WO (H3.ext x5) (fine_strsT xs) ft).mono fun w st6 ⟨r2, hw, r2e, x6⟩ => ?_
  subst hw
  have q2 : r2 = r1 := bool_same (r2e.trans (cure_val gh rfl xnd xin fun _ => Iff.rfl)) due
  subst q2
  refine (is_cure_sp (k := k) gn WO (H3.ext (x5.trans x6)) (fine_strs xs) fs).mono fun w st7 ⟨r3, hw, r3e, x7⟩ => ?_
  subst hw
  have q3 : r3 = r2 := bool_same (r3e.trans (cure_val gh rfl xnd xin fun _ => Iff.rfl)) due
  subst q3
  simp only [plains_p, plains_nil, Option.map_some, dispOf_some]
  rw [mkL_small (by simp), ok_ok, cRepr_p rfl (sh_bools3 _), ok_ok, mkL_small (by simp), ok_ok]
  have mu : oMul (.p (.list [.bool r3])) (.p (.int 3)) st7 = .ok (.p (.list [.bool r3, .bool r3, .bool r3])) st7 := rfl
  rw [mu, ok_ok, cRepr_p rfl (sh_bools3 _), ok_ok, oNe_str, decide_eq_true rfl, ok_ok]
  simp only [Bool.not_true, boolOf_bool, ok_ok, Bool.false_eq_true, if_false, oNe_same, asB_bool]
  exact ⟨⟨_, _, _, _, rfl⟩, (d3.ext (x5.trans x6)).ext x7, k3.trans (Ext.to ((x5.trans x6).trans x7))⟩

end HT
end

section
set_option Elab.async false
set_option linter.all false
set_option maxRecDepth 100000
set_option maxHeartbeats 1000000
namespace HT
open PySem L2 Pd PySem.W
/-! ### the rest of a turn -/
theorem lcL_D {tg : SemG} {c : SemT} {el : SemE} {en : En} (J : Sto → Prop) (p : PyData → Bool) (P : PyData → PyData → Prop) (xs acc : List PyData) (st : Sto)
    (h : ∀ x ∈ xs, ∀ st, J st → Ok (tg (.p x) en st) fun en1 st1 => Ok (c en1 st1) fun k st2 => k = p x ∧ (k = false → J st2) ∧ (k = true → Ok (el en1 st2) fun w st3 => ∃ d, w = .p d ∧ P x d ∧ J st3)) (hj : J st) :
    Ok (lcL tg c el en xs acc st) fun ds st' => ∃ l, ds = acc ++ l ∧ Paired P (xs.filter p) l ∧ J st' := by
  have := lcL_ok (tg := tg) (c := c) (el := el) (en := en) J id p P xs acc st h hj
  rw [List.map_id] at this
  exact this
def eLs (xs : List Str) : PyData := .list (xs.map .str)
def rBody (c : Nat → Fn) : SemS := (sSeq (sSet 1 (sLc (sItems (sDisp mkL (sCons (sVar 5) (sCons (sDisp mkL sNil) sNil)))) (gN 7) tYesS (sB oEq (sCall (c 37) (sCons (sCall (c 36) (sCons (sVar 3) (sCons (sVar 7) sNil))) sNil)) (sDisp mkL sNil)) [7] keepL))
    (sSeq (sIfS (sT (sB oNe (sCall cRepr (sCons (sDisp mkL (sCons (sCall (c 24) (sCons (sVar 2) (sCons (sRev mkL (sVar 5)) sNil))) (sCons (sCall (c 24) (sCons (sVar 2) (sCons (sDisp mkL sNil) sNil))) sNil))) sNil)) (sCall cRepr (sCons (sVar 1) sNil)))) (sRet (sC (.bool false))) sNext)
    (sSeq (sIfS (sT (sB oNe (sLc (sItems (sCall (c 41) (sCons (sVar 5) sNil))) (gN 11) (sT (sB oNotB (sCall (c 24) (sCons (sVar 2) (sCons (sVar 11) sNil))) (sC (.bool false)))) (sVar 11) [11] keepL) (sDisp mkL sNil))) (sRet (sC (.bool false))) sNext)
    (sIfS (sNot (sT (sB (oOwn "House" (c 43)) (sVar 2) (sMake "House" (c 42) (sCons (sVar 3) sNil))))) (sRet (sC (.bool false))) sNext))))
theorem rest_turn {k : Nat} {st : Sto} {hn a b c : Nat} {h : Home} {W : List (Call × List Call)} (gh : HomeOk h) {sz : Call → Nat} (z : Sized h sz) (WO : WaitOk (norm h) W) (H : HallAt st hn a b c (norm h) W)
    {o0 o1 o4 o6 o7 o8 o9 o10 : Option Pd.W} :
    Ok (rBody (S (k + 33)) [o0, o1, some (.o hn), some (.p (eHome h)), o4, some (.p (eLs (srtS (h.map fun p => p.1)))), o6, o7, o8, o9, o10, none] st) fun f st' =>
      (∃ o1, f = .nx [o0, o1, some (.o hn), some (.p (eHome h)), o4, some (.p (eLs (srtS (h.map fun p => p.1)))), o6, o7, o8, o9, o10, none]) ∧ Ext st st' := by
  have h6 := gh.ns.le
  have h1 := gh.ns.pos
  have gn := homeOk_norm gh
  have nl : (srtS (h.map fun p => p.1)).length = h.length := by rw [srtS_len, List.length_map]
  have nd := srtS_nodup gh.ns.nd
  have nin : ∀ y, y ∈ srtS (h.map fun p => p.1) ↔ y ∈ h.map fun p => p.1 := fun y => mem_srtS
  rw [List.length_map] at h6 h1
  generalize srtS (h.map fun p => p.1) = ns at nl nd nin ⊢
  unfold rBody
  simp [-List.map_map]
  rw [mkL_small (by simp), ok_ok]
  simp only [plains_p, plains_nil, Option.map_some, dispOf_some]
  rw [mkL_small (by simp), ok_ok]
  have it : itemsOf (.p (.list [eLs ns, .list []])) st = .ok ([ns, []].map eLs) st := rfl
  rw [it, ok_ok]
  refine (lcL_ok (fun st' => Ext st st') eLs (fun _ => true) (fun xs d => ∃ r : Bool, d = .bool r ∧ (r = true ↔ Cured (h.map fun p => p.1) (Needs h xs))) [ns, []] [] st (fun xs hx st' x1 => ?_) .refl).mono fun ds st1 ⟨l, e1, e2, x1⟩ => ?_
  · simp
    refine (law_needs_sp (k := k + 29) gh (xs := xs)).mono fun w st3 ⟨T3, e1, e2, e3, x3⟩ => ?_
    subst e1
    refine (law_stuck_sp (k := k + 32) e2 (by omega)).mono fun w st4 ⟨e5, l, e6, e7⟩ => ?_
    subst e5 e6
    rw [mkL_small (by simp), ok_ok, oEq_strsP]
    by_cases hc : Cured (h.map fun p => p.1) (Needs h xs)
    · exact ⟨_, rfl, .inr ⟨by rw [decide_eq_true (e7.mpr hc)], hc⟩, x1.trans x3⟩
    · exact ⟨_, rfl, .inl ⟨by rw [decide_eq_false (fun q => hc (e7.mp q))], hc⟩, x1.trans x3⟩
  have e2' : Paired (fun (xs : List Str) d => ∃ r : Bool, d = PyData.bool r ∧ (r = true ↔ Cured (h.map fun p => p.1) (Needs h xs))) [ns, []] l := e2
  obtain ⟨b1, b2, el, hb1, hb2⟩ : ∃ b1 b2 : Bool, l = [.bool b1, .bool b2] ∧ (b1 = true ↔ Cured (h.map fun p => p.1) (Needs h ns)) ∧ (b2 = true ↔ Cured (h.map fun p => p.1) (Needs h [])) := by
    cases e2' with
    | cons p r =>
      cases r with
      | cons p2 r2 =>
        cases r2
        obtain ⟨b1, q1, q2⟩ := p
        obtain ⟨b2, q3, q4⟩ := p2
        exact ⟨b1, b2, by rw [q1, q3], q2, q4⟩
  rw [List.nil_append, el] at e1
  subst e1
  have vn : val st1 (.p (eLs ns)) = some (.list (ns.map .str)) := rfl
  have rv : (ns.map PyData.str).reverse = ns.reverse.map .str := List.map_reverse.symm
  rw [vn, revOf_list, rv, mkL_small (by simp; omega), ok_ok]
  have H1 := H.ext x1
  refine (is_cure_sp (k := k + 26) gn WO H1 (fine_strs ns.reverse) (fun es he => by cases he; simp; omega)).mono fun w st2 ⟨r1, hw, r1e, x2⟩ => ?_
  subst hw
  have q1 : r1 = b1 := bool_same (r1e.trans (cure_val gh rfl ((List.reverse_perm ns).nodup_iff.mpr nd) (fun y hy => (nin y).mp (List.mem_reverse.mp hy)) fun x => List.mem_reverse)) hb1
  subst q1
  rw [mkL_small (by simp), ok_ok]
  refine (is_cure_sp (k := k + 26) gn WO (H1.ext x2) (d := .list []) (fine_strs []) (fun es he => by cases he; simp)).mono fun w st3 ⟨r2, hw, r2e, x3⟩ => ?_
  subst hw
  have q2 : r2 = b2 := bool_same (r2e.trans (cure_val gh (ys := []) rfl List.nodup_nil (fun y hy => by cases hy) fun x => Iff.rfl)) hb2
  subst q2
  simp only [plains_p, plains_nil, Option.map_some, dispOf_some]
  rw [mkL_small (by simp), ok_ok, cRepr_p rfl (sh_bools2 _ _), ok_ok, cRepr_p rfl (sh_bools2 _ _), ok_ok, oNe_str, decide_eq_true rfl, ok_ok]
  simp only [Bool.not_true, boolOf_bool, ok_ok, Bool.false_eq_true, if_false, seq_nx, ok_sSeq, sIfS_eq, ok_bind, sT_eq, ok_asB, sB_eq, sLc_eq, sItems_eq, sCall_eq, sCons_eq, sVar_eq, sNil_eq, List.getElem?_cons_succ, List.getElem?_cons_zero, varOf_some, bind_ok]
  have O := odds_sp (k := k + 31) (st := st3) (ns := ns) (by omega) (by omega) nd
  rw [show (k + 31 + 2 : Nat) = k + 33 from rfl] at O
  refine Ok.mono O fun w st4 ⟨L, hw, hL, x4⟩ => ?_
  subst hw
  simp only [itemsOf_list, ok_ok]
  have x14 : Ext st st4 := (x1.trans (x2.trans x3)).trans x4
  refine (lcL_D (fun st' => Ext st st') (fun _ => false) (fun _ _ => True) L [] st4 (fun d hd st' x5 => ?_) x14).mono fun ds st5 ⟨l, e1, e2, x5⟩ => ?_
  · simp
    have od := hL d hd
    refine (is_cure_sp (k := k + 26) gn WO (H.ext x5) od.f (fun es he => by have := od.l es he; omega)).mono fun w st6 ⟨r, hw, re, x6⟩ => ?_
    subst hw
    have rf : r = false := by
      rw [← Bool.not_eq_true]
      intro q
      obtain ⟨_, _, z, _⟩ := re.mp q
      have := od.no ((norm h).map fun p => p.1) fun x => by rw [norm_keys, mem_srtS, nin]
      rw [this] at z
      cases z
    subst rf
    simp
    exact x5.trans x6
  have el2 : l = [] := by
    rw [List.filter_eq_nil_iff.mpr (by simp)] at e2
    cases e2
    rfl
  subst el2
  rw [List.append_nil] at e1
  subst e1
  simp only [keepL_eq, ok_ok, sDisp_eq, sNil_eq, plains_nil, dispOf_some]
  rw [bind_ok]
  simp only [plains_nil, dispOf_some]
  rw [mkL_small (by simp), ok_ok, show oNe (.p (.list [])) (.p (.list [])) st5 = .ok (.p (.bool false)) st5 from oNe_same [], ok_ok]
  have hc : (st5 ++ [Cell.ins "House" []])[st5.length]? = some (Cell.ins "House" []) := by simp
  have I1 := init_sp (k := k) gh z hc
  have xI : Ext st (st5 ++ [Cell.ins "House" []]) := x5.trans (Ext.app _)
  have l5 : st.length ≤ st5.length := x5.1
  simp
  refine Ok.mono I1 fun w st6 ⟨hw, k6, a', b', c', W', H6, WO', la, lb, lc⟩ => ?_
  subst hw
  have x6 : Ext st st6 := xI.transNew k6 fun i q => by subst q; exact l5
  have H7 := H.ext x6
  simp
  rw [oOwn_o H7.obj H6.obj, show S (k + 33) 43 [.o hn, .o st5.length] st6 = .ok (.p (.bool true)) st6 from house_eq_sp (k := k + 32) gn H7 H6]
  simp
  exact x6

end HT
end

section
set_option Elab.async false
set_option linter.all false
set_option maxRecDepth 100000
set_option maxHeartbeats 1000000
namespace HT
open PySem L2 Pd PySem.W
/-! ### the law -/
theorem law_ok (ns : List Int) (hn : ns.length ≤ 63) : Ok ((b_law (S 60) [some (.s ns), none, none, none, none, none, none, none, none, none, none, none] []).bind retF) fun w _ => w = .p (.bool true) := by
  unfold b_law
  simp
  refine (begun_sp (k := 59) hn).mono fun w st0 ⟨n, g, hw, d0, _⟩ => ?_
  subst hw
  have cl : cLen [.s ns] st0 = .ok (.p (.int ns.length)) st0 := rfl
  obtain ⟨N, hN, hN6⟩ : ∃ N : Nat, (if (if (ns.length : Int) < 6 then (ns.length : Int) else 6) > 2 then (if (ns.length : Int) < 6 then (ns.length : Int) else 6) else 2) = (N : Int) ∧ N ≤ 6 := by
    by_cases h1 : (ns.length : Int) < 6
    · rw [if_pos h1]
      by_cases h2 : (ns.length : Int) > 2
      · exact ⟨ns.length, by rw [if_pos h2], by omega⟩
      · exact ⟨2, by rw [if_neg h2]; rfl, by omega⟩
    · rw [if_neg h1]
      exact ⟨6, by simp, by omega⟩
  have mm : cMax2 [.p (.int 2), .p (.int (if (ns.length : Int) < 6 then (ns.length : Int) else 6))] st0 = .ok (.p (.int N)) st0 := by
    show retI _ st0 = _
    rw [hN]; rfl
  have mi : cMin2 [.p (.int 6), .p (.int ns.length)] st0 = .ok (.p (.int (if (ns.length : Int) < 6 then (ns.length : Int) else 6))) st0 := rfl
  have sr : smallR (N : Int) = true := by unfold smallR; simp; omega
  simp [cl, mi, mm, rng1_int sr]
  unfold intsD
  refine forL_pre (fun i : Nat => PyData.int (0 + (i : Nat))) (List.range N) (fun pre en st1 => (∃ o1 o2 o3 o4 o5 o6 o7 o9 o10, en = [some (.s ns), o1, o2, o3, o4, o5, o6, o7, some (.o n), o9, o10, none]) ∧ Draw n g (1200 * pre.length) st1)
    (fun pre i post en st1 e1 ⟨⟨o1, o2, o3, o4, o5, o6, o7, o9, o10, e2⟩, d1⟩ => ?_) (fun en st1 ⟨⟨o1, o2, o3, o4, o5, o6, o7, o9, o10, e2⟩, d1⟩ => ?_) ⟨⟨_, _, _, _, _, _, _, _, _, rfl⟩, d0.mono (by omega)⟩
  · subst e2
    have hpre : pre.length < 6 := by
      have := congrArg List.length e1
      simp at this; omega
    simp
    refine (drawn_sp (k := 54) d1 (by omega) (M := 6) (N := 2) (cap := 8) (by omega) (by omega) (by omega) (by omega) (by omega)).mono fun w st2 ⟨h, hw, gh, ⟨sz, z⟩, d2, k2⟩ => ?_
    subst hw
    have dl := d2.lt
    have hc : (st2 ++ [Cell.ins "House" []])[st2.length]? = some (Cell.ins "House" []) := by simp
    have I1 := init_sp (k := 27) gh z hc
    rw [show (27 + 33 : Nat) = 60 from rfl] at I1
    refine I1.mono fun w st3 ⟨hw, k3, a, b, c, W, HA, WO, la, lb, lc⟩ => ?_
    subst hw
    simp at la lb lc
    have d3 : Draw n g (1200 * pre.length + 1100) st3 := (d2.ext (Ext.app _)).kept k3 (by omega) (by omega)
    have h6 := gh.ns.le
    have h1 := gh.ns.pos
    rw [List.length_map] at h6 h1
    have so : cSortedA mkL [.p (eHome h)] st3 = .ok (.p (.list ((srtS (h.map fun p => p.1)).map .str))) st3 := sorted_keys eServ (by omega)
    have s5 : rng1 (.p (.int 5)) st3 = .ok (intsD 0 5) st3 := rng1_int rfl
    simp [so, s5, two_le, -List.map_map]
    unfold intsD
    have far : ∀ j, Dn n g j → j ≠ st2.length ∧ j ≠ a ∧ j ≠ b ∧ j ≠ c := fun j hj => by rcases hj with rfl | rfl <;> omega
    refine forL_pre (fun i : Nat => PyData.int (0 + (i : Nat))) (List.range 5) (fun pre2 en st4 => (∃ o1 o4 o6 o7 o9, en = [some (.s ns), o1, some (.o st2.length), some (.p (eHome h)), o4, some (.p (.list ((srtS (h.map fun p => p.1)).map .str))), o6, o7, some (.o n), o9, some (.p (.int i)), none]) ∧ Draw n g (1200 * pre.length + 1100 + 10 * pre2.length) st4 ∧ HallAt st4 st2.length a b c (norm h) W)
      (fun pre2 j post2 en st4 e3 ⟨⟨o1, o4, o6, o7, o9, e4⟩, d4, H4⟩ => ?_) (fun en st4 ⟨⟨o1, o4, o6, o7, o9, e4⟩, d4, H4⟩ => ?_) ⟨⟨_, _, _, _, _, rfl⟩, d3.mono (by simp), HA⟩
    · subst e4
      have hp2 : pre2.length < 5 := by
        have := congrArg List.length e3
        simp at this; omega
      have I4 := lap_turn (k := 53) d4 (by omega) gh WO H4 far (o0 := some (.s ns)) (o1 := o1) (o4 := some (.p (.int (0 + (j : Nat))))) (o6 := o6) (o7 := o7) (o9 := o9) (o10 := some (.p (.int i))) (o11 := none)
      rw [show (53 + 7 : Nat) = 60 from rfl] at I4
      simp only [gN_eq, ok_ok, List.set_cons_succ, List.set_cons_zero]
      refine Ok.mono I4 fun f st7 ⟨⟨p1, p6, p7, p9, hf⟩, d7, k7⟩ => ?_
      subst hf
      exact ⟨⟨_, _, _, _, _, rfl⟩, d7.mono (by simp; omega), H4.kept k7 far⟩
    · subst e4
      have I5 := rest_turn (k := 27) gh z WO H4 (o0 := some (.s ns)) (o1 := o1) (o4 := o4) (o6 := o6) (o7 := o7) (o8 := some (.o n)) (o9 := o9) (o10 := some (.p (.int i)))
      rw [show (27 + 33 : Nat) = 60 from rfl] at I5
      simp only [seq_nx]
      refine Ok.mono I5 fun f st7 ⟨⟨p1, hf⟩, x7⟩ => ?_
      subst hf
      exact ⟨⟨_, _, _, _, _, _, _, _, _, rfl⟩, (d4.ext x7).mono (by simp; omega)⟩
  · subst e2
    simp
theorem law_plain : ∀ ns : List Int, ns.length ≤ 63 → ∃ st, runF N_law.length (b_law (S 60)) [.s ns] [] = .ok (.p (.bool true)) st := fun ns hn => by
  obtain ⟨w, st, h1, h2⟩ := (law_ok ns hn).get
  subst h2
  exact ⟨st, h1⟩

end HT
end

section
set_option Elab.async false
set_option linter.all false
set_option maxRecDepth 100000
set_option maxHeartbeats 0
namespace HT
open PySem PySem.Spec PyProof.Rows L2
def loose : List Str := (["_wall", "DemandError", "NoHouse", "Ring", "TooMany", "NoService", "NoMethod", "LETTERS", "MOST_LETTERS", "MOST_SERVICES", "MOST_METHODS", "MOST_STEPS", "MOST_WORKERS", "MOST_WORTH", "MOST_CALLS", "is_number", "is_name", "is_workers", "is_script", "is_method", "is_names", "is_service", "is_house_data", "script_in", "wait_calls", "waited_for", "calls_made", "all_scripts", "needs_in", "House"] : List Str) ++ (["waits", "services_of", "reach", "are_services", "needs_one", "needs_table", "is_closed_by", "greatest_closed", "starts_table", "is_freed_by", "is_cure", "_law_begun", "_law_mixed", "_law_take", "_law_pick", "_law_shuffled", "_law_names", "_law_steps", "_law_home", "_law_script", "_law_waited", "_law_starts", "_law_needs", "_law_stuck", "_law_calm", "_law_drawn", "_law_absent", "_law_odds"] : List Str)
abbrev R : PySem.W.OpenRow := PySem.W.OpenLaw.row PySem.Challenge.rw_ondemand_k15_what_a_cure_is
abbrev hk : PySem.W.Hook := He.hookX 4 fa fn [] [] exB
def ob (s : PySem.W.SharedT) : He.AlX := He.obsX 4 fa fn [] [] exB (HandSHeadRun.getT s)
theorem ob_eq (s : PySem.W.SharedT) : ob s = hk.obs s.abs := He.obsX_eq (HandSHeadRun.getT_eq s)
theorem run (w : World) : HandSHeadRun.RunEq R (PySem.W.view R.prog [64]) hk ob 20000 loose w := by
  intro os
  kernel_rfl
open Pd in
theorem law_walks (w : World) (mg : Str → Option Value) (fa' : Addr) (h : Heap) (Y : hk.says w h) (hns : h.Ns mainGlobals mg) (hmg : mg "law" = some (.ref fa')) :
    ∃ (K : PySem.W.Frag) (fd : FuncData), K.In h ∧ FunD K "law" "law" (defArgs (top 64)) (defBody (top 64)) (defScope (top 64)) [] [] fa' fd ∧ (∀ (s : Shared) (u : Value), K.In s.heap → BindsTo s fd ⟨[u], []⟩ [("_law_script_here", u)]) ∧
      ∀ base : Heap, K.In base → base.Ns mainGlobals mg → ∀ (cdv : Value) (s : Shared) (H : Hp), @SSs ⟨PySem.Challenge.pw_ondemand_k15_what_a_cure_is, w⟩ (cxOf CX0 PySem.Challenge.pw_ondemand_k15_what_a_cure_is w K mg base N_law "law" (defScope (top 64)) fa' cdv callerA [] s H E0).nox E0 (defBody (top 64)) (b_law (S 60)) := by
  obtain ⟨K, KX, c0⟩ := Y
  have c := c0.t.d
  have ci := c0.more
  obtain ⟨fd, FD⟩ := c.def_ 47 (d := d_law) rfl
  have e : mg "law" = some (.ref (He.fAd K ("law", none))) := He.glo_ok KX hns (c.fact 42 (f := .glo "law") rfl)
  have e2 : fa' = He.fAd K ("law", none) := by rw [hmg] at e; cases e; rfl
  subst e2
  replace FD : FunD K "law" "law" (defArgs (top 64)) (defBody (top 64)) (defScope (top 64)) [] [] (He.fAd K ("law", none)) fd := FD
  refine ⟨K, fd, KX, FD, fun s u KI => ?_, fun base KB hb cdv s H => ?_⟩
  · exact (FD.bindsN (ps := ["_law_script_here"]) fun _ _ _ _ _ _ us hl => match us, hl with | [_], _ => rfl) s [u] KI rfl
  · letI : Wd := ⟨PySem.Challenge.pw_ondemand_k15_what_a_cure_is, w⟩
    exact ok_law (k := 2 * 60) ⟨rfl, rfl⟩ (fx KX hns c ci) (tb ⟨rfl, rfl⟩ KX hns c ci 60) ((show Room (2 * 60 + 2) callerA from ⟨rfl, by decide +kernel, by decide +kernel⟩).deeper _) rfl
end HT
open PySem PySem.W PySem.Calls PyProof.Rows
set_option maxRecDepth 100000 in
set_option maxHeartbeats 0 in
theorem PySem.Challenge.cw_ondemand_k15_what_a_cure_is_holds : PySem.Challenge.rw_ondemand_k15_what_a_cure_is.Holds := by
  w_on; o_law
  refine HandSHeadRun.head_any (r := OpenLaw.row PySem.Challenge.rw_ondemand_k15_what_a_cure_is) (q := view (OpenLaw.row PySem.Challenge.rw_ondemand_k15_what_a_cure_is).prog [64]) (H := HT.hk) (ob := HT.ob) (M := 20000) (loose := HT.loose) (d := HandSHeadRun.topDef (OpenLaw.row PySem.Challenge.rw_ondemand_k15_what_a_cure_is).prog 64) (kwd := []) HT.ob_eq
    (by kernel_rfl) (fun s => by kernel_rfl) HT.run (by kernel_rfl) (by kernel_rfl) (by kernel_rfl) (by rfl) (by first | assumption | decide +kernel) (by decide +kernel) ⟨rfl, rfl, rfl, rfl, rfl, by decide +kernel⟩ ?hw ?hc
  case hw => w_witness2
  case hc => exact Pd.walk_end (n := 63) (k := 2 * 60 + 1) rfl (by decide) rfl ⟨rfl, by decide +kernel, by decide +kernel⟩ HT.sc_law HT.law_walks HT.law_plain
end
