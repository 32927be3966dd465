import PyProof.Rows.All
import Wide.All
import OpenK.AllK
import Wide.FinOn
import HandS.ForMost
import HandS.Walk
import HandS.Flow
import HandS.IsInst
import HandS.Property
import HandS.Defaults
import HandS.FStr
import HandS.TupAny
import HandS.TupLe
import HandS.OwnEq
import HandS.More
import HandS.HeadHook1
import HandS.HeadHook2
import HandS.Deep
import HandS.SortInts
import HandS.Small
import HandS.RaiseMore
import HandS.Style
import HandS.NoneIn
import HandS.Zip
import HandS.ClsMeth
import KE.KOpsOwn
import HandS.DictComp
import HandS.Conv
import HandS.List
import PyProof.ReprRoads
import PyProof.Rows.Range3
import KE.LtData
import KE.SortCalls
import HandS.SortOrd
import PyProof.P3Eq
import PyProof.Claim2Refuses
import PyProof.AutoSeq1
import KE.KRevSl
import KE.KFmtOwn
import HandS.Sort
import PyProof.ListRange
import HandS.Star
import HandS.Ends
import HandS.HeadEnd
import HandS.Head0
import HandS.Head1
import HandS.Head2
import HandS.HeadHook3
import PyProof.StrLawsRepr
import PySem.Challenge.RW_rangecells_k09_moved_and_mirrored
-- Rc1
set_option Elab.async false
set_option linter.all false
set_option maxRecDepth 100000
set_option maxHeartbeats 4000000
namespace Rc
open PySem PySem.Spec PyProof.Rows L2

/-! ### data: what a Python value is, without addresses -/
inductive D where
  | non | bl (b : Bool) | int (i : Int) | str (x : Str)
  | tup (ds : List D) | lst (ds : List D) | dic (kvs : List (L2.Key × D))
  | obj (c : Str) (fs : List (Str × D))
  | cls (c : Str) | ty (n : String) | pot | scr (ns : List Int)

abbrev Ms := Addr → Prop
def KTup (K : PySem.W.Frag) (a : Addr) (xs : List V) : Prop :=
  ∃ (o : Obj) (its : Array Value) (n : Nat), K.lookup a = some o ∧ o.cls = .type "tuple" ∧ o.data = .seq its n ∧ its.size ≤ sizeLine ∧ Vals xs its.toList
def TupAt (K : PySem.W.Frag) (M : Ms) (H : Hp) (a : Addr) (xs : List V) : Prop := (¬ M a ∧ H a = some (.tup xs)) ∨ KTup K a xs
def LstAt (M : Ms) (H : Hp) (a : Addr) (xs : List V) : Prop := ¬ M a ∧ H a = some (.lst xs)
/-- the script: a list that is never written -/
def ScrAt (K : PySem.W.Frag) (M : Ms) (H : Hp) (a : Addr) (xs : List V) : Prop := (¬ M a ∧ Rd H a (.lst xs)) ∨
  ∃ (o : Obj) (its : Array Value) (n : Nat), K.lookup a = some o ∧ o.cls = .type "list" ∧ o.dict = none ∧ o.data = .seq its n ∧ its.size ≤ sizeLine ∧ Vals xs its.toList

def keyOk : L2.Key → Prop
  | .inl _ => True
  | .inr x => PyData.strOk x = true
section
variable (K : PySem.W.Frag) (pa : Option Addr) (M : Ms) (H : Hp)
mutual
/-- the value v stands for the datum d -/
def Rep : D → V → Prop
  | .non, v => v = .non
  | .bl b, v => v = .bl b
  | .int i, v => v = .int i
  | .str x, v => v = .str x ∧ PyData.strOk x = true
  | .tup ds, v => ∃ a xs, v = .ref a ∧ TupAt K M H a xs ∧ Reps ds xs
  | .lst ds, v => ∃ a xs, v = .ref a ∧ LstAt M H a xs ∧ Reps ds xs
  | .dic kvs, v => ∃ a ws, v = .ref a ∧ (¬ M a ∧ H a = some (.dK ws)) ∧ RepK kvs ws
  | .obj c fs, v => ∃ a dx ws, v = .ref a ∧ (¬ M a ∧ H a = some (.ins (He.ga K c) dx ws)) ∧ RepF fs ws
  | .cls c, v => v = .ref (He.ga K c)
  | .ty n, v => v = .ty n
  | .pot, v => ∃ a, pa = some a ∧ v = .ref a
  | .scr ns, v => ∃ a, v = .ref a ∧ ScrAt K M H a (ns.map V.int)
def Reps : List D → List V → Prop
  | [], vs => vs = []
  | d :: ds, vs => ∃ v r, vs = v :: r ∧ Rep d v ∧ Reps ds r
def RepF : List (Str × D) → List (Str × V) → Prop
  | [], vs => vs = []
  | q :: fs, vs => ∃ v r, vs = (q.1, v) :: r ∧ Rep q.2 v ∧ RepF fs r
def RepK : List (L2.Key × D) → List (L2.Key × V) → Prop
  | [], vs => vs = []
  | q :: fs, vs => ∃ v r, vs = (q.1, v) :: r ∧ keyOk q.1 ∧ Rep q.2 v ∧ RepK fs r
end
end

/-- from one heap to another, from one lot of owned addresses to another: what is not owned stays -/
def Up (M : Ms) (H : Hp) (M' : Ms) (H' : Hp) : Prop := ∀ a o, ¬ M a → H a = some o → ¬ M' a ∧ H' a = some o
theorem Up.tup {K : PySem.W.Frag} {M M' : Ms} {H H' : Hp} {a : Addr} {xs : List V} (u : Up M H M' H') : TupAt K M H a xs → TupAt K M' H' a xs
  | .inl ⟨n, h⟩ => .inl (u a _ n h)
  | .inr h => .inr h
theorem Up.lst {M M' : Ms} {H H' : Hp} {a : Addr} {xs : List V} (u : Up M H M' H') : LstAt M H a xs → LstAt M' H' a xs
  | ⟨n, h⟩ => u a _ n h
theorem Up.scr {K : PySem.W.Frag} {M M' : Ms} {H H' : Hp} {a : Addr} {xs : List V} (u : Up M H M' H') : ScrAt K M H a xs → ScrAt K M' H' a xs
  | .inl ⟨n, .inl h⟩ => .inl ⟨(u a _ n h).1, .inl (u a _ n h).2⟩
  | .inl ⟨n, .inr ⟨o, h⟩⟩ => .inl ⟨(u a _ n h).1, .inr ⟨o, (u a _ n h).2⟩⟩
  | .inr h => .inr h

section
variable {K : PySem.W.Frag} {pa : Option Addr} {M M' : Ms} {H H' : Hp}
mutual
theorem Rep.up (u : Up M H M' H') : ∀ {d : D} {v : V}, Rep K pa M H d v → Rep K pa M' H' d v
  | .non, _, h => h
  | .bl _, _, h => h
  | .int _, _, h => h
  | .str _, _, h => h
  | .tup ds, _, ⟨a, xs, e, t, r⟩ => ⟨a, xs, e, u.tup t, Reps.up u r⟩
  | .lst ds, _, ⟨a, xs, e, t, r⟩ => ⟨a, xs, e, u.lst t, Reps.up u r⟩
  | .dic kvs, _, ⟨a, ws, e, t, r⟩ => ⟨a, ws, e, u a _ t.1 t.2, RepK.up u r⟩
  | .obj c fs, _, ⟨a, dx, ws, e, t, r⟩ => ⟨a, dx, ws, e, u a _ t.1 t.2, RepF.up u r⟩
  | .cls _, _, h => h
  | .ty _, _, h => h
  | .pot, _, h => h
  | .scr _, _, ⟨a, e, h⟩ => ⟨a, e, u.scr h⟩
theorem Reps.up (u : Up M H M' H') : ∀ {ds : List D} {vs : List V}, Reps K pa M H ds vs → Reps K pa M' H' ds vs
  | [], _, h => h
  | _ :: _, _, ⟨v, r, e, h1, h2⟩ => ⟨v, r, e, Rep.up u h1, Reps.up u h2⟩
theorem RepF.up (u : Up M H M' H') : ∀ {ds : List (Str × D)} {vs : List (Str × V)}, RepF K pa M H ds vs → RepF K pa M' H' ds vs
  | [], _, h => h
  | _ :: _, _, ⟨v, r, e, h1, h2⟩ => ⟨v, r, e, Rep.up u h1, RepF.up u h2⟩
theorem RepK.up (u : Up M H M' H') : ∀ {ds : List (L2.Key × D)} {vs : List (L2.Key × V)}, RepK K pa M H ds vs → RepK K pa M' H' ds vs
  | [], _, h => h
  | _ :: _, _, ⟨v, r, e, h0, h1, h2⟩ => ⟨v, r, e, h0, Rep.up u h1, RepK.up u h2⟩
end
theorem Up.refl : Up M H M H := fun _ _ n h => ⟨n, h⟩
theorem Up.trans {M2 : Ms} {H2 : Hp} (a : Up M H M' H') (b : Up M' H' M2 H2) : Up M H M2 H2 := fun c o n h => b c o (a c o n h).1 (a c o n h).2
theorem Up.same (s : Same H H') : Up M H M H' := fun a o n h => ⟨n, s a o h⟩
theorem Up.less (s : ∀ a, M' a → M a) : Up M H M' H := fun a o n h => ⟨fun z => n (s a z), h⟩
/-- p, new, is owned from now on -/
theorem Up.own {p : Addr} (hp : H p = none) : Up M H (fun a => M a ∨ a = p) H := fun a o n h => ⟨fun z => z.elim n fun e => (by rw [e, hp] at h; cases h), h⟩
theorem Same.upd {p : Addr} {o : HO} (hp : H p = none) : Same H (L2.upd H p o) := fun b u h => by rw [upd_ne (ne_of_none h hp)]; exact h

theorem Reps.length : ∀ {ds : List D} {vs : List V}, Reps K pa M H ds vs → ds.length = vs.length
  | [], _, h => by cases h; rfl
  | _ :: _, _, ⟨v, r, e, h1, h2⟩ => by subst e; simp [Reps.length h2]
theorem Reps.append : ∀ {ds es : List D} {vs us : List V}, Reps K pa M H ds vs → Reps K pa M H es us → Reps K pa M H (ds ++ es) (vs ++ us)
  | [], _, _, _, h, k => by cases h; exact k
  | _ :: _, _, _, _, ⟨v, r, e, h1, h2⟩, k => by subst e; exact ⟨v, r ++ _, rfl, h1, Reps.append h2 k⟩
theorem Reps.get : ∀ {ds : List D} {vs : List V} {i : Nat} {d : D}, Reps K pa M H ds vs → ds[i]? = some d → ∃ v, vs[i]? = some v ∧ Rep K pa M H d v
  | [], _, _, _, h, e => by simp at e
  | _ :: _, _, 0, _, ⟨v, r, e, h1, h2⟩, q => by subst e; simp at q; subst q; exact ⟨v, rfl, h1⟩
  | _ :: _, _, i + 1, _, ⟨v, r, e, h1, h2⟩, q => by
    subst e
    obtain ⟨u, a, b⟩ := Reps.get (i := i) h2 (by simpa using q)
    exact ⟨u, by simpa using a, b⟩
theorem Reps.getV : ∀ {ds : List D} {vs : List V} {i : Nat} {v : V}, Reps K pa M H ds vs → vs[i]? = some v → ∃ d, ds[i]? = some d ∧ Rep K pa M H d v
  | [], _, _, _, h, e => by cases h; simp at e
  | d :: _, _, 0, _, ⟨v, r, e, h1, h2⟩, q => by subst e; simp at q; subst q; exact ⟨d, rfl, h1⟩
  | _ :: _, _, i + 1, _, ⟨v, r, e, h1, h2⟩, q => by
    subst e
    obtain ⟨u, a, b⟩ := Reps.getV (i := i) h2 (by simpa using q)
    exact ⟨u, by simpa using a, b⟩
theorem Reps.take : ∀ {ds : List D} {vs : List V} (n : Nat), Reps K pa M H ds vs → Reps K pa M H (ds.take n) (vs.take n)
  | [], _, n, h => by cases h; simp; rfl
  | _ :: _, _, 0, _ => rfl
  | _ :: _, _, n + 1, ⟨v, r, e, h1, h2⟩ => by subst e; exact ⟨v, _, rfl, h1, Reps.take n h2⟩
theorem Reps.drop : ∀ {ds : List D} {vs : List V} (n : Nat), Reps K pa M H ds vs → Reps K pa M H (ds.drop n) (vs.drop n)
  | [], _, n, h => by cases h; simp; rfl
  | _ :: _, _, 0, h => h
  | _ :: _, _, n + 1, ⟨v, r, e, h1, h2⟩ => by subst e; exact Reps.drop n h2
theorem Reps.nil : Reps K pa M H [] [] := rfl
theorem Reps.cons {d : D} {v : V} {ds : List D} {vs : List V} (h : Rep K pa M H d v) (r : Reps K pa M H ds vs) : Reps K pa M H (d :: ds) (v :: vs) := ⟨v, vs, rfl, h, r⟩
theorem RepF.lookup : ∀ {fs : List (Str × D)} {ws : List (Str × V)} {f : Str} {d : D}, RepF K pa M H fs ws → fs.lookup f = some d → ∃ v, ws.lookup f = some v ∧ Rep K pa M H d v
  | [], _, _, _, h, e => by cases e
  | (n, d) :: r, _, f, d', ⟨v, r', e, h1, h2⟩, q => by
    subst e
    rw [List.lookup_cons] at q ⊢
    cases hb : f == n with
    | true => rw [hb] at q; cases q; exact ⟨v, rfl, h1⟩
    | false => rw [hb] at q; exact RepF.lookup h2 q
theorem RepF.none : ∀ {fs : List (Str × D)} {ws : List (Str × V)} {f : Str}, RepF K pa M H fs ws → fs.lookup f = Option.none → ws.lookup f = Option.none
  | [], _, _, h, e => by cases h; rfl
  | (n, d) :: r, _, f, ⟨v, r', e, h1, h2⟩, q => by
    subst e
    rw [List.lookup_cons] at q ⊢
    cases hb : f == n with
    | true => rw [hb] at q; cases q
    | false => rw [hb] at q; exact RepF.none h2 q
theorem TupAt.sq {a : Addr} {xs : List V} : TupAt K M H a xs → SqT K H a xs
  | .inl h => .inl (.inl h.2)
  | .inr h => .inr h
theorem LstAt.sq {a : Addr} {xs : List V} (h : LstAt M H a xs) : SqL K H a xs := .inl (.inl h.2)
theorem ScrAt.sq {a : Addr} {xs : List V} : ScrAt K M H a xs → SqL K H a xs
  | .inl h => .inl h.2
  | .inr h => .inr h
end

/-! ### the state: slots, the pot -/
structure Pot where
  o : Int
  m : Int
  c : Int
/-- what a slot holds: a datum; a list of this frame's own; an instance that is being made -/
inductive EV where
  | dat (d : D) | own (ds : List D) | slf (c : Str) (fs : List (Str × D))
abbrev Env := List (Option EV)
def RepE (K : PySem.W.Frag) (pa : Option Addr) (M : Ms) (H : Hp) : EV → V → Prop
  | .dat d, v => Rep K pa M H d v
  | .own ds, v => ∃ a xs, v = .ref a ∧ M a ∧ pa ≠ some a ∧ H a = some (.lst xs) ∧ Reps K pa M H ds xs
  | .slf c fs, v => ∃ a dx ws, v = .ref a ∧ M a ∧ pa ≠ some a ∧ H a = some (.ins (He.ga K c) dx ws) ∧ RepF K pa M H fs ws
def isOwn : EV → Bool
  | .dat _ => false
  | _ => true
structure EnvOk (K : PySem.W.Frag) (pa : Option Addr) (M : Ms) (H : Hp) (σ : L2.St) (env : Env) : Prop where
  slot : ∀ (i : Nat) (e : EV), env[i]? = some (some e) → ∃ v, σ[i]? = some (some v) ∧ RepE K pa M H e v
  inj : ∀ (i j : Nat) (e e' : EV) (v : V), env[i]? = some (some e) → env[j]? = some (some e') → isOwn e = true → isOwn e' = true → σ[i]? = some (some v) → σ[j]? = some (some v) → i = j
  dom : ∀ a, M a → (H a).isSome = true
  len : env.length = σ.length
def PotOk (pa : Option Addr) (M : Ms) (H : Hp) (p : Pot) : Prop := ∀ a, pa = some a → M a ∧ H a = some (.lst [.int p.o, .int p.m, .int p.c])
/-- all but the pot stays -/
def Ext (pa : Option Addr) (H H' : Hp) : Prop := ∀ a o, pa ≠ some a → H a = some o → H' a = some o

section
variable {K : PySem.W.Frag} {pa : Option Addr} {M M' : Ms} {H H' H2 : Hp} {σ : L2.St} {env : Env} {p p' : Pot}
theorem Ext.refl : Ext pa H H := fun _ _ _ h => h
theorem Ext.trans (a : Ext pa H H') (b : Ext pa H' H2) : Ext pa H H2 := fun c o n h => b c o n (a c o n h)
theorem Ext.same (s : Same H H') : Ext pa H H' := fun a o _ h => s a o h
theorem Ext.up (e : Ext pa H H') (k : PotOk pa M H p) : Up M H M H' := fun a o n h => ⟨n, e a o (fun z => n (k a z).1) h⟩
theorem PotOk.same (k : PotOk pa M H p) (s : Same H H') : PotOk pa M H' p := fun a e => ⟨(k a e).1, s _ _ (k a e).2⟩
theorem Ext.dom (e : Ext pa H H') (k : PotOk pa M H' p') (dom : ∀ a, M a → (H a).isSome = true) : ∀ a, M a → (H' a).isSome = true := fun a m => by
  by_cases z : pa = some a
  · rw [(k a z).2]; rfl
  · obtain ⟨o, q⟩ := Option.isSome_iff_exists.mp (dom a m)
    rw [e a o z q]; rfl
theorem RepE.ext {e : EV} {v : V} (x : Ext pa H H') (k : PotOk pa M H p) (h : RepE K pa M H e v) : RepE K pa M H' e v := by
  have u := x.up k
  cases e with
  | dat d => exact Rep.up u h
  | own ds => obtain ⟨a, xs, e1, m, n, q, r⟩ := h; exact ⟨a, xs, e1, m, n, x a _ n q, Reps.up u r⟩
  | slf c fs => obtain ⟨a, dx, ws, e1, m, n, q, r⟩ := h; exact ⟨a, dx, ws, e1, m, n, x a _ n q, RepF.up u r⟩
theorem EnvOk.ext (e : EnvOk K pa M H σ env) (x : Ext pa H H') (k : PotOk pa M H p) (k' : PotOk pa M H' p') : EnvOk K pa M H' σ env :=
  ⟨fun i ev h => let ⟨v, a, b⟩ := e.slot i ev h; ⟨v, a, b.ext x k⟩, e.inj, x.dom k' e.dom, e.len⟩
end
end Rc

-- Rc2
set_option Elab.async false
set_option linter.all false
set_option maxRecDepth 100000
set_option maxHeartbeats 4000000
namespace Rc
open PySem PySem.Spec PyProof.Rows L2

/-! ### what an expression is worth -/
abbrev EvF := Env → Pot → Option (D × Pot)
abbrev EvT := Env → Pot → Option (Bool × Pot)
abbrev EvA := Env → Pot → Option (List D × Pot)
/-- a value that is only looked at: an own list may be looked at, too -/
def RepV (K : PySem.W.Frag) (pa : Option Addr) (M : Ms) (H : Hp) : D → V → Prop
  | .lst ds, v => ∃ a xs, v = .ref a ∧ pa ≠ some a ∧ H a = some (.lst xs) ∧ Reps K pa M H ds xs
  | d, v => Rep K pa M H d v
section
variable {K : PySem.W.Frag} {pa : Option Addr} {M M' : Ms} {H H' H2 : Hp} {σ : L2.St} {env : Env} {p p' : Pot}
theorem Rep.view {d : D} {v : V} (k : PotOk pa M H p) (h : Rep K pa M H d v) : RepV K pa M H d v := by
  cases d with
  | lst ds => obtain ⟨a, xs, e, t, r⟩ := h; exact ⟨a, xs, e, fun z => t.1 (k a z).1, t.2, r⟩
  | _ => exact h
theorem RepV.ext {d : D} {v : V} (x : Ext pa H H') (k : PotOk pa M H p) (h : RepV K pa M H d v) : RepV K pa M H' d v := by
  cases d with
  | lst ds => obtain ⟨a, xs, e, n, t, r⟩ := h; exact ⟨a, xs, e, n, x a _ n t, Reps.up (x.up k) r⟩
  | _ => exact Rep.up (x.up k) h
end

def tE (K : PySem.W.Frag) (f : EvF) : TE := fun σ H Q => ∃ pa M env p d p', EnvOk K pa M H σ env ∧ PotOk pa M H p ∧ f env p = some (d, p') ∧ ∀ v H', Ext pa H H' → PotOk pa M H' p' → Rep K pa M H' d v → Q v H'
def tV (K : PySem.W.Frag) (f : EvF) : TE := fun σ H Q => ∃ pa M env p d p', EnvOk K pa M H σ env ∧ PotOk pa M H p ∧ f env p = some (d, p') ∧ ∀ v H', Ext pa H H' → PotOk pa M H' p' → RepV K pa M H' d v → Q v H'
def tB (K : PySem.W.Frag) (f : EvT) : TT := fun σ H Q => ∃ pa M env p b p', EnvOk K pa M H σ env ∧ PotOk pa M H p ∧ f env p = some (b, p') ∧ ∀ H', Ext pa H H' → PotOk pa M H' p' → Q b H'
def tL (K : PySem.W.Frag) (f : EvA) : TA := fun σ H Q => ∃ pa M env p ds p', EnvOk K pa M H σ env ∧ PotOk pa M H p ∧ f env p = some (ds, p') ∧ ∀ vs H', Ext pa H H' → PotOk pa M H' p' → Reps K pa M H' ds vs → Q vs H'
abbrev PD (X : Cx) (e : Expr) (f : EvF) : Prop := PE X e (tE X.K f)
abbrev PV (X : Cx) (e : Expr) (f : EvF) : Prop := PE X e (tV X.K f)
abbrev PB (X : Cx) (e : Expr) (f : EvT) : Prop := PT X e (tB X.K f)
abbrev PL (X : Cx) (es : List Expr) (f : EvA) : Prop := PA X es (tL X.K f)
theorem PE.weak {X : Cx} {e : Expr} {t t' : TE} (h : PE X e t) (w : ∀ σ H Q, t' σ H Q → t σ H Q) : PE X e t' := ⟨fun pins s σ H Q I q => h.run pins s σ H Q I (w σ H Q q)⟩
theorem PT.weak {X : Cx} {e : Expr} {t t' : TT} (h : PT X e t) (w : ∀ σ H Q, t' σ H Q → t σ H Q) : PT X e t' := ⟨fun pins s σ H Q I q => h.run pins s σ H Q I (w σ H Q q)⟩
theorem PW.weak {X : Cx} {e : Expr} {t t' : TT} (h : PW X e t) (w : ∀ σ H Q, t' σ H Q → t σ H Q) : PW X e t' := ⟨fun wh pins s σ H Q I q => h.run wh pins s σ H Q I (w σ H Q q)⟩
theorem PA.weak {X : Cx} {e : List Expr} {t t' : TA} (h : PA X e t) (w : ∀ σ H Q, t' σ H Q → t σ H Q) : PA X e t' := ⟨fun pos pins s σ H Q I q => h.run pos pins s σ H Q I (w σ H Q q)⟩
theorem PD.view {X : Cx} {e : Expr} {f : EvF} (h : PD X e f) : PV X e f := PE.weak h fun σ H Q ⟨pa, M, env, p, d, p', hE, hP, hf, k⟩ =>
  ⟨pa, M, env, p, d, p', hE, hP, hf, fun v H' x k' r => k v H' x k' (r.view k')⟩

/-! ### combinators -/
def bindE (f : EvF) (k : D → Env → Pot → Option (D × Pot)) : EvF := fun env p => (f env p).bind fun r => k r.1 env r.2
def op1 (g : D → Option D) (f : EvF) : EvF := fun env p => (f env p).bind fun r => (g r.1).map fun d => (d, r.2)
def op2 (g : D → D → Option D) (f f' : EvF) : EvF := fun env p => (f env p).bind fun r => (f' env r.2).bind fun r' => (g r.1 r'.1).map fun d => (d, r'.2)
theorem op2_some {g : D → D → Option D} {f f' : EvF} {env : Env} {p p' : Pot} {d : D} (h : op2 g f f' env p = some (d, p')) :
    ∃ x p1 y, f env p = some (x, p1) ∧ f' env p1 = some (y, p') ∧ g x y = some d := by
  unfold op2 at h
  cases h1 : f env p with
  | none => rw [h1] at h; cases h
  | some r =>
    rw [h1] at h
    obtain ⟨x, p1⟩ := r
    cases h2 : f' env p1 with
    | none => simp [h2] at h
    | some r2 =>
      obtain ⟨y, p2⟩ := r2
      cases h3 : g x y with
      | none => simp [h2, h3] at h
      | some z =>
        simp [h2, h3] at h
        obtain ⟨e1, e2⟩ := h
        subst e1 e2
        exact ⟨x, p1, y, rfl, h2, h3⟩
theorem op1_some {g : D → Option D} {f : EvF} {env : Env} {p p' : Pot} {d : D} (h : op1 g f env p = some (d, p')) : ∃ x, f env p = some (x, p') ∧ g x = some d := by
  unfold op1 at h
  cases h1 : f env p with
  | none => rw [h1] at h; cases h
  | some r =>
    rw [h1] at h
    obtain ⟨x, p1⟩ := r
    cases h3 : g x with
    | none => simp [h3] at h
    | some z => simp [h3] at h; obtain ⟨e1, e2⟩ := h; subst e1 e2; exact ⟨x, rfl, h3⟩
/-- a rule of two values over data -/
def rD2 (K : PySem.W.Frag) (g : D → D → Option D) : R2 := fun x y H Q => ∃ pa M p dx dy d, (∀ a, M a → (H a).isSome = true) ∧ PotOk pa M H p ∧ RepV K pa M H dx x ∧ RepV K pa M H dy y ∧ g dx dy = some d ∧ ∀ v H', Same H H' → Rep K pa M H' d v → Q v H'
def rD1 (K : PySem.W.Frag) (g : D → Option D) : V → Hp → VK → Prop := fun x H Q => ∃ pa M p dx d, (∀ a, M a → (H a).isSome = true) ∧ PotOk pa M H p ∧ RepV K pa M H dx x ∧ g dx = some d ∧ ∀ v H', Same H H' → Rep K pa M H' d v → Q v H'
section
variable {X : Cx} {a b : Expr} {f f' : EvF} {g : D → D → Option D} {pos : Pos}
theorem tOp_of {σ : L2.St} {H : Hp} {Q : VK} (h : tE X.K (op2 g f f') σ H Q) : tOp (rD2 X.K g) (tV X.K f) (tV X.K f') σ H Q := by
  obtain ⟨pa, M, env, p, d, p', hE, hP, hf, k⟩ := h
  obtain ⟨x, p1, y, h1, h2, h3⟩ := op2_some hf
  refine ⟨pa, M, env, p, x, p1, hE, hP, h1, fun v H1 x1 k1 r1 => ?_⟩
  refine ⟨pa, M, env, p1, y, p', hE.ext x1 hP k1, k1, h2, fun u H2 x2 k2 r2 => ?_⟩
  exact ⟨pa, M, p', x, y, d, x2.dom k2 (x1.dom k1 hE.dom), k2, r1.ext x2 k1, r2, h3, fun w H3 s3 r3 => k w H3 ((x1.trans x2).trans (Ext.same s3)) (k2.same s3) r3⟩
theorem tUn_of {g : D → Option D} {σ : L2.St} {H : Hp} {Q : VK} (h : tE X.K (op1 g f) σ H Q) : tUn (rD1 X.K g) (tV X.K f) σ H Q := by
  obtain ⟨pa, M, env, p, d, p', hE, hP, hf, k⟩ := h
  obtain ⟨x, h1, h3⟩ := op1_some hf
  refine ⟨pa, M, env, p, x, p', hE, hP, h1, fun v H1 x1 k1 r1 => ?_⟩
  exact ⟨pa, M, p', x, d, x1.dom k1 hE.dom, k1, r1, h3, fun w H3 s3 r3 => k w H3 (x1.trans (Ext.same s3)) (k1.same s3) r3⟩
theorem pd_bin {op : Operator} (ho : OpR X (binaryOp op) (rD2 X.K g)) (ha : PV X a f) (hb : PV X b f') : PD X (.BinOp a op b pos) (op2 g f f') := PE.weak (pe_op ho ha hb) fun _ _ _ h => tOp_of h
theorem pd_cmp {op : CmpOp} (ho : OpR X (compareOp op) (rD2 X.K g)) (ha : PV X a f) (hb : PV X b f') (hm : behindInMarks op b = false) : PD X (.Compare a [op] [b] pos) (op2 g f f') := PE.weak (pe_cmpR ho ha hb hm) fun _ _ _ h => tOp_of h
theorem pd_un {op : UnaryOp} {g : D → Option D} (ho : UnR X (unaryOp op) (rD1 X.K g)) (ha : PV X a f) : PD X (.UnaryOp op a pos) (op1 g f) := PE.weak (pe_un ho ha) fun _ _ _ h => tUn_of h
theorem pd_ix {g : D → D → Option D} (hr : IxR X (rD2 X.K g)) (ha : PV X a f) (hb : PV X b f') (hs : PlainIx b) : PD X (.Subscript a b pos) (op2 g f f') := PE.weak (pe_ix hr ha hb hs) fun _ _ _ h => tOp_of h
end

/-! ### names and constants -/
def evVar (i : Nat) : EvF := fun env p => match env[i]? with
  | some (some (.dat d)) => some (d, p)
  | _ => none
def evOwn (i : Nat) : EvF := fun env p => match env[i]? with
  | some (some (.own ds)) => some (.lst ds, p)
  | _ => none
def evC (d : D) : EvF := fun _ p => some (d, p)
section
variable {X : Cx} {pos : Pos}
theorem pd_var {i : Nat} {x : Str} (hN : X.N[i]? = some x) (hv : Vis X.env.scope x) (hd : (x == ("__debug__" : Str)) = false) (hcd : (x == ("__classdict__" : Str)) = false) : PD X (.Name x pos) (evVar i) :=
  PE.weak (pe_var hN hv hd hcd) fun σ H Q ⟨pa, M, env, p, d, p', hE, hP, hf, k⟩ => by
    unfold evVar at hf
    split at hf
    · rename_i d' e
      cases hf
      obtain ⟨v, h1, h2⟩ := hE.slot i _ e
      exact ⟨v, h1, k v H Ext.refl hP h2⟩
    · cases hf
theorem pv_own {i : Nat} {x : Str} (hN : X.N[i]? = some x) (hv : Vis X.env.scope x) (hd : (x == ("__debug__" : Str)) = false) (hcd : (x == ("__classdict__" : Str)) = false) : PV X (.Name x pos) (evOwn i) :=
  PE.weak (pe_var hN hv hd hcd) fun σ H Q ⟨pa, M, env, p, d, p', hE, hP, hf, k⟩ => by
    unfold evOwn at hf
    split at hf
    · rename_i d' e
      cases hf
      obtain ⟨v, h1, a, xs, e1, m, n, q, r⟩ := hE.slot i _ e
      exact ⟨v, h1, k v H Ext.refl hP ⟨a, xs, e1, n, q, r⟩⟩
    · cases hf
theorem pd_const {e : Expr} {d : D} {v : V} (h : PE X e (tC v)) (r : ∀ pa M H, Rep X.K pa M H d v) : PD X e (evC d) :=
  PE.weak h fun σ H Q ⟨pa, M, env, p, d', p', hE, hP, hf, k⟩ => by
    cases hf
    exact k v H Ext.refl hP (r _ _ _)
end

/-! ### tests, and, or -/
def truD : D → Option Bool
  | .non => some false
  | .bl b => some b
  | .int i => some (i != 0)
  | .str x => if x.length ≤ sizeLine then some ((x.length : Int) != 0) else none
  | .tup ds => some (!ds.isEmpty)
  | .lst ds => some (!ds.isEmpty)
  | .dic kvs => some (!kvs.isEmpty)
  | _ => none
theorem Reps.isEmpty {K : PySem.W.Frag} {pa : Option Addr} {M : Ms} {H : Hp} {ds : List D} {xs : List V} (r : Reps K pa M H ds xs) : (!ds.isEmpty) = !xs.isEmpty := by
  have := r.length
  cases ds <;> cases xs <;> simp_all
theorem RepF.isEmpty {K : PySem.W.Frag} {pa : Option Addr} {M : Ms} {H : Hp} {ds : List (Str × D)} {xs : List (Str × V)} (r : RepF K pa M H ds xs) : (!ds.isEmpty) = !xs.isEmpty := by
  cases ds with
  | nil => cases r; rfl
  | cons q t => obtain ⟨v, r', e, _⟩ := r; subst e; rfl
theorem RepK.isEmpty {K : PySem.W.Frag} {pa : Option Addr} {M : Ms} {H : Hp} {ds : List (L2.Key × D)} {xs : List (L2.Key × V)} (r : RepK K pa M H ds xs) : (!ds.isEmpty) = !xs.isEmpty := by
  cases ds with
  | nil => cases r; rfl
  | cons q t => obtain ⟨v, r', e, _⟩ := r; subst e; rfl
theorem truD_ok {K : PySem.W.Frag} {pa : Option Addr} {M : Ms} {H : Hp} {d : D} {v : V} {b : Bool} (h : RepV K pa M H d v) (e : truD d = some b) : TruV K v H b := by
  cases d with
  | non => cases h; cases e; rfl
  | bl c => cases h; cases e; rfl
  | int i => cases h; cases e; rfl
  | str x =>
    obtain ⟨rfl, _⟩ := h
    simp only [truD] at e
    split at e
    · cases e; exact ⟨by assumption, rfl⟩
    · cases e
  | tup ds =>
    obtain ⟨a, xs, rfl, t, r⟩ := h
    cases e
    exact .inr (.inl ⟨xs, t.sq, r.isEmpty⟩)
  | lst ds =>
    obtain ⟨a, xs, rfl, n, t, r⟩ := h
    cases e
    exact .inl ⟨xs, .inl (.inl t), r.isEmpty⟩
  | dic kvs =>
    obtain ⟨a, ws, rfl, t, r⟩ := h
    cases e
    exact .inr (.inr ⟨_, t.2, r.isEmpty⟩)
  | obj c fs => cases e
  | cls c => cases e
  | ty n => cases e
  | pot => cases e
  | scr ns => cases e
/-- the truth of an expression's value -/
def evTru (f : EvF) : EvT := fun env p => (f env p).bind fun r => (truD r.1).map fun b => (b, r.2)
theorem evTru_some {f : EvF} {env : Env} {p p' : Pot} {b : Bool} (h : evTru f env p = some (b, p')) : ∃ x, f env p = some (x, p') ∧ truD x = some b := by
  unfold evTru at h
  cases h1 : f env p with
  | none => rw [h1] at h; cases h
  | some r =>
    rw [h1] at h
    obtain ⟨x, p1⟩ := r
    cases h3 : truD x with
    | none => simp [h3] at h
    | some z => simp [h3] at h; obtain ⟨e1, e2⟩ := h; subst e1 e2; exact ⟨x, rfl, h3⟩
def evNotT (f : EvT) : EvT := fun env p => (f env p).map fun r => (!r.1, r.2)
def evAndT (f g : EvT) : EvT := fun env p => (f env p).bind fun r => if r.1 then g env r.2 else some (false, r.2)
def evOrT (f g : EvT) : EvT := fun env p => (f env p).bind fun r => if r.1 then some (true, r.2) else g env r.2
def evNot (f : EvF) : EvF := fun env p => (evTru f env p).map fun r => (.bl (!r.1), r.2)
def evAnd (f g : EvF) : EvF := fun env p => (f env p).bind fun r => (truD r.1).bind fun b => if b then g env r.2 else some r
def evOr (f g : EvF) : EvF := fun env p => (f env p).bind fun r => (truD r.1).bind fun b => if b then some r else g env r.2
def evIf (c : EvT) (f g : EvF) : EvF := fun env p => (c env p).bind fun r => if r.1 then f env r.2 else g env r.2
section
variable {X : Cx} {a b c : Expr} {rest : List Expr} {f f' : EvF} {t t' : EvT} {pos : Pos}
theorem pb_truth (h : PV X a f) (he : ∀ whole, isTrue a X.env whole = (do let v ← whole; standAt a.pos; holding [v] (truthy v))) : PB X a (evTru f) :=
  PT.weak (pt_truth h he) fun σ H Q ⟨pa, M, env, p, b, p', hE, hP, hf, k⟩ => by
    obtain ⟨x, h1, h2⟩ := evTru_some hf
    exact ⟨pa, M, env, p, x, p', hE, hP, h1, fun v H1 x1 k1 r1 => ⟨b, truD_ok r1 h2, k H1 x1 k1⟩⟩
theorem pb_not (h : PB X a t) : PB X (.UnaryOp .Not a pos) (evNotT t) :=
  PT.weak (pt_not h) fun σ H Q ⟨pa, M, env, p, b, p', hE, hP, hf, k⟩ => by
    unfold evNotT at hf
    obtain ⟨⟨b', p1⟩, h1, h2⟩ := Option.map_eq_some_iff.mp hf
    cases h2
    exact ⟨pa, M, env, p, b', p1, hE, hP, h1, fun H1 x1 k1 => k H1 x1 k1⟩
theorem pb_cmp {op : CmpOp} {g : D → D → Option D} (ho : OpR X (compareOp op) (rD2 X.K g)) (ha : PV X a f) (hb : PV X b f') (hm : behindInMarks op b = false) (hg : ∀ x y d, g x y = some d → ∃ k, d = .bl k) : PB X (.Compare a [op] [b] pos) (evTru (op2 g f f')) :=
  PT.weak (pt_cmpR ho ha hb hm) fun σ H Q ⟨pa, M, env, p, b, p', hE, hP, hf, k⟩ => by
    obtain ⟨x, h1, h2⟩ := evTru_some hf
    refine tOp_of (X := X) ⟨pa, M, env, p, x, p', hE, hP, h1, fun v H1 x1 k1 r1 => ?_⟩
    obtain ⟨_, _, _, _, _, h3⟩ := op2_some h1
    obtain ⟨z, rfl⟩ := hg _ _ _ h3
    cases h2
    cases r1
    exact ⟨_, rfl, k H1 x1 k1⟩
structure PWB (X : Cx) (e : Expr) (f : EvT) : Prop where
  run : PW X e (tB X.K f)
theorem PWB.pb {e : Expr} (h : PWB X e t) : PB X e t := PW.pt h.run
theorem pwb_and1 (h : PB X a t) : PWB X (.BoolOp .And [a] pos) t := ⟨pw_and1 h⟩
theorem pwb_or1 (h : PB X a t) : PWB X (.BoolOp .Or [a] pos) t := ⟨pw_or1 h⟩
theorem pwb_and (ha : PB X a t) (hb : PWB X (.BoolOp .And (b :: rest) pos) t') : PWB X (.BoolOp .And (a :: b :: rest) pos) (evAndT t t') :=
  ⟨PW.weak (pw_and ha hb.run) fun σ H Q ⟨pa, M, env, p, b, p', hE, hP, hf, k⟩ => by
    unfold evAndT at hf
    obtain ⟨⟨b1, p1⟩, h1, h2⟩ := Option.bind_eq_some_iff.mp hf
    refine ⟨pa, M, env, p, b1, p1, hE, hP, h1, fun H1 x1 k1 => ?_⟩
    cases b1 with
    | true => exact ite_tt ⟨pa, M, env, p1, b, p', hE.ext x1 hP k1, k1, h2, fun H2 x2 k2 => k H2 (x1.trans x2) k2⟩
    | false => cases h2; exact ite_ff (k H1 x1 k1)⟩
theorem pwb_or (ha : PB X a t) (hb : PWB X (.BoolOp .Or (b :: rest) pos) t') : PWB X (.BoolOp .Or (a :: b :: rest) pos) (evOrT t t') :=
  ⟨PW.weak (pw_or ha hb.run) fun σ H Q ⟨pa, M, env, p, b, p', hE, hP, hf, k⟩ => by
    unfold evOrT at hf
    obtain ⟨⟨b1, p1⟩, h1, h2⟩ := Option.bind_eq_some_iff.mp hf
    refine ⟨pa, M, env, p, b1, p1, hE, hP, h1, fun H1 x1 k1 => ?_⟩
    cases b1 with
    | true => cases h2; exact ite_tt (k H1 x1 k1)
    | false => exact ite_ff ⟨pa, M, env, p1, b, p', hE.ext x1 hP k1, k1, h2, fun H2 x2 k2 => k H2 (x1.trans x2) k2⟩⟩
theorem pd_not (h : PV X a f) : PD X (.UnaryOp .Not a pos) (evNot f) :=
  PE.weak (pe_notT h) fun σ H Q ⟨pa, M, env, p, d, p', hE, hP, hf, k⟩ => by
    unfold evNot at hf
    obtain ⟨⟨b1, p1⟩, h1, h2⟩ := Option.map_eq_some_iff.mp hf
    cases h2
    obtain ⟨x, h3, h4⟩ := evTru_some h1
    exact ⟨pa, M, env, p, x, p1, hE, hP, h3, fun v H1 x1 k1 r1 => ⟨b1, truD_ok r1 h4, k _ H1 x1 k1 rfl⟩⟩
theorem pd_and (ha : PD X a f) (hb : PD X (.BoolOp .And (b :: rest) pos) f') : PD X (.BoolOp .And (a :: b :: rest) pos) (evAnd f f') :=
  PE.weak (pe_andT ha hb) fun σ H Q ⟨pa, M, env, p, d, p', hE, hP, hf, k⟩ => by
    unfold evAnd at hf
    obtain ⟨⟨x, p1⟩, h1, h2⟩ := Option.bind_eq_some_iff.mp hf
    obtain ⟨b1, h3, h4⟩ := Option.bind_eq_some_iff.mp h2
    refine ⟨pa, M, env, p, x, p1, hE, hP, h1, fun v H1 x1 k1 r1 => ⟨b1, truD_ok (r1.view k1) h3, ?_⟩⟩
    cases b1 with
    | true => exact ite_tt ⟨pa, M, env, p1, d, p', hE.ext x1 hP k1, k1, h4, fun u H2 x2 k2 r2 => k u H2 (x1.trans x2) k2 r2⟩
    | false => cases h4; exact ite_ff (k v H1 x1 k1 r1)
theorem pd_or (ha : PD X a f) (hb : PD X (.BoolOp .Or (b :: rest) pos) f') : PD X (.BoolOp .Or (a :: b :: rest) pos) (evOr f f') :=
  PE.weak (pe_orT ha hb) fun σ H Q ⟨pa, M, env, p, d, p', hE, hP, hf, k⟩ => by
    unfold evOr at hf
    obtain ⟨⟨x, p1⟩, h1, h2⟩ := Option.bind_eq_some_iff.mp hf
    obtain ⟨b1, h3, h4⟩ := Option.bind_eq_some_iff.mp h2
    refine ⟨pa, M, env, p, x, p1, hE, hP, h1, fun v H1 x1 k1 r1 => ⟨b1, truD_ok (r1.view k1) h3, ?_⟩⟩
    cases b1 with
    | true => cases h4; exact ite_tt (k v H1 x1 k1 r1)
    | false => exact ite_ff ⟨pa, M, env, p1, d, p', hE.ext x1 hP k1, k1, h4, fun u H2 x2 k2 r2 => k u H2 (x1.trans x2) k2 r2⟩
theorem pd_one {op : BoolOp} (h : PD X a f) : PD X (.BoolOp op [a] pos) f := pe_one h
theorem pd_if (hc : PB X c t) (ha : PD X a f) (hb : PD X b f') : PD X (.IfExp c a b pos) (evIf t f f') :=
  PE.weak (pe_ifExp hc ha hb) fun σ H Q ⟨pa, M, env, p, d, p', hE, hP, hf, k⟩ => by
    unfold evIf at hf
    obtain ⟨⟨b1, p1⟩, h1, h2⟩ := Option.bind_eq_some_iff.mp hf
    refine ⟨pa, M, env, p, b1, p1, hE, hP, h1, fun H1 x1 k1 => ?_⟩
    cases b1 with
    | true => exact ite_tt ⟨pa, M, env, p1, d, p', hE.ext x1 hP k1, k1, h2, fun u H2 x2 k2 r2 => k u H2 (x1.trans x2) k2 r2⟩
    | false => exact ite_ff ⟨pa, M, env, p1, d, p', hE.ext x1 hP k1, k1, h2, fun u H2 x2 k2 r2 => k u H2 (x1.trans x2) k2 r2⟩
end

/-! ### lists of arguments, displays -/
def evNil : EvA := fun _ p => some ([], p)
def evCons (f : EvF) (g : EvA) : EvA := fun env p => (f env p).bind fun r => (g env r.2).map fun q => (r.1 :: q.1, q.2)
def evTup (f : EvA) : EvF := fun env p => (f env p).bind fun r => if r.1.length ≤ sizeLine then some (.tup r.1, r.2) else none
def evLst (f : EvA) : EvF := fun env p => (f env p).bind fun r => if r.1.length ≤ sizeLine then some (.lst r.1, r.2) else none
section
variable {X : Cx} {e : Expr} {es : List Expr} {f : EvF} {g : EvA} {pos : Pos}
theorem pl_nil : PL X [] evNil := PA.weak pa_nil fun σ H Q ⟨pa, M, env, p, d, p', hE, hP, hf, k⟩ => by
  cases hf
  exact k [] H Ext.refl hP rfl
theorem pl_cons (ha : PD X e f) (hr : PL X es g) (hs : starEach (e :: es) X.env = (false, eval e X.env) :: starEach es X.env) : PL X (e :: es) (evCons f g) :=
  PA.weak (pa_cons ha hr hs) fun σ H Q ⟨pa, M, env, p, d, p', hE, hP, hf, k⟩ => by
    unfold evCons at hf
    obtain ⟨⟨x, p1⟩, h1, h2⟩ := Option.bind_eq_some_iff.mp hf
    obtain ⟨⟨xs, p2⟩, h3, h4⟩ := Option.map_eq_some_iff.mp h2
    cases h4
    refine ⟨pa, M, env, p, x, p1, hE, hP, h1, fun v H1 x1 k1 r1 => ?_⟩
    exact ⟨pa, M, env, p1, xs, p2, hE.ext x1 hP k1, k1, h3, fun vs H2 x2 k2 r2 => k (v :: vs) H2 (x1.trans x2) k2 (.cons (Rep.up (x2.up k1) r1) r2)⟩
theorem new_not {pa : Option Addr} {M : Ms} {H : Hp} {q : Addr} (dom : ∀ a, M a → (H a).isSome = true) (hq : H q = none) : ¬ M q := fun m => by
  have := dom q m
  rw [hq] at this
  cases this
theorem pd_tup {x1 : Nat} (h : PL X es g) : PD X (.Tuple es x1 pos) (evTup g) :=
  PE.weak (pe_tup h) fun σ H Q ⟨pa, M, env, p, d, p', hE, hP, hf, k⟩ => by
    unfold evTup at hf
    obtain ⟨⟨xs, p1⟩, h1, h2⟩ := Option.bind_eq_some_iff.mp hf
    split at h2
    · rename_i hl
      cases h2
      refine ⟨pa, M, env, p, xs, _, hE, hP, h1, fun vs H1 x1 k1 r1 => ⟨by rw [← r1.length]; exact hl, fun q hq => ?_⟩⟩
      have s1 : Same H1 (upd H1 q (.tup vs)) := Same.upd hq
      exact k _ _ (x1.trans (Ext.same s1)) (k1.same s1) ⟨q, vs, rfl, .inl ⟨new_not (pa := pa) (x1.dom k1 hE.dom) hq, upd_same⟩, Reps.up (Up.same s1) r1⟩
    · cases h2
theorem pd_lst (h : PL X es g) : PD X (.List es pos) (evLst g) :=
  PE.weak (pe_lst h) fun σ H Q ⟨pa, M, env, p, d, p', hE, hP, hf, k⟩ => by
    unfold evLst at hf
    obtain ⟨⟨xs, p1⟩, h1, h2⟩ := Option.bind_eq_some_iff.mp hf
    split at h2
    · rename_i hl
      cases h2
      refine ⟨pa, M, env, p, xs, _, hE, hP, h1, fun vs H1 x1 k1 r1 => ⟨by rw [← r1.length]; exact hl, fun q hq => ?_⟩⟩
      have s1 : Same H1 (upd H1 q (.lst vs)) := Same.upd hq
      exact k _ _ (x1.trans (Ext.same s1)) (k1.same s1) ⟨q, vs, rfl, ⟨new_not (pa := pa) (x1.dom k1 hE.dom) hq, upd_same⟩, Reps.up (Up.same s1) r1⟩
    · cases h2
end
end Rc

-- Rc3
set_option Elab.async false
set_option linter.all false
set_option maxRecDepth 100000
set_option maxHeartbeats 4000000
namespace Rc
open PySem PySem.Spec PyProof.Rows L2

/-! ### plain data as the library has it -/
mutual
def toPy : D → PyData
  | .non => .none
  | .bl b => .bool b
  | .int i => .int i
  | .str x => .str x
  | .tup ds => .tuple (toPys ds)
  | .lst ds => .list (toPys ds)
  | _ => .dict []
def toPys : List D → List PyData
  | [] => []
  | d :: ds => toPy d :: toPys ds
end
mutual
def plainD : D → Bool
  | .non => true
  | .bl _ => true
  | .int _ => true
  | .str _ => true
  | .tup ds => plainDs ds
  | .lst ds => plainDs ds
  | _ => false
def plainDs : List D → Bool
  | [] => true
  | d :: ds => plainD d && plainDs ds
end
mutual
def depD : D → Nat
  | .tup ds => depDs ds + 1
  | .lst ds => depDs ds + 1
  | _ => 0
def depDs : List D → Nat
  | [] => 0
  | d :: ds => max (depD d) (depDs ds)
end
mutual
theorem depth_toPy : ∀ d : D, plainD d = true → (toPy d).depth = depD d
  | .non, _ => rfl
  | .bl _, _ => rfl
  | .int _, _ => rfl
  | .str _, _ => rfl
  | .tup ds, h => by simp only [toPy, PyData.depth, depD, depth_toPys ds (by simpa [plainD] using h)]
  | .lst ds, h => by simp only [toPy, PyData.depth, depD, depth_toPys ds (by simpa [plainD] using h)]
  | .dic _, h => by simp [plainD] at h
  | .obj _ _, h => by simp [plainD] at h
  | .cls _, h => by simp [plainD] at h
  | .ty _, h => by simp [plainD] at h
  | .pot, h => by simp [plainD] at h
  | .scr _, h => by simp [plainD] at h
theorem depth_toPys : ∀ ds : List D, plainDs ds = true → PyData.depthAll (toPys ds) = depDs ds
  | [], _ => rfl
  | d :: ds, h => by
    have h' : plainD d = true ∧ plainDs ds = true := by simpa [plainDs] using h
    simp only [toPys, PyData.depthAll, depDs, depth_toPy d h'.1, depth_toPys ds h'.2]
end
section
variable {K : PySem.W.Frag} {pa : Option Addr} {M : Ms} {H : Hp}
mutual
theorem Rep.dp : ∀ {d : D} {v : V}, Rep K pa M H d v → plainD d = true → Dp K H v (toPy d) ∧ (toPy d).canLay0 = true
  | .non, _, h, _ => by cases h; exact ⟨.non, rfl⟩
  | .bl _, _, h, _ => by cases h; exact ⟨.bl _, rfl⟩
  | .int _, _, h, _ => by cases h; exact ⟨.int _, rfl⟩
  | .str _, _, h, _ => by obtain ⟨rfl, h⟩ := h; exact ⟨.str _, by simpa [toPy, PyData.canLay0] using h⟩
  | .tup ds, _, ⟨a, xs, e, t, r⟩, h => by
    subst e
    obtain ⟨h1, h2⟩ := Reps.dp r (by simpa [plainD] using h)
    exact ⟨.tup t.sq h1, by simpa [toPy, PyData.canLay0] using h2⟩
  | .lst ds, _, ⟨a, xs, e, t, r⟩, h => by
    subst e
    obtain ⟨h1, h2⟩ := Reps.dp r (by simpa [plainD] using h)
    exact ⟨.lst t.sq h1, by simpa [toPy, PyData.canLay0] using h2⟩
  | .dic _, _, _, h => by simp [plainD] at h
  | .obj _ _, _, _, h => by simp [plainD] at h
  | .cls _, _, _, h => by simp [plainD] at h
  | .ty _, _, _, h => by simp [plainD] at h
  | .pot, _, _, h => by simp [plainD] at h
  | .scr _, _, _, h => by simp [plainD] at h
theorem Reps.dp : ∀ {ds : List D} {vs : List V}, Reps K pa M H ds vs → plainDs ds = true → DpAll K H vs (toPys ds) ∧ PyData.canLayAll0 (toPys ds) = true
  | [], _, h, _ => by cases h; exact ⟨.nil, rfl⟩
  | d :: ds, _, ⟨v, r, e, h1, h2⟩, h => by
    subst e
    have h' : plainD d = true ∧ plainDs ds = true := by simpa [plainDs] using h
    obtain ⟨a1, b1⟩ := Rep.dp h1 h'.1
    obtain ⟨a2, b2⟩ := Reps.dp h2 h'.2
    exact ⟨.cons a1 a2, by simp [toPys, PyData.canLayAll0, b1, b2]⟩
end
theorem RepV.dp {d : D} {v : V} (h : RepV K pa M H d v) (hp : plainD d = true) : Dp K H v (toPy d) ∧ (toPy d).canLay0 = true := by
  cases d with
  | lst ds =>
    obtain ⟨a, xs, rfl, n, t, r⟩ := h
    obtain ⟨h1, h2⟩ := Reps.dp r (by simpa [plainD] using hp)
    exact ⟨.lst (.inl (.inl t)) h1, by simpa [toPy, PyData.canLay0] using h2⟩
  | _ => exact Rep.dp (pa := pa) (M := M) h hp
def okD (d : D) : Bool := plainD d && decide (depD d ≤ 64)
theorem RepV.shaped {d : D} {v : V} (h : RepV K pa M H d v) (hp : okD d = true) : Dp K H v (toPy d) ∧ SeqAt.shaped (toPy d) = true := by
  obtain ⟨h1, h2⟩ := Bool.and_eq_true_iff.mp hp
  obtain ⟨a, b⟩ := h.dp h1
  refine ⟨a, ?_⟩
  unfold SeqAt.shaped
  rw [b, depth_toPy d h1]
  simpa using h2
end
def eqB (d e : D) : Bool := PyData.eqv (toPy d) (toPy e)

/-! ### operators -/
theorem OpR.imp {X : Cx} {f : Value → Value → Sem Value} {r r' : R2} (h : OpR X f r) (w : ∀ x y H Q, r' x y H Q → r x y H Q) : OpR X f r' := fun pins s σ H x y v u Q I rx ry q => h pins s σ H x y v u Q I rx ry (w x y H Q q)
def addD : D → D → Option D
  | .int i, .int j => some (.int (i + j))
  | .str x, .str y => if x.length + y.length ≤ sizeLine then some (.str (x ++ y)) else none
  | .tup x, .tup y => if x.length + y.length ≤ sizeLine then some (.tup (x ++ y)) else none
  | .lst x, .lst y => if x.length + y.length ≤ sizeLine then some (.lst (x ++ y)) else none
  | _, _ => none
def subD : D → D → Option D
  | .int i, .int j => some (.int (i - j))
  | _, _ => none
instance (i j : Int) : Decidable (CMul i j) := inferInstanceAs (Decidable (_ ∨ _))
instance (i j : Int) : Decidable (CDiv i j) := inferInstanceAs (Decidable (_ ∧ _))
def mulD : D → D → Option D
  | .int i, .int j => if CMul i j then some (.int (i * j)) else none
  | .lst x, .int j => if -(2 ^ 63) ≤ j ∧ j < 2 ^ 63 ∧ x.length * j.toNat ≤ sizeLine then some (.lst (List.replicate j.toNat x).flatten) else none
  | _, _ => none
def fdivD : D → D → Option D
  | .int i, .int j => if CDiv i j then some (.int (i / j)) else none
  | _, _ => none
def modD : D → D → Option D
  | .int i, .int j => if 0 < j then some (.int (i % j)) else none
  | _, _ => none
def powD : D → D → Option D
  | .int i, .int j => if 0 ≤ j ∧ (Builtin.Int.intBits i : Int) * j ≤ 2 ^ 27 then some (.int (i ^ j.toNat)) else none
  | _, _ => none
def eqD (x y : D) : Option D := if okD x && okD y then some (.bl (eqB x y)) else none
def neD (x y : D) : Option D := if okD x && okD y then some (.bl (!eqB x y)) else none
def ltD : D → D → Option D
  | .int i, .int j => some (.bl (decide (i < j)))
  | .str x, .str y => some (.bl (decide (x.cps.toList < y.cps.toList)))
  | _, _ => none
def leD : D → D → Option D
  | .int i, .int j => some (.bl (decide (i ≤ j)))
  | .str x, .str y => some (.bl (!decide (y.cps.toList < x.cps.toList)))
  | _, _ => none
def gtD : D → D → Option D
  | .int i, .int j => some (.bl (decide (j < i)))
  | .str x, .str y => some (.bl (decide (y.cps.toList < x.cps.toList)))
  | _, _ => none
def geD : D → D → Option D
  | .int i, .int j => some (.bl (decide (j ≤ i)))
  | .str x, .str y => some (.bl (!decide (x.cps.toList < y.cps.toList)))
  | _, _ => none
def isNon : D → Bool
  | .non => true
  | _ => false
def isD : D → D → Option D
  | x, .non => some (.bl (isNon x))
  | _, _ => none
def isntD : D → D → Option D
  | x, .non => some (.bl (!isNon x))
  | _, _ => none
def flatD : D → Bool
  | .non => true
  | .bl _ => true
  | .int _ => true
  | .str _ => true
  | _ => false
/-- whether x is in y -/
def memD : D → D → Option Bool
  | .str x, .str y => match x.cps.toList with
    | [c] => some (decide (c ∈ y.cps.toList))
    | _ => none
  | x, .tup ds => if flatD x && ds.all flatD then some (ds.any fun y => eqB y x) else none
  | x, .lst ds => if okD x && okD (.lst ds) then some (ds.any fun y => eqB y x) else none
  | _, _ => none
def inD (x y : D) : Option D := (memD x y).map .bl
def notInD (x y : D) : Option D := (memD x y).map fun b => .bl (!b)

theorem strOk_append {x y : Str} (hx : PyData.strOk x = true) (hy : PyData.strOk y = true) : PyData.strOk (x ++ y) = true := by
  have e : (x ++ y).cps = x.cps ++ y.cps := rfl
  unfold PyData.strOk at *
  rw [e, Array.all_append, hx, hy]
  rfl
section
variable {X : Cx} {K : PySem.W.Frag} {pa : Option Addr} {M : Ms} {H : Hp} {d e : D} {x y : V}
theorem op_addD : OpR X (binaryOp .Add) (rD2 X.K addD) := by
  refine OpR.imp (OpR.or (OpR.or op_add op_add_str) (OpR.or op_cat op_catA)) fun x y H Q ⟨pa, M, p, dx, dy, d, dom, hP, rx, ry, e, k⟩ => ?_
  unfold addD at e
  split at e
  · cases rx; cases ry; cases e
    exact .inl (.inl ⟨_, _, rfl, rfl, k _ H (Same.refl H) rfl⟩)
  · obtain ⟨rfl, o1⟩ := rx
    obtain ⟨rfl, o2⟩ := ry
    split at e
    · cases e
      exact .inl (.inr ⟨_, _, rfl, rfl, by assumption, k _ H (Same.refl H) ⟨rfl, strOk_append o1 o2⟩⟩)
    · cases e
  · obtain ⟨a, xs, rfl, t, r⟩ := rx
    obtain ⟨b, ys, rfl, t', r'⟩ := ry
    split at e
    · rename_i hl
      cases e
      rw [r.length, r'.length] at hl
      refine .inr (.inr ⟨a, b, xs, ys, rfl, rfl, t.sq, t'.sq, hl, fun z => ?_, fun _ z => ?_, fun _ _ q hq => ?_⟩)
      · subst z
        have := r.length
        simp at this
        subst this
        exact k _ H (Same.refl H) ⟨b, ys, rfl, t', r'⟩
      · subst z
        have := r'.length
        simp at this
        subst this
        exact k _ H (Same.refl H) ⟨a, xs, rfl, t, by simpa using r⟩
      · have s1 : Same H (upd H q (.tup (xs ++ ys))) := Same.upd hq
        exact k _ _ s1 ⟨q, _, rfl, .inl ⟨new_not (pa := pa) dom hq, upd_same⟩, Reps.up (Up.same s1) (r.append r')⟩
    · cases e
  · obtain ⟨a, xs, rfl, n, t, r⟩ := rx
    obtain ⟨b, ys, rfl, n', t', r'⟩ := ry
    split at e
    · rename_i hl
      cases e
      rw [r.length, r'.length] at hl
      refine .inr (.inl ⟨a, b, xs, ys, rfl, rfl, t, t', hl, fun q hq => ?_⟩)
      have s1 : Same H (upd H q (.lst (xs ++ ys))) := Same.upd hq
      exact k _ _ s1 ⟨q, _, rfl, ⟨new_not (pa := pa) dom hq, upd_same⟩, Reps.up (Up.same s1) (r.append r')⟩
    · cases e
  · cases e
theorem op_subD : OpR X (binaryOp .Sub) (rD2 X.K subD) := by
  refine OpR.imp op_sub fun x y H Q ⟨pa, M, p, dx, dy, d, dom, hP, rx, ry, e, k⟩ => ?_
  unfold subD at e
  split at e
  · cases rx; cases ry; cases e
    exact ⟨_, _, rfl, rfl, k _ H (Same.refl H) rfl⟩
  · cases e
theorem Reps.flat {n : Nat} {ds : List D} {xs : List V} (r : Reps K pa M H ds xs) : Reps K pa M H (List.replicate n ds).flatten (List.replicate n xs).flatten := by
  induction n with
  | zero => rfl
  | succ n ih => rw [List.replicate_succ, List.replicate_succ, List.flatten_cons, List.flatten_cons]; exact r.append ih
theorem op_mulD : OpR X (binaryOp .Mult) (rD2 X.K mulD) := by
  refine OpR.imp (OpR.or op_mul op_rep) fun x y H Q ⟨pa, M, p, dx, dy, d, dom, hP, rx, ry, e, k⟩ => ?_
  unfold mulD at e
  split at e
  · cases rx; cases ry
    split at e
    · cases e
      exact .inl ⟨_, _, rfl, rfl, by assumption, k _ H (Same.refl H) rfl⟩
    · cases e
  · obtain ⟨a, xs, rfl, n, t, r⟩ := rx
    cases ry
    split at e
    · rename_i hl
      cases e
      rw [r.length] at hl
      refine .inr ⟨a, _, xs, rfl, rfl, t, hl.1, hl.2.1, hl.2.2, fun q hq => ?_⟩
      have s1 := fun o => Same.upd (o := o) hq
      exact k _ _ (s1 _) ⟨q, _, rfl, ⟨new_not (pa := pa) dom hq, upd_same⟩, Reps.up (Up.same (s1 _)) r.flat⟩
    · cases e
  · cases e
theorem op_fdivD : OpR X (binaryOp .FloorDiv) (rD2 X.K fdivD) := by
  refine OpR.imp op_fdiv fun x y H Q ⟨pa, M, p, dx, dy, d, dom, hP, rx, ry, e, k⟩ => ?_
  unfold fdivD at e
  split at e
  · cases rx; cases ry
    split at e
    · cases e
      exact ⟨_, _, rfl, rfl, by assumption, k _ H (Same.refl H) rfl⟩
    · cases e
  · cases e
theorem op_modD : OpR X (binaryOp .Mod) (rD2 X.K modD) := by
  refine OpR.imp op_mod fun x y H Q ⟨pa, M, p, dx, dy, d, dom, hP, rx, ry, e, k⟩ => ?_
  unfold modD at e
  split at e
  · cases rx; cases ry
    split at e
    · cases e
      exact ⟨_, _, rfl, rfl, by assumption, k _ H (Same.refl H) rfl⟩
    · cases e
  · cases e
theorem op_powB : OpR X (binaryOp .Pow) (rI (fun i j => 0 ≤ j ∧ (Builtin.Int.intBits i : Int) * j ≤ 2 ^ 27) fun i j => .int (i ^ j.toNat)) := opI fun _ _ _ _ _ _ _ hc q => pow_int hc.1 hc.2 q
theorem op_powD : OpR X (binaryOp .Pow) (rD2 X.K powD) := by
  refine OpR.imp op_powB fun x y H Q ⟨pa, M, p, dx, dy, d, dom, hP, rx, ry, e, k⟩ => ?_
  unfold powD at e
  split at e
  · cases rx; cases ry
    split at e
    · cases e
      exact ⟨_, _, rfl, rfl, by assumption, k _ H (Same.refl H) rfl⟩
    · cases e
  · cases e
theorem op_eqR (hu : X.A.units + 64 < cLine) : OpR X (compareOp .Eq) (rD2 X.K eqD) := by
  refine OpR.imp (op_eqD hu) fun x y H Q ⟨pa, M, p, dx, dy, d, dom, hP, rx, ry, e, k⟩ => ?_
  unfold eqD at e
  split at e
  · rename_i h
    obtain ⟨h1, h2⟩ := Bool.and_eq_true_iff.mp h
    cases e
    obtain ⟨a1, b1⟩ := rx.shaped h1
    obtain ⟨a2, b2⟩ := ry.shaped h2
    exact ⟨_, _, a1, a2, b1, b2, k _ H (Same.refl H) rfl⟩
  · cases e
theorem op_neR (hu : X.A.units + 64 < cLine) : OpR X (compareOp .NotEq) (rD2 X.K neD) := by
  refine OpR.imp (op_neD hu) fun x y H Q ⟨pa, M, p, dx, dy, d, dom, hP, rx, ry, e, k⟩ => ?_
  unfold neD at e
  split at e
  · rename_i h
    obtain ⟨h1, h2⟩ := Bool.and_eq_true_iff.mp h
    cases e
    obtain ⟨a1, b1⟩ := rx.shaped h1
    obtain ⟨a2, b2⟩ := ry.shaped h2
    exact ⟨_, _, a1, a2, b1, b2, k _ H (Same.refl H) rfl⟩
  · cases e
theorem op_ltD : OpR X (compareOp .Lt) (rD2 X.K ltD) := by
  refine OpR.imp (OpR.or op_lt op_lt_str) fun x y H Q ⟨pa, M, p, dx, dy, d, dom, hP, rx, ry, e, k⟩ => ?_
  unfold ltD at e
  split at e
  · cases rx; cases ry; cases e
    exact .inl ⟨_, _, rfl, rfl, k _ H (Same.refl H) rfl⟩
  · obtain ⟨rfl, o1⟩ := rx
    obtain ⟨rfl, o2⟩ := ry
    cases e
    exact .inr ⟨_, _, rfl, rfl, k _ H (Same.refl H) rfl⟩
  · cases e
theorem op_leD : OpR X (compareOp .LtE) (rD2 X.K leD) := by
  refine OpR.imp (OpR.or op_le op_le_str) fun x y H Q ⟨pa, M, p, dx, dy, d, dom, hP, rx, ry, e, k⟩ => ?_
  unfold leD at e
  split at e
  · cases rx; cases ry; cases e
    exact .inl ⟨_, _, rfl, rfl, k _ H (Same.refl H) rfl⟩
  · obtain ⟨rfl, o1⟩ := rx
    obtain ⟨rfl, o2⟩ := ry
    cases e
    exact .inr ⟨_, _, rfl, rfl, k _ H (Same.refl H) rfl⟩
  · cases e
theorem op_gtD : OpR X (compareOp .Gt) (rD2 X.K gtD) := by
  refine OpR.imp (OpR.or op_gt op_gt_str) fun x y H Q ⟨pa, M, p, dx, dy, d, dom, hP, rx, ry, e, k⟩ => ?_
  unfold gtD at e
  split at e
  · cases rx; cases ry; cases e
    exact .inl ⟨_, _, rfl, rfl, k _ H (Same.refl H) rfl⟩
  · obtain ⟨rfl, o1⟩ := rx
    obtain ⟨rfl, o2⟩ := ry
    cases e
    exact .inr ⟨_, _, rfl, rfl, k _ H (Same.refl H) rfl⟩
  · cases e
theorem op_geD : OpR X (compareOp .GtE) (rD2 X.K geD) := by
  refine OpR.imp (OpR.or op_ge op_ge_str) fun x y H Q ⟨pa, M, p, dx, dy, d, dom, hP, rx, ry, e, k⟩ => ?_
  unfold geD at e
  split at e
  · cases rx; cases ry; cases e
    exact .inl ⟨_, _, rfl, rfl, k _ H (Same.refl H) rfl⟩
  · obtain ⟨rfl, o1⟩ := rx
    obtain ⟨rfl, o2⟩ := ry
    cases e
    exact .inr ⟨_, _, rfl, rfl, k _ H (Same.refl H) rfl⟩
  · cases e
theorem isNon_ok (h : RepV K pa M H d x) : decide (x = .non) = isNon d := by
  cases d with
  | non => cases h; rfl
  | bl b => cases h; rfl
  | int i => cases h; rfl
  | str z => obtain ⟨rfl, _⟩ := h; rfl
  | tup ds => obtain ⟨a, xs, rfl, _⟩ := h; rfl
  | lst ds => obtain ⟨a, xs, rfl, _⟩ := h; rfl
  | dic ds => obtain ⟨a, xs, rfl, _⟩ := h; rfl
  | obj c fs => obtain ⟨a, dx, xs, rfl, _⟩ := h; rfl
  | cls c => cases h; rfl
  | ty n => cases h; rfl
  | pot => obtain ⟨a, _, rfl⟩ := h; rfl
  | scr ns => obtain ⟨a, rfl, _⟩ := h; rfl
theorem op_isD : OpR X (compareOp .Is) (rD2 X.K isD) := by
  refine OpR.imp op_isN fun x y H Q ⟨pa, M, p, dx, dy, d, dom, hP, rx, ry, e, k⟩ => ?_
  cases dy with
  | non =>
    cases ry
    cases e
    exact ⟨rfl, by rw [isNon_ok rx]; exact k _ H (Same.refl H) rfl⟩
  | _ => simp [isD] at e
theorem op_isntD : OpR X (compareOp .IsNot) (rD2 X.K isntD) := by
  refine OpR.imp op_notN fun x y H Q ⟨pa, M, p, dx, dy, d, dom, hP, rx, ry, e, k⟩ => ?_
  cases dy with
  | non =>
    cases ry
    cases e
    exact ⟨rfl, by rw [isNon_ok rx]; exact k _ H (Same.refl H) rfl⟩
  | _ => simp [isntD] at e
theorem Rep.flat (h : Rep K pa M H d x) (f : flatD d = true) : flatV x = true := by
  cases d with
  | non => cases h; rfl
  | bl b => cases h; rfl
  | int i => cases h; rfl
  | str z => obtain ⟨rfl, _⟩ := h; rfl
  | _ => cases f
theorem Rep.eqV (h : Rep K pa M H d x) (h' : Rep K pa M H e y) (f : flatD d = true) (f' : flatD e = true) : L2.eqV x y = eqB d e := by
  cases d with
  | non => cases h; cases e with
    | non => cases h'; simp [L2.eqV, eqB, toPy, PyData.eqv]
    | bl b => cases h'; simp [L2.eqV, eqB, toPy, PyData.eqv]
    | int i => cases h'; simp [L2.eqV, eqB, toPy, PyData.eqv]
    | str z => obtain ⟨rfl, _⟩ := h'; simp [L2.eqV, eqB, toPy, PyData.eqv]
    | _ => cases f'
  | bl b => cases h; cases e with
    | non => cases h'; simp [L2.eqV, eqB, toPy, PyData.eqv]
    | bl b => cases h'; simp [L2.eqV, eqB, toPy, PyData.eqv]
    | int i => cases h'; simp [L2.eqV, eqB, toPy, PyData.eqv]
    | str z => obtain ⟨rfl, _⟩ := h'; simp [L2.eqV, eqB, toPy, PyData.eqv]
    | _ => cases f'
  | int i => cases h; cases e with
    | non => cases h'; simp [L2.eqV, eqB, toPy, PyData.eqv]
    | bl b => cases h'; simp [L2.eqV, eqB, toPy, PyData.eqv]
    | int i => cases h'; simp [L2.eqV, eqB, toPy, PyData.eqv]
    | str z => obtain ⟨rfl, _⟩ := h'; simp [L2.eqV, eqB, toPy, PyData.eqv]
    | _ => cases f'
  | str z => obtain ⟨rfl, _⟩ := h; cases e with
    | non => cases h'; simp [L2.eqV, eqB, toPy, PyData.eqv]
    | bl b => cases h'; simp [L2.eqV, eqB, toPy, PyData.eqv]
    | int i => cases h'; simp [L2.eqV, eqB, toPy, PyData.eqv]
    | str z => obtain ⟨rfl, _⟩ := h'; simp [L2.eqV, eqB, toPy, PyData.eqv]
    | _ => cases f'
  | _ => cases f
theorem Reps.flats : ∀ {ds : List D} {xs : List V}, Reps K pa M H ds xs → ds.all flatD = true → Rep K pa M H d x → flatD d = true → xs.all flatV = true ∧ inV x xs = ds.any fun y => eqB y d
  | [], _, r, _, _, _ => by cases r; exact ⟨rfl, rfl⟩
  | z :: ds, _, ⟨v, r, e, h1, h2⟩, h, hx, hd => by
    subst e
    have h' : flatD z = true ∧ ds.all flatD = true := by simpa using h
    obtain ⟨a, b⟩ := Reps.flats h2 h'.2 hx hd
    refine ⟨by simp [Rep.flat h1 h'.1, a], ?_⟩
    unfold inV at b ⊢
    rw [List.any_cons, List.any_cons, b, Rep.eqV h1 hx h'.1 hd]
theorem any_toPys (d : D) : ∀ ds : List D, (ds.any fun y => eqB y d) = (toPys ds).any fun z => PyData.eqv z (toPy d)
  | [] => rfl
  | z :: ds => by rw [List.any_cons, toPys, List.any_cons, any_toPys d ds]; rfl
theorem memD_list (hu : X.A.units + 65 < cLine) (x y : V) (Q : VK) (pa : Option Addr) (M : Ms) (H : Hp) (p : Pot) (dx dy : D) (b : Bool) (rx : RepV X.K pa M H dx x) (ry : RepV X.K pa M H dy y) (e : memD dx dy = some b) :
    (∃ (c : Nat) (z : Str), x = .str ⟨#[c]⟩ ∧ y = .str z ∧ b = decide (c ∈ z.cps.toList)) ∨ (∃ q xs, y = .ref q ∧ (SqL X.K H q xs ∨ SqT X.K H q xs) ∧ flatV x = true ∧ xs.all flatV = true ∧ b = inV x xs) ∨
    (∃ d ds, Dp X.K H x d ∧ Dp X.K H y (.list ds) ∧ SeqAt.shaped d = true ∧ SeqAt.shaped (.list ds) = true ∧ b = ds.any fun z => PyData.eqv z d) := by
  unfold memD at e
  split at e
  · rename_i zx zy
    obtain ⟨rfl, o1⟩ := rx
    obtain ⟨rfl, o2⟩ := ry
    split at e
    · rename_i c hc
      cases e
      refine .inl ⟨c, zy, ?_, rfl, rfl⟩
      obtain ⟨arr⟩ := zx
      have : arr = #[c] := by
        have := congrArg List.toArray hc
        simpa using this
      rw [this]
    · cases e
  · rename_i x0 ds hne
    obtain ⟨a, xs, rfl, t, r⟩ := ry
    split at e
    · rename_i h
      obtain ⟨h1, h2⟩ := Bool.and_eq_true_iff.mp h
      cases e
      have rx' : Rep X.K pa M H dx x := by
        cases dx with
        | lst _ => cases h1
        | _ => exact rx
      obtain ⟨a1, b1⟩ := Reps.flats r h2 rx' h1
      exact .inr (.inl ⟨a, xs, rfl, .inr t.sq, Rep.flat rx' h1, a1, b1.symm⟩)
    · cases e
  · rename_i x0 ds hne
    split at e
    · rename_i h
      obtain ⟨h1, h2⟩ := Bool.and_eq_true_iff.mp h
      cases e
      obtain ⟨a1, b1⟩ := rx.shaped h1
      obtain ⟨a2, b2⟩ := ry.shaped h2
      refine .inr (.inr ⟨_, _, a1, a2, b1, b2, ?_⟩)
      exact any_toPys _ _
    · cases e
  · cases e
theorem op_inR (hu : X.A.units + 65 < cLine) : OpR X (compareOp .In) (rD2 X.K inD) := by
  refine OpR.imp (OpR.or op_in_sign (OpR.or op_in_seq (op_inD hu))) fun x y H Q ⟨pa, M, p, dx, dy, d, dom, hP, rx, ry, e, k⟩ => ?_
  unfold inD at e
  obtain ⟨b, h1, h2⟩ := Option.map_eq_some_iff.mp e
  cases h2
  have q := k _ H (Same.refl H) rfl
  rcases memD_list hu x y Q pa M H p dx dy b rx ry h1 with ⟨c, z, rfl, rfl, rfl⟩ | ⟨a, xs, e1, e2, e3, e4, rfl⟩ | ⟨d, ds, e1, e2, e3, e4, rfl⟩
  · exact .inl ⟨c, z, rfl, rfl, q⟩
  · exact .inr (.inl ⟨a, xs, e1, e2, e3, e4, q⟩)
  · exact .inr (.inr ⟨d, ds, e1, e2, e3, e4, q⟩)
theorem op_notInR (hu : X.A.units + 65 < cLine) : OpR X (compareOp .NotIn) (rD2 X.K notInD) := by
  refine OpR.imp (OpR.or op_notIn_sign (OpR.or op_notIn_seq (op_notInD hu))) fun x y H Q ⟨pa, M, p, dx, dy, d, dom, hP, rx, ry, e, k⟩ => ?_
  unfold notInD at e
  obtain ⟨b, h1, h2⟩ := Option.map_eq_some_iff.mp e
  cases h2
  have q := k _ H (Same.refl H) rfl
  rcases memD_list hu x y Q pa M H p dx dy b rx ry h1 with ⟨c, z, rfl, rfl, rfl⟩ | ⟨a, xs, e1, e2, e3, e4, rfl⟩ | ⟨d, ds, e1, e2, e3, e4, rfl⟩
  · exact .inl ⟨c, z, rfl, rfl, q⟩
  · exact .inr (.inl ⟨a, xs, e1, e2, e3, e4, q⟩)
  · exact .inr (.inr ⟨d, ds, e1, e2, e3, e4, q⟩)
end
end Rc

-- Rc4
set_option Elab.async false
set_option linter.all false
set_option maxRecDepth 100000
set_option maxHeartbeats 4000000
namespace Rc
open PySem PySem.Spec PyProof.Rows L2

/-! ### room, with no guard of repr on the stack -/
structure Rm (k : Nat) (A : Around) : Prop where
  r : Room k A
  g : A.guards = some []
theorem Rm.mono {j k : Nat} {A : Around} (h : Rm k A) (l : j ≤ k) : Rm j A := ⟨h.r.mono l, h.g⟩
theorem Rm.deep {k : Nat} {A : Around} (h : Rm (k + 1) A) (env : PySem.Env) : Rm k (A.deeper env) := ⟨h.r.deeper env, h.g⟩
theorem Rm.in1 {k : Nat} {A : Around} (h : Rm (k + 1) A) : Rm k A.in1 := ⟨h.r.in1, h.g⟩
theorem Rm.make {k : Nat} {A : Around} (h : Rm (k + 1) A) (C : Addr) (us : List Value) (kw : List (Str × Value)) : Rm k (A.under (.builtin "type.__call__" ⟨.ref C :: us, kw⟩)) :=
  ⟨h.r.make C us kw, by
    show pushGuards (Code.guards (.builtin "type.__call__" ⟨.ref C :: us, kw⟩)) A.guards = some []
    rw [h.g]
    simp [Code.guards, Code.isGuard, guardIds, pushGuards]⟩

/-- what a def of the program promises where nothing is raised -/
structure FG (P : Program) (w : World) (K : PySem.W.Frag) (mg : Str → Option Value) (base : Heap) (k : Nat) (f : Addr) (fd : FuncData) (ps : List Str) (sp : Sp) : Prop where
  len : ∀ vs H Q, sp vs H Q E0 → vs.length = ps.length
  run : ∀ (A : Around) (fr : List PySem.Env) (s : Shared) (H : Hp) (args : Args) (us : List Value) (vs : List V) (Q : VK), Rm k A → Env0 P w K mg base A fr s H →
    BindsTo s fd args (ps.zip us) → Vals vs us → sp vs H Q E0 → codeAny (model P w) A (.call (.ref f) args) (CR CX0 fr P w H s Q E0) s
theorem FG.mono {P : Program} {w : World} {K : PySem.W.Frag} {mg : Str → Option Value} {base : Heap} {j k : Nat} {f : Addr} {fd : FuncData} {ps : List Str} {sp : Sp} (F : FG P w K mg base j f fd ps sp) (l : j ≤ k) : FG P w K mg base k f fd ps sp :=
  ⟨F.len, fun A fr s H args us vs Q r => F.run A fr s H args us vs Q (r.mono l)⟩
theorem FG.imp {P : Program} {w : World} {K : PySem.W.Frag} {mg : Str → Option Value} {base : Heap} {k : Nat} {f : Addr} {fd : FuncData} {ps : List Str} {sp sp' : Sp} (F : FG P w K mg base k f fd ps sp) (h : ∀ vs H Q E, sp' vs H Q E → sp vs H Q E) : FG P w K mg base k f fd ps sp' :=
  ⟨fun vs H Q q => F.len vs H Q (h _ _ _ _ q), fun A fr s H args us vs Q r e b v q => F.run A fr s H args us vs Q r e b v (h _ _ _ _ q)⟩

section
variable {P : Program} {w : World} {K : PySem.W.Frag} {mg : Str → Option Value} {base : Heap}
/-- a def by its body -/
theorem fg_of {x qual : Str} {params : Arguments} {body : List Stmt} {scope : Scope} {dvs : List V} {kws : List (Str × V)} {f : Addr} {fd : FuncData} {N ps : List Str} {k : Nat} {sp : Sp}
    (F : FunD K x qual params body scope dvs kws f fd) (S : FnScope N ps scope) (len : ∀ vs H Q, sp vs H Q E0 → vs.length = ps.length)
    (hb : ∀ (X : Cx), X.prog = P → X.w = w → X.K = K → X.mg = mg → X.base = base → X.N = N → X.env.scope = scope → X.calm = true → (∀ y, X.fn y = true) → Rm k X.A → (∀ e s, ¬ X.xe e s) →
      ∀ vs H Q, sp vs H Q E0 → ∃ t, PSs X body t ∧ t { nx := fun _ H' => Q .non H', rt := Q } (start N vs) H) : FG P w K mg base (k + 1) f fd ps sp := by
  obtain ⟨⟨oc, od, dV, kV, doc, pm, an, cdv, ct, osl, rfl, lk, hcd, _, _⟩, _⟩ := F
  refine ⟨len, fun A fr s H args us vs Q hr e0 hbd rv hsp => ?_⟩
  have hlen := len _ _ _ hsp
  have inS : K.In s.heap := e0.mod.kin.keeps fun b o e => (e0.bs b o e).1
  have noL : s.heap.NoLimit := e0.mod.nolimit.keeps fun b o e => (e0.bs b o e).1
  have kinds : ∀ y ∈ ps.zip us, scope.names.lookup y.1 = some .local ∨ (scope.names.lookup y.1 = some .cell ∧ ((cellsFrom (s.heap.objs.size + 1) scope.names []).lookup y.1).isSome = true) := by
    rintro ⟨n, v⟩ hy
    exact (S.par n (List.of_mem_zip hy).1).imp id fun q => ⟨q, PySem.W.cellsFrom_some _ _ _ (.inl q)⟩
  apply codeAny_call_function hr.r.depth (inS _ _ lk) rfl S.co S.gen rfl (PySem.W.codeRec_of inS hcd)
  apply hbd
  apply wpAny_newFunctionEnv_cells S.kind kinds
  intro env he s1 x1
  subst he
  refine ⟨noL.keeps x1.toInCall.keep, codeAny_func ?_⟩
  have I := (inv_start (E := E0) (CX := CX0) (cd := cdv) S hr.r.hd e0 hlen rv x1).wish (fun _ _ => False)
  obtain ⟨t, ht, hq⟩ := hb (cxOf CX0 P w K mg base N qual scope f cdv A fr s H E0).nox rfl rfl rfl rfl rfl rfl rfl rfl (fun _ => rfl) (hr.deep _) (fun _ _ z => z) vs H Q hsp
  refine wpAny_mono (ht.run [] s1 (start N vs) H _ I hq) ?_ fun _ _ z => z.elim
  intro fl s' hs
  cases fl with
  | ret u => obtain ⟨v, σ', H', J, r', q⟩ := hs; exact ⟨v, H', J.os, J.bare, J.base, J.hok, r', q⟩
  | next => obtain ⟨σ', H', J, q⟩ := hs; exact ⟨.non, H', J.os, J.bare, J.base, J.hok, rfl, q⟩
  | brk => obtain ⟨_, _, _, q⟩ := hs; exact q.elim
  | cont => obtain ⟨_, _, _, q⟩ := hs; exact q.elim
end

section
variable {X : Cx} {pins : List (Addr × Obj)} {σ : L2.St} {H : Hp} {s : Shared} {k : Nat} {f C : Addr} {fd : FuncData} {ps : List Str} {sp : Sp}
/-- the call itself -/
theorem fg_call {Q : VK} {us ds : List Value} {vs dvs : List V} (F : FG X.prog X.w X.K X.mg X.base k f fd ps sp) (hr : Rm k X.A) (hb : Binds X.K fd ps ds) (hd : Vals dvs ds) (I : Inv X pins σ H s) (r : Vals vs us) (h : sp (vs ++ dvs) H Q E0) :
    wpAny (model X.prog X.w) X.A (call (.ref f) us) (EP X pins σ Q) X.xe s := by
  have r2 : Vals (vs ++ dvs) (us ++ ds) := r.append hd
  have hl : (us ++ ds).length = ps.length := r2.length.symm.trans (F.len _ _ _ h)
  refine wpAny_call (codeAny_mono (F.run X.A X.stack s H ⟨us, []⟩ _ _ Q hr I.env0 (hb s us I.kIn hl) r2 h) ?_)
  intro rs s' hq
  cases rs with
  | error e => exact hq.elim
  | ok fl =>
    cases fl with
    | ret u => exact I.after hq
    | _ => exact hq.elim
/-- C(..): a new instance -/
theorem fg_make {Q : VK} {us ds : List Value} {vs dvs : List V} (M : Mk X.K C f) (F : FG X.prog X.w X.K X.mg X.base k f fd ps sp) (hr : Rm (k + 1) X.A) (hb : Binds X.K fd ps ds) (hd : Vals dvs ds) (I : Inv X pins σ H s) (r : Vals vs us)
    (h : ∀ x dx, H x = none → H dx = none → dx ≠ x → sp (.ref x :: (vs ++ dvs)) (upd (upd H dx (.own x)) x (.ins C dx [])) (fun v H2 => v = .non ∧ Q (.ref x) H2) E0) :
    wpAny (model X.prog X.w) X.A (call (.ref C) us) (EP X pins σ Q) X.xe s := by
  have h1 := h (s.heap.objs.size + 1) s.heap.objs.size (I.hok.fresh (Nat.le_succ _)) (I.hok.fresh (Nat.le_refl _)) (Nat.ne_of_lt (Nat.lt_succ_self _))
  have J := Inv.made (C := C) I
  have r2 : Vals (V.ref (s.heap.objs.size + 1) :: (vs ++ dvs)) (Value.ref (s.heap.objs.size + 1) :: (us ++ ds)) := .cons rfl (r.append hd)
  have hl : (Value.ref (s.heap.objs.size + 1) :: us ++ ds).length = ps.length := r2.length.symm.trans (F.len _ _ _ h1)
  refine wpAny_call (make_map (f := f) I.kIn M.makes M.init (beq_iff_eq.mp M.fn) ?_)
  refine codeAny_mono (F.run _ X.stack _ _ ⟨Value.ref (s.heap.objs.size + 1) :: us, []⟩ _ _ _ (hr.make C us []) (J.env0.make C us []) (hb _ (Value.ref (s.heap.objs.size + 1) :: us) J.kIn hl) r2 h1) ?_
  intro rs s' hq
  cases rs with
  | error e => exact hq.elim
  | ok fl =>
    cases fl with
    | ret u =>
      obtain ⟨v, H', J', rv, ev, q3⟩ := J.after hq
      subst ev
      exact ⟨rv, .ref (s.heap.objs.size + 1), H', J', rfl, q3⟩
    | _ => exact hq.elim
/-- o.f, a property -/
theorem fg_prop {a dx p g : Addr} {fs : List (Str × V)} {x : Str} {ps : List Str} {Q : VK} {b : Bool} (I : Inv X pins σ H s) (ea : H a = some (.ins C dx fs)) (c : Cls X.K C) (hp : PropOf X.K C x p g)
    (F : FG X.prog X.w X.K X.mg X.base k g fd ps sp) (hr : Rm (k + 1) X.A) (hb : Binds X.K fd ps []) (h : sp [.ref a] H Q E0) : wpAny (model X.prog X.w) X.A (getAttr (.ref a) x b) (EP X pins σ Q) X.xe s := by
  obtain ⟨mA, O, _, _, _, _⟩ := ins_get I.hok ea
  obtain ⟨od, J, _⟩ := O.look
  obtain ⟨rest, hrec⟩ := hp.rec_
  have I1 := I.tok (s.toks + 1)
  have hl : ([Value.ref a] ++ ([] : List Value)).length = ps.length := by rw [← F.len _ _ _ h]; rfl
  have hc : (PySem.W.clsIn X.K C).isSome = true := by
    obtain ⟨cd, hc, _⟩ := PySem.W.any_some c.hd
    rw [hc]; rfl
  refine PySem.W.get_bind I.kIn J (PySem.W.plainGet_of (c.get x)).1 (PySem.W.findObj_data hc hp.at_ hp.get hp.tak) (PySem.W.plainGet_of (c.get x)).2 (wpAny_call (PySem.W.prop_get (s := { s with toks := s.toks + 1 }) I.kIn hrec ?_))
  refine codeAny_mono (F.run X.A.in1 X.stack { s with toks := s.toks + 1 } H ⟨[.ref a], []⟩ [.ref a] [.ref a] Q hr.in1 I1.env0.in1 (hb _ [.ref a] I1.kIn hl) (.cons rfl .nil) h) ?_
  intro rs s' hq
  cases rs with
  | error er => exact hq.elim
  | ok fl =>
    cases fl with
    | ret u =>
      obtain ⟨v, H', I3, rv, q3⟩ := I1.after hq
      show wpAny _ _ (handedOut u) _ _ _
      rw [PySem.W.handedOut_of (handed_of rv)]
      exact wpAny_pure ⟨v, H', I3, rv, q3⟩
    | _ => exact hq.elim
end

/-! ### promises over data -/
abbrev Run := List D → Pot → Option (D × Pot)
def spD (K : PySem.W.Frag) (n : Nat) (run : Run) : Sp := fun vs H Q _ => ∃ pa M p ds d p', (∀ a, M a → (H a).isSome = true) ∧ PotOk pa M H p ∧ Reps K pa M H ds vs ∧ ds.length = n ∧ run ds p = some (d, p') ∧
  ∀ v H', Ext pa H H' → PotOk pa M H' p' → Rep K pa M H' d v → Q v H'
theorem spD.len {K : PySem.W.Frag} {n : Nat} {run : Run} {vs : List V} {H : Hp} {Q : VK} {E : XK} (h : spD K n run vs H Q E) : vs.length = n := by
  obtain ⟨pa, M, p, ds, d, p', _, _, r, e, _⟩ := h
  rw [← r.length, e]
end Rc

-- Rc5
set_option Elab.async false
set_option linter.all false
set_option maxRecDepth 100000
set_option maxHeartbeats 4000000
namespace Rc
open PySem PySem.Spec PyProof.Rows L2

/-! ### arguments that are only looked at -/
def RepsV (K : PySem.W.Frag) (pa : Option Addr) (M : Ms) (H : Hp) : List D → List V → Prop
  | [], vs => vs = []
  | d :: ds, vs => ∃ v r, vs = v :: r ∧ RepV K pa M H d v ∧ RepsV K pa M H ds r
theorem RepsV.ext {K : PySem.W.Frag} {pa : Option Addr} {M : Ms} {H H' : Hp} {p : Pot} (x : Ext pa H H') (k : PotOk pa M H p) : ∀ {ds : List D} {vs : List V}, RepsV K pa M H ds vs → RepsV K pa M H' ds vs
  | [], _, h => h
  | _ :: _, _, ⟨v, r, e, h1, h2⟩ => ⟨v, r, e, h1.ext x k, RepsV.ext x k h2⟩
def tLV (K : PySem.W.Frag) (f : EvA) : TA := fun σ H Q => ∃ pa M env p ds p', EnvOk K pa M H σ env ∧ PotOk pa M H p ∧ f env p = some (ds, p') ∧ ∀ vs H', Ext pa H H' → PotOk pa M H' p' → RepsV K pa M H' ds vs → Q vs H'
abbrev PLV (X : Cx) (es : List Expr) (f : EvA) : Prop := PA X es (tLV X.K f)
section
variable {X : Cx} {e : Expr} {es : List Expr} {f : EvF} {g : EvA} {pos : Pos}
theorem plv_nil : PLV X [] evNil := PA.weak pa_nil fun σ H Q ⟨pa, M, env, p, d, p', hE, hP, hf, k⟩ => by
  cases hf
  exact k [] H Ext.refl hP rfl
theorem plv_cons (ha : PV X e f) (hr : PLV X es g) (hs : starEach (e :: es) X.env = (false, eval e X.env) :: starEach es X.env) : PLV X (e :: es) (evCons f g) :=
  PA.weak (pa_cons ha hr hs) fun σ H Q ⟨pa, M, env, p, d, p', hE, hP, hf, k⟩ => by
    unfold evCons at hf
    obtain ⟨⟨x, p1⟩, h1, h2⟩ := Option.bind_eq_some_iff.mp hf
    obtain ⟨⟨xs, p2⟩, h3, h4⟩ := Option.map_eq_some_iff.mp h2
    cases h4
    refine ⟨pa, M, env, p, x, p1, hE, hP, h1, fun v H1 x1 k1 r1 => ?_⟩
    exact ⟨pa, M, env, p1, xs, p2, hE.ext x1 hP k1, k1, h3, fun vs H2 x2 k2 r2 => k (v :: vs) H2 (x1.trans x2) k2 ⟨v, vs, rfl, r1.ext x2 k1, r2⟩⟩
end

/-! ### calls of the built-in ones -/
def rDA (K : PySem.W.Frag) (g : List D → Option D) : List V → Hp → VK → Prop := fun vs H Q => ∃ pa M p ds d, (∀ a, M a → (H a).isSome = true) ∧ PotOk pa M H p ∧ RepsV K pa M H ds vs ∧ g ds = some d ∧ ∀ v H', Same H H' → Rep K pa M H' d v → Q v H'
def evB (g : List D → Option D) (f : EvA) : EvF := fun env p => (f env p).bind fun r => (g r.1).map fun d => (d, r.2)
theorem CallR.imp {X : Cx} {f : Value} {r r' : List V → Hp → VK → Prop} (h : CallR X f r) (w : ∀ x H Q, r' x H Q → r x H Q) : CallR X f r' := fun pins s σ H x v Q I rx q => h pins s σ H x v Q I rx (w x H Q q)
theorem CallR.or {X : Cx} {f : Value} {r r' : List V → Hp → VK → Prop} (h : CallR X f r) (h' : CallR X f r') : CallR X f (fun x H Q => r x H Q ∨ r' x H Q) := fun pins s σ H x v Q I rx q => q.elim (h pins s σ H x v Q I rx) (h' pins s σ H x v Q I rx)
section
variable {X : Cx} {e : Expr} {es : List Expr} {g : List D → Option D} {f : EvA} {x : Str} {p pos : Pos} {id T : String}
theorem tCB_of {σ : L2.St} {H : Hp} {Q : VK} (h : tE X.K (evB g f) σ H Q) : tCB (rDA X.K g) (tLV X.K f) σ H Q := by
  obtain ⟨pa, M, env, p, d, p', hE, hP, hf, k⟩ := h
  unfold evB at hf
  obtain ⟨⟨ds, p1⟩, h1, h2⟩ := Option.bind_eq_some_iff.mp hf
  obtain ⟨z, h3, h4⟩ := Option.map_eq_some_iff.mp h2
  cases h4
  refine ⟨pa, M, env, p, ds, _, hE, hP, h1, fun vs H1 x1 k1 r1 => ?_⟩
  exact ⟨pa, M, _, ds, d, x1.dom k1 hE.dom, k1, r1, h3, fun w H3 s3 r3 => k w H3 (x1.trans (Ext.same s3)) (k1.same s3) r3⟩
theorem pd_callB (hc : CallR X (.builtin id) (rDA X.K g)) (hg : Gl X x) (hm : X.mg x = none) (hv : bootBuiltins x = some (.builtin id)) (ha : PLV X (e :: es) f) (hn : x ≠ "__name__") (hdb : (x == ("__debug__" : Str)) = false)
    (he : starEach (e :: es) X.env = (false, eval e X.env) :: starEach es X.env) (hpl : (backTo pos (starEach es X.env)).any (·.1) = false) : PD X (.Call (.Name x p) (e :: es) [] pos) (evB g f) :=
  PE.weak (pe_callB hc hg hm hv ha hn hdb he hpl) fun _ _ _ h => tCB_of h
theorem pd_callTy (hc : CallR X (.type T) (rDA X.K g)) (hg : Gl X x) (hm : X.mg x = none) (hv : bootBuiltins x = some (.type T)) (ha : PLV X (e :: es) f) (hn : x ≠ "__name__") (hdb : (x == ("__debug__" : Str)) = false)
    (he : starEach (e :: es) X.env = (false, eval e X.env) :: starEach es X.env) (hpl : (backTo pos (starEach es X.env)).any (·.1) = false) : PD X (.Call (.Name x p) (e :: es) [] pos) (evB g f) :=
  PE.weak (pe_callTy hc hg hm hv ha hn hdb he hpl) fun _ _ _ h => tCB_of h
end
def lenD : List D → Option D
  | [.tup ds] => some (.int ds.length)
  | [.lst ds] => some (.int ds.length)
  | [.scr ns] => some (.int ns.length)
  | [.str x] => if x.length ≤ sizeLine then some (.int x.length) else none
  | _ => none
def intD : List D → Option D
  | [.int i] => some (.int i)
  | [.bl b] => some (.int (if b then 1 else 0))
  | _ => none
def absD : List D → Option D
  | [.int i] => some (.int (if i < 0 then -i else i))
  | _ => none
def boolD : List D → Option D
  | [.int i] => some (.bl (i != 0))
  | [.bl b] => some (.bl b)
  | [.lst ds] => some (.bl (!ds.isEmpty))
  | _ => none
def maxD : List D → Option D
  | [.int i, .int j] => some (.int (if j > i then j else i))
  | _ => none
def minD : List D → Option D
  | [.int i, .int j] => some (.int (if j < i then j else i))
  | _ => none
def tupleD : List D → Option D
  | [.lst ds] => some (.tup ds)
  | [.tup ds] => some (.tup ds)
  | _ => none
def listD : List D → Option D
  | [.lst ds] => some (.lst ds)
  | [.tup ds] => some (.lst ds)
  | _ => none
def bools : List D → Option (List Bool)
  | [] => some []
  | .bl b :: ds => (bools ds).map (b :: ·)
  | _ => none
def allD : List D → Option D
  | [.lst ds] => (bools ds).map fun bs => .bl (bs.all id)
  | _ => none
def anyD : List D → Option D
  | [.lst ds] => (bools ds).map fun bs => .bl (bs.any id)
  | _ => none
theorem bools_ok {K : PySem.W.Frag} {pa : Option Addr} {M : Ms} {H : Hp} : ∀ {ds : List D} {xs : List V} {bs : List Bool}, Reps K pa M H ds xs → bools ds = some bs → xs = bs.map V.bl
  | [], _, _, r, e => by cases r; cases e; rfl
  | .bl b :: ds, _, _, ⟨v, r, e1, h1, h2⟩, e => by
    simp only [bools] at e
    obtain ⟨bs, h3, h4⟩ := Option.map_eq_some_iff.mp e
    subst h4 e1
    cases h1
    rw [bools_ok h2 h3]
    rfl
  | .non :: _, _, _, _, e => by cases e
  | .int _ :: _, _, _, _, e => by cases e
  | .str _ :: _, _, _, _, e => by cases e
  | .tup _ :: _, _, _, _, e => by cases e
  | .lst _ :: _, _, _, _, e => by cases e
  | .dic _ :: _, _, _, _, e => by cases e
  | .obj _ _ :: _, _, _, _, e => by cases e
  | .cls _ :: _, _, _, _, e => by cases e
  | .ty _ :: _, _, _, _, e => by cases e
  | .pot :: _, _, _, _, e => by cases e
  | .scr _ :: _, _, _, _, e => by cases e
section
variable {X : Cx} {K : PySem.W.Frag} {pa : Option Addr} {M : Ms} {H : Hp} {d : D} {ds : List D} {vs : List V}
theorem RepsV.one (h : RepsV K pa M H [d] vs) : ∃ v, vs = [v] ∧ RepV K pa M H d v := by
  obtain ⟨v, r, e, h1, h2⟩ := h
  cases h2
  exact ⟨v, e, h1⟩
theorem RepsV.two {e : D} (h : RepsV K pa M H [d, e] vs) : ∃ v u, vs = [v, u] ∧ RepV K pa M H d v ∧ RepV K pa M H e u := by
  obtain ⟨v, r, e1, h1, u, r2, e2, h2, h3⟩ := h
  cases h3
  subst e2
  exact ⟨v, u, e1, h1, h2⟩
theorem cr_len : CallR X (.builtin "len") (rDA X.K lenD) := by
  refine CallR.imp call_len fun vs H Q ⟨pa, M, p, ds, d, dom, hP, r, e, k⟩ => ?_
  unfold lenD at e
  split at e
  · obtain ⟨v, rfl, a, xs, rfl, t, r'⟩ := r.one
    cases e
    exact ⟨_, xs.length, rfl, .inr ⟨xs, t.sq, rfl⟩, by rw [← r'.length]; exact k _ H (Same.refl H) rfl⟩
  · obtain ⟨v, rfl, a, xs, rfl, n, t, r'⟩ := r.one
    cases e
    exact ⟨_, xs.length, rfl, .inl ⟨xs, .inl (.inl t), rfl⟩, by rw [← r'.length]; exact k _ H (Same.refl H) rfl⟩
  · obtain ⟨v, rfl, a, rfl, t⟩ := r.one
    cases e
    exact ⟨_, _, rfl, .inl ⟨_, t.sq, rfl⟩, by rw [List.length_map]; exact k _ H (Same.refl H) rfl⟩
  · obtain ⟨v, rfl, rfl, o⟩ := r.one
    split at e
    · cases e
      exact ⟨_, _, rfl, ⟨by assumption, rfl⟩, k _ H (Same.refl H) rfl⟩
    · cases e
  · cases e
theorem cr_int : CallR X (.type "int") (rDA X.K intD) := by
  refine CallR.imp call_int1 fun vs H Q ⟨pa, M, p, ds, d, dom, hP, r, e, k⟩ => ?_
  unfold intD at e
  split at e
  · obtain ⟨v, rfl, rfl⟩ := r.one
    cases e
    exact .inl ⟨_, rfl, k _ H (Same.refl H) rfl⟩
  · obtain ⟨v, rfl, rfl⟩ := r.one
    cases e
    exact .inr ⟨_, rfl, k _ H (Same.refl H) rfl⟩
  · cases e
theorem cr_abs : CallR X (.builtin "abs") (rDA X.K absD) := by
  refine CallR.imp call_abs fun vs H Q ⟨pa, M, p, ds, d, dom, hP, r, e, k⟩ => ?_
  unfold absD at e
  split at e
  · obtain ⟨v, rfl, rfl⟩ := r.one
    cases e
    exact ⟨_, rfl, k _ H (Same.refl H) rfl⟩
  · cases e
theorem cr_bool : CallR X (.type "bool") (rDA X.K boolD) := by
  refine CallR.imp (CallR.or call_bool1 call_boolL) fun vs H Q ⟨pa, M, p, ds, d, dom, hP, r, e, k⟩ => ?_
  unfold boolD at e
  split at e
  · obtain ⟨v, rfl, rfl⟩ := r.one
    cases e
    exact .inl (.inl ⟨_, rfl, k _ H (Same.refl H) rfl⟩)
  · obtain ⟨v, rfl, rfl⟩ := r.one
    cases e
    exact .inl (.inr ⟨_, rfl, k _ H (Same.refl H) rfl⟩)
  · obtain ⟨v, rfl, a, xs, rfl, n, t, r'⟩ := r.one
    cases e
    exact .inr ⟨a, xs, rfl, .inl (.inl t), k _ H (Same.refl H) (by rw [← r'.isEmpty]; rfl)⟩
  · cases e
theorem cr_max (hc : X.calm = true) : CallR X (.builtin "max") (rDA X.K maxD) := by
  refine CallR.imp (call_max2 hc) fun vs H Q ⟨pa, M, p, ds, d, dom, hP, r, e, k⟩ => ?_
  unfold maxD at e
  split at e
  · obtain ⟨v, u, rfl, rfl, rfl⟩ := r.two
    cases e
    exact ⟨_, _, rfl, k _ H (Same.refl H) rfl⟩
  · cases e
theorem cr_min (hc : X.calm = true) : CallR X (.builtin "min") (rDA X.K minD) := by
  refine CallR.imp (call_min2 hc) fun vs H Q ⟨pa, M, p, ds, d, dom, hP, r, e, k⟩ => ?_
  unfold minD at e
  split at e
  · obtain ⟨v, u, rfl, rfl, rfl⟩ := r.two
    cases e
    exact ⟨_, _, rfl, k _ H (Same.refl H) rfl⟩
  · cases e
theorem cr_tuple : CallR X (.type "tuple") (rDA X.K tupleD) := by
  refine CallR.imp call_tuple_of fun vs H Q ⟨pa, M, p, ds, d, dom, hP, r, e, k⟩ => ?_
  unfold tupleD at e
  split at e
  · obtain ⟨v, rfl, a, xs, rfl, n, t, r'⟩ := r.one
    cases e
    refine ⟨a, xs, rfl, .inl ⟨.inl (.inl t), fun q hq => ?_⟩⟩
    have s1 : Same H (upd H q (.tup xs)) := Same.upd hq
    exact k _ _ s1 ⟨q, xs, rfl, .inl ⟨new_not (pa := pa) dom hq, upd_same⟩, Reps.up (Up.same s1) r'⟩
  · obtain ⟨v, rfl, a, xs, rfl, t, r'⟩ := r.one
    cases e
    exact ⟨a, xs, rfl, .inr ⟨t.sq, k _ H (Same.refl H) ⟨a, xs, rfl, t, r'⟩⟩⟩
  · cases e
theorem cr_list : CallR X (.type "list") (rDA X.K listD) := by
  refine CallR.imp call_list_of fun vs H Q ⟨pa, M, p, ds, d, dom, hP, r, e, k⟩ => ?_
  have fin : ∀ xs ds', Reps X.K pa M H ds' xs → d = .lst ds' → ∀ l, H l = none → Q (.ref l) (upd H l (.lst xs)) := fun xs ds' r' ed q hq => by
    have s1 : Same H (upd H q (.lst xs)) := Same.upd hq
    exact k _ _ s1 (by rw [ed]; exact ⟨q, xs, rfl, ⟨new_not (pa := pa) dom hq, upd_same⟩, Reps.up (Up.same s1) r'⟩)
  unfold listD at e
  split at e
  · obtain ⟨v, rfl, a, xs, rfl, n, t, r'⟩ := r.one
    cases e
    exact ⟨a, xs, rfl, .inl (.inl (.inl t)), fin xs _ r' rfl⟩
  · obtain ⟨v, rfl, a, xs, rfl, t, r'⟩ := r.one
    cases e
    exact ⟨a, xs, rfl, .inr t.sq, fin xs _ r' rfl⟩
  · cases e
theorem cr_allR (hc : X.calm = true) : CallR X (.builtin "all") (rDA X.K allD) := by
  refine CallR.imp (L2.cr_all hc) fun vs H Q ⟨pa, M, p, ds, d, dom, hP, r, e, k⟩ => ?_
  unfold allD at e
  split at e
  · obtain ⟨v, rfl, a, xs, rfl, n, t, r'⟩ := r.one
    obtain ⟨bs, h3, h4⟩ := Option.map_eq_some_iff.mp e
    subst h4
    exact ⟨a, bs, rfl, by rw [← bools_ok r' h3]; exact .inl (.inl t), k _ H (Same.refl H) rfl⟩
  · cases e
theorem cr_anyR (hc : X.calm = true) : CallR X (.builtin "any") (rDA X.K anyD) := by
  refine CallR.imp (L2.cr_any hc) fun vs H Q ⟨pa, M, p, ds, d, dom, hP, r, e, k⟩ => ?_
  unfold anyD at e
  split at e
  · obtain ⟨v, rfl, a, xs, rfl, n, t, r'⟩ := r.one
    obtain ⟨bs, h3, h4⟩ := Option.map_eq_some_iff.mp e
    subst h4
    exact ⟨a, bs, rfl, by rw [← bools_ok r' h3]; exact .inl (.inl t), k _ H (Same.refl H) rfl⟩
  · cases e
end

/-! ### subscripts and slices -/
def ixD : D → D → Option D
  | .tup ds, .int i => atI ds i
  | .lst ds, .int i => atI ds i
  | .scr ns, .int i => (atI ns i).map .int
  | .str z, .int i => if z.length ≤ sizeLine then (atI z.cps.toList i).map fun c => .str ⟨#[c]⟩ else none
  | _, _ => none
theorem atI_map {α β : Type} (f : α → β) (xs : List α) (i : Int) : atI (xs.map f) i = (atI xs i).map f := by
  unfold atI
  rw [List.length_map]
  cases ixN xs.length i <;> simp
theorem Reps.atI {K : PySem.W.Frag} {pa : Option Addr} {M : Ms} {H : Hp} {ds : List D} {xs : List V} {i : Int} {d : D} (r : Reps K pa M H ds xs) (h : L2.atI ds i = some d) : ∃ v, L2.atI xs i = some v ∧ Rep K pa M H d v := by
  unfold L2.atI at h ⊢
  rw [← r.length]
  cases e : ixN ds.length i with
  | none => rw [e] at h; cases h
  | some j => rw [e] at h; exact r.get h
theorem strOk_at {z : Str} {c : Nat} (h : PyData.strOk z = true) (hc : c ∈ z.cps.toList) : PyData.strOk ⟨#[c]⟩ = true := by
  unfold PyData.strOk at *
  have := (Array.all_eq_true_iff_forall_mem.mp h) c (by simpa using hc)
  simpa using this
theorem atI_mem {α : Type} {xs : List α} {i : Int} {x : α} (h : atI xs i = some x) : x ∈ xs := by
  unfold atI at h
  cases e : ixN xs.length i with
  | none => rw [e] at h; cases h
  | some j => rw [e] at h; exact List.mem_of_getElem? h
section
variable {X : Cx}
theorem ix_D : IxR X (rD2 X.K ixD) := fun value slice pins s σ H x y v u Q I rx ry ⟨pa, M, p, dx, dy, d, dom, hP, r1, r2, e, k⟩ hs => by
  refine ix_seq value slice pins s σ H x y v u Q I rx ry ?_ hs
  unfold ixD at e
  split at e
  · obtain ⟨a, xs, rfl, t, r⟩ := r1
    cases r2
    obtain ⟨z, h1, h2⟩ := r.atI e
    exact .inr (.inl ⟨a, xs, _, z, rfl, rfl, t.sq, h1, k z H (Same.refl H) h2⟩)
  · obtain ⟨a, xs, rfl, n, t, r⟩ := r1
    cases r2
    obtain ⟨z, h1, h2⟩ := r.atI e
    exact .inl ⟨a, xs, _, z, rfl, rfl, .inl (.inl t), h1, k z H (Same.refl H) h2⟩
  · obtain ⟨a, rfl, t⟩ := r1
    cases r2
    obtain ⟨z, h1, h2⟩ := Option.map_eq_some_iff.mp e
    subst h2
    exact .inl ⟨a, _, _, .int z, rfl, rfl, t.sq, by rw [atI_map, h1]; rfl, k _ H (Same.refl H) rfl⟩
  · obtain ⟨rfl, o⟩ := r1
    cases r2
    split at e
    · obtain ⟨c, h1, h2⟩ := Option.map_eq_some_iff.mp e
      subst h2
      exact .inr (.inr ⟨_, _, c, rfl, rfl, by assumption, h1, k _ H (Same.refl H) ⟨rfl, strOk_at o (atI_mem h1)⟩⟩)
    · cases e
  · cases e
end
def slD : D → Option Int → Option Int → Option D
  | .tup ds, lo, hi => some (.tup (cutV' ds lo hi))
  | .lst ds, lo, hi => some (.lst (cutV' ds lo hi))
  | .str z, lo, hi => if z.length ≤ sizeLine then some (.str (cutS z lo hi)) else none
  | _, _, _ => none
where cutV' (xs : List D) (lo hi : Option Int) : List D := (xs.drop (HT.sIx xs.length 0 lo)).take (HT.sIx xs.length xs.length hi - HT.sIx xs.length 0 lo)
/-- a part of a slice -/
def evP : Option EvF → Env → Pot → Option (Option Int × Pot)
  | none, _, p => some (none, p)
  | some f, env, p => (f env p).bind fun r => match r.1 with
    | .int i => some (some i, r.2)
    | _ => none
def evSl (f : EvF) (lo hi : Option EvF) : EvF := fun env p => (f env p).bind fun r => (evP lo env r.2).bind fun l => (evP hi env l.2).bind fun h => (slD r.1 l.1 h.1).map fun d => (d, h.2)
def tP (K : PySem.W.Frag) (f : Option EvF) : TO := fun σ H Q => ∃ pa M env p o p', EnvOk K pa M H σ env ∧ PotOk pa M H p ∧ evP f env p = some (o, p') ∧ ∀ H', Ext pa H H' → PotOk pa M H' p' → Q o H'
abbrev PP (X : Cx) (e : Option Expr) (f : Option EvF) : Prop := PO X e (tP X.K f)
theorem PO.weak {X : Cx} {e : Option Expr} {t t' : TO} (h : PO X e t) (w : ∀ σ H Q, t' σ H Q → t σ H Q) : PO X e t' := ⟨fun pins s σ H Q I q => h.run pins s σ H Q I (w σ H Q q)⟩
section
variable {X : Cx} {e : Expr} {f : EvF} {lo hi : Option Expr} {fl fh : Option EvF} {pos p2 : Pos}
theorem pp_none : PP X none none := PO.weak po_none fun σ H Q ⟨pa, M, env, p, o, p', hE, hP, hf, k⟩ => by
  cases hf
  exact k H Ext.refl hP
theorem pp_some (h : PD X e f) : PP X (some e) (some f) := PO.weak (po_some h) fun σ H Q ⟨pa, M, env, p, o, p', hE, hP, hf, k⟩ => by
  simp only [evP] at hf
  obtain ⟨⟨d, p1⟩, h1, h2⟩ := Option.bind_eq_some_iff.mp hf
  dsimp only at h2
  split at h2
  · cases h2
    exact ⟨pa, M, env, p, _, _, hE, hP, h1, fun v H1 x1 k1 r1 => ⟨_, r1, k H1 x1 k1⟩⟩
  · cases h2
theorem strOk_cut {z : Str} {lo hi : Option Int} (h : PyData.strOk z = true) : PyData.strOk (cutS z lo hi) = true := by
  unfold PyData.strOk at *
  rw [Array.all_eq_true_iff_forall_mem] at *
  intro c hc
  refine h c ?_
  have : c ∈ ((z.cps.toList.drop (HT.sIx z.length 0 lo)).take (HT.sIx z.length z.length hi - HT.sIx z.length 0 lo)) := by simpa [cutS] using hc
  simpa using List.mem_of_mem_drop (List.mem_of_mem_take this)
theorem sl_D : SlR X (fun x l h H Q => ∃ pa M p dx d, (∀ a, M a → (H a).isSome = true) ∧ PotOk pa M H p ∧ RepV X.K pa M H dx x ∧ slD dx l h = some d ∧ ∀ v H', Same H H' → Rep X.K pa M H' d v → Q v H') := by
  intro pins s σ H x v vl vu l h sl Q I rx hs pl pu ⟨pa, M, p, dx, d, dom, hP, r1, e, k⟩
  refine SlR.or (SlR.or sl_list sl_tupA) sl_str pins s σ H x v vl vu l h sl Q I rx hs pl pu ?_
  unfold slD at e
  split at e
  · obtain ⟨a, xs, rfl, t, r⟩ := r1
    cases e
    refine .inl (.inr ⟨a, xs, rfl, t.sq, fun hw => ?_, fun hw q hq => ?_⟩)
    · refine k _ H (Same.refl H) ⟨a, xs, rfl, t, ?_⟩
      unfold slD.cutV'
      rw [r.length, hw.1, hw.2]
      have := (r.drop 0).take (xs.length - 0)
      simpa using this
    · have s1 : Same H (upd H q (.tup (cutV xs l h))) := Same.upd hq
      refine k _ _ s1 ⟨q, _, rfl, .inl ⟨new_not (pa := pa) dom hq, upd_same⟩, ?_⟩
      unfold slD.cutV' cutV
      rw [r.length]
      exact Reps.up (Up.same s1) ((r.drop _).take _)
  · obtain ⟨a, xs, rfl, n, t, r⟩ := r1
    cases e
    refine .inl (.inl ⟨a, xs, rfl, .inl (.inl t), fun q hq => ?_⟩)
    have s1 : Same H (upd H q (.lst (cutV xs l h))) := Same.upd hq
    refine k _ _ s1 ⟨q, _, rfl, ⟨new_not (pa := pa) dom hq, upd_same⟩, ?_⟩
    unfold slD.cutV' cutV
    rw [r.length]
    exact Reps.up (Up.same s1) ((r.drop _).take _)
  · obtain ⟨rfl, o⟩ := r1
    split at e
    · cases e
      exact .inr ⟨_, rfl, by assumption, k _ H (Same.refl H) ⟨rfl, strOk_cut o⟩⟩
    · cases e
  · cases e
theorem pd_slice (he : PV X e f) (hl : PP X lo fl) (hh : PP X hi fh) : PD X (.Subscript e (.Slice lo hi none p2) pos) (evSl f fl fh) :=
  PE.weak (pe_slice sl_D he hl hh) fun σ H Q ⟨pa, M, env, p, d, p', hE, hP, hf, k⟩ => by
    unfold evSl at hf
    obtain ⟨⟨x, p1⟩, h1, h2⟩ := Option.bind_eq_some_iff.mp hf
    obtain ⟨⟨l, p2⟩, h3, h4⟩ := Option.bind_eq_some_iff.mp h2
    obtain ⟨⟨h, p3⟩, h5, h6⟩ := Option.bind_eq_some_iff.mp h4
    obtain ⟨z, h7, h8⟩ := Option.map_eq_some_iff.mp h6
    cases h8
    refine ⟨pa, M, env, p, x, p1, hE, hP, h1, fun v H1 x1 k1 r1 => ?_⟩
    have E1 := hE.ext x1 hP k1
    refine ⟨pa, M, env, p1, l, p2, E1, k1, h3, fun H2 x2 k2 => ?_⟩
    have E2 := E1.ext x2 k1 k2
    refine ⟨pa, M, env, p2, h, _, E2, k2, h5, fun H3 x3 k3 => ?_⟩
    have E3 := E2.ext x3 k2 k3
    exact ⟨pa, M, _, x, d, E3.dom, k3, (r1.ext x2 k1).ext x3 k2, h7, fun w H4 s4 r4 => k w H4 (((x1.trans x2).trans x3).trans (Ext.same s4)) (k3.same s4) r4⟩
end
end Rc

-- Rc6
set_option Elab.async false
set_option linter.all false
set_option maxRecDepth 100000
set_option maxHeartbeats 4000000
namespace Rc
open PySem PySem.Spec PyProof.Rows L2

/-! ### statements -/
inductive Fl where
  | nx (env : Env) (p : Pot) | rt (d : D) (p : Pot) | bk (env : Env) (p : Pot) | ct (env : Env) (p : Pot)
abbrev StF := Env → Pot → Option Fl
def isSlf : EV → Bool
  | .slf _ _ => true
  | _ => false
/-- the state in a body: M0, H0 those of its entry (an instance that is being made is owned, but not of H0) -/
structure StOk (K : PySem.W.Frag) (pa : Option Addr) (M0 : Ms) (H0 : Hp) (M : Ms) (H : Hp) (σ : L2.St) (env : Env) (p : Pot) : Prop where
  en : EnvOk K pa M H σ env
  pot : PotOk pa M H p
  pot0 : ∀ a, pa = some a → M0 a
  sub : ∀ a, M0 a → M a
  old : Ext pa H0 H
  fresh : ∀ (i : Nat) (e : EV) (a : Addr), env[i]? = some (some e) → isOwn e = true → σ[i]? = some (some (.ref a)) → H0 a = none ∧ (M0 a ↔ isSlf e = true)
def endOk (K : PySem.W.Frag) (pa : Option Addr) (M0 : Ms) (H0 : Hp) (M : Ms) (H : Hp) (E : Ends) : Fl → Prop
  | .nx env p => ∀ σ' H' M', StOk K pa M0 H0 M' H' σ' env p → Up M H M' H' → E.nx σ' H'
  | .bk env p => ∀ σ' H' M', StOk K pa M0 H0 M' H' σ' env p → Up M H M' H' → E.bk σ' H'
  | .ct env p => ∀ σ' H' M', StOk K pa M0 H0 M' H' σ' env p → Up M H M' H' → E.ct σ' H'
  | .rt d p => ∀ v H', Ext pa H0 H' → PotOk pa M0 H' p → Rep K pa M0 H' d v → E.rt v H'
def tS (K : PySem.W.Frag) (pa : Option Addr) (M0 : Ms) (H0 : Hp) (f : StF) : TS := fun E σ H => ∃ M env p fl, StOk K pa M0 H0 M H σ env p ∧ f env p = some fl ∧ endOk K pa M0 H0 M H E fl
abbrev PX (X : Cx) (pa : Option Addr) (M0 : Ms) (H0 : Hp) (st : Stmt) (f : StF) : Prop := PS X st (tS X.K pa M0 H0 f)
abbrev PXs (X : Cx) (pa : Option Addr) (M0 : Ms) (H0 : Hp) (st : List Stmt) (f : StF) : Prop := PSs X st (tS X.K pa M0 H0 f)
theorem PS.weak {X : Cx} {e : Stmt} {t t' : TS} (h : PS X e t) (w : ∀ D σ H, t' D σ H → t D σ H) : PS X e t' := ⟨fun pins s σ H D I q => h.run pins s σ H D I (w D σ H q)⟩
theorem PSs.weak {X : Cx} {e : List Stmt} {t t' : TS} (h : PSs X e t) (w : ∀ D σ H, t' D σ H → t D σ H) : PSs X e t' := ⟨fun pins s σ H D I q => h.run pins s σ H D I (w D σ H q)⟩

section
variable {K : PySem.W.Frag} {pa : Option Addr} {M0 M M' : Ms} {H0 H H' : Hp} {σ : L2.St} {env : Env} {p p' : Pot} {E : Ends} {fl : Fl}
theorem endOk.from (u : Up M H M' H') (h : endOk K pa M0 H0 M H E fl) : endOk K pa M0 H0 M' H' E fl := by
  cases fl with
  | nx env p => exact fun σ' H2 M2 s u2 => h σ' H2 M2 s (u.trans u2)
  | bk env p => exact fun σ' H2 M2 s u2 => h σ' H2 M2 s (u.trans u2)
  | ct env p => exact fun σ' H2 M2 s u2 => h σ' H2 M2 s (u.trans u2)
  | rt d p => exact h
theorem StOk.ext (s : StOk K pa M0 H0 M H σ env p) (x : Ext pa H H') (k : PotOk pa M H' p') : StOk K pa M0 H0 M H' σ env p' :=
  ⟨s.en.ext x s.pot k, k, s.pot0, s.sub, s.old.trans x, s.fresh⟩
theorem StOk.up (s : StOk K pa M0 H0 M H σ env p) (x : Ext pa H H') : Up M H M H' := x.up s.pot
theorem StOk.new0 (s : StOk K pa M0 H0 M H σ env p) {a : Addr} (h : H a = none) : H0 a = none := by
  cases e : H0 a with
  | none => rfl
  | some o =>
    by_cases z : pa = some a
    · have := s.en.dom a (s.pot a z).1
      rw [h] at this; cases this
    · rw [s.old a o z e] at h; cases h
end

/-! ### blocks -/
def sNil : StF := fun env p => some (.nx env p)
def sSeq (f g : StF) : StF := fun env p => (f env p).bind fun fl => match fl with
  | .nx env' p' => g env' p'
  | fl => some fl
def sIf (c : EvT) (f g : StF) : StF := fun env p => (c env p).bind fun r => if r.1 then f env r.2 else g env r.2
def sNever : StF := fun _ _ => none
def sExpr (f : EvF) : StF := fun env p => (f env p).map fun r => .nx env r.2
def freeze : Env → Env := List.map fun e => match e with
  | some (.own ds) => some (.dat (.lst ds))
  | some (.dat d) => some (.dat d)
  | _ => none
def sRet (f : EvF) : StF := fun env p => (f (freeze env) p).map fun r => .rt r.1 r.2
def sRetN : StF := fun env p => some (.rt .non p)
section
variable {X : Cx} {pa : Option Addr} {M0 : Ms} {H0 : Hp} {st : Stmt} {sts : List Stmt} {f g : StF} {pos : Pos}
theorem px_nil : PXs X pa M0 H0 [] sNil := PSs.weak pss_nil fun E σ H ⟨M, env, p, fl, s, e, k⟩ => by
  cases e
  exact k σ H M s Up.refl
theorem px_cons (h1 : PX X pa M0 H0 st f) (h2 : PXs X pa M0 H0 sts g) : PXs X pa M0 H0 (st :: sts) (sSeq f g) :=
  PSs.weak (pss_cons h1 h2) fun E σ H ⟨M, env, p, fl, s, e, k⟩ => by
    unfold sSeq at e
    obtain ⟨f1, e1, e2⟩ := Option.bind_eq_some_iff.mp e
    refine ⟨M, env, p, f1, s, e1, ?_⟩
    cases f1 with
    | nx env1 p1 => exact fun σ' H' M' s' u => ⟨M', env1, p1, fl, s', e2, k.from u⟩
    | bk env1 p1 => cases e2; exact k
    | ct env1 p1 => cases e2; exact k
    | rt d p1 => cases e2; exact k
theorem px_if {c : Expr} {a b : List Stmt} {t : EvT} (hc : PB X c t) (ha : PXs X pa M0 H0 a f) (hb : PXs X pa M0 H0 b g) : PX X pa M0 H0 (.If c a b pos) (sIf t f g) :=
  PS.weak (ps_if hc ha hb) fun E σ H ⟨M, env, p, fl, s, e, k⟩ => by
    unfold sIf at e
    obtain ⟨⟨b1, p1⟩, e1, e2⟩ := Option.bind_eq_some_iff.mp e
    refine ⟨pa, M, env, p, b1, p1, s.en, s.pot, e1, fun H1 x1 k1 => ?_⟩
    cases b1 with
    | true => exact ite_tt ⟨M, env, p1, fl, s.ext x1 k1, e2, k.from (s.up x1)⟩
    | false => exact ite_ff ⟨M, env, p1, fl, s.ext x1 k1, e2, k.from (s.up x1)⟩
theorem px_never : PX X pa M0 H0 st sNever := PS.weak ps_never fun E σ H ⟨M, env, p, fl, s, e, k⟩ => by cases e
theorem px_pass : PX X pa M0 H0 (.Pass pos) sNil := PS.weak ps_pass fun E σ H ⟨M, env, p, fl, s, e, k⟩ => by
  cases e
  exact k σ H M s Up.refl
theorem px_cont : PX X pa M0 H0 (.Continue pos) (fun env p => some (.ct env p)) := PS.weak ps_continue fun E σ H ⟨M, env, p, fl, s, e, k⟩ => by
  cases e
  exact k σ H M s Up.refl
theorem px_break : PX X pa M0 H0 (.Break pos) (fun env p => some (.bk env p)) := PS.weak ps_break fun E σ H ⟨M, env, p, fl, s, e, k⟩ => by
  cases e
  exact k σ H M s Up.refl
theorem frozen {K : PySem.W.Frag} {M : Ms} {H : Hp} {σ : L2.St} {env : Env} {p : Pot} (s : StOk K pa M0 H0 M H σ env p) : EnvOk K pa M0 H σ (freeze env) := by
  have less : Up M H M0 H := Up.less s.sub
  refine ⟨fun i e h => ?_, fun i j e e' v h h' o => ?_, fun a m => s.en.dom a (s.sub a m), by simp [freeze, s.en.len]⟩
  · unfold freeze at h
    rw [List.getElem?_map] at h
    cases q : env[i]? with
    | none => rw [q] at h; cases h
    | some ev =>
      rw [q] at h
      cases ev with
      | none => simp at h
      | some ev =>
        obtain ⟨v, h1, h2⟩ := s.en.slot i ev q
        cases ev with
        | dat d => simp at h; subst h; exact ⟨v, h1, Rep.up less h2⟩
        | own ds =>
          simp at h; subst h
          obtain ⟨a, xs, e1, m, n, t, r⟩ := h2
          subst e1
          refine ⟨_, h1, a, xs, rfl, ⟨fun z => ?_, t⟩, Reps.up less r⟩
          have := (s.fresh i _ a q rfl h1).2.mp z
          cases this
        | slf c fs => simp at h
  · unfold freeze at h
    rw [List.getElem?_map] at h
    cases q : env[i]? with
    | none => rw [q] at h; cases h
    | some ev =>
      rw [q] at h
      cases ev with
      | none => simp at h
      | some ev => cases ev <;> simp at h <;> (subst h; cases o)
theorem pot0_ok {K : PySem.W.Frag} {M : Ms} {H : Hp} {σ : L2.St} {env : Env} {p : Pot} (s : StOk K pa M0 H0 M H σ env p) : PotOk pa M0 H p := fun a e => ⟨s.pot0 a e, (s.pot a e).2⟩
theorem px_ret {e : Expr} {f : EvF} (he : PD X e f) : PX X pa M0 H0 (.Return (some e) pos) (sRet f) :=
  PS.weak (ps_ret he) fun E σ H ⟨M, env, p, fl, s, e, k⟩ => by
    unfold sRet at e
    obtain ⟨⟨d, p1⟩, e1, e2⟩ := Option.map_eq_some_iff.mp e
    subst e2
    exact ⟨pa, M0, freeze env, p, d, p1, frozen s, pot0_ok s, e1, fun v H1 x1 k1 r1 => k v H1 (s.old.trans x1) k1 r1⟩
theorem px_retN : PX X pa M0 H0 (.Return none pos) sRetN := PS.weak ps_retN fun E σ H ⟨M, env, p, fl, s, e, k⟩ => by
  cases e
  exact k .non H s.old (pot0_ok s) rfl
theorem px_expr {e : Expr} {f : EvF} (he : PD X e f) (hs : swapsWith e none pos.line X.env = pure false) : PX X pa M0 H0 (.Expr e pos) (sExpr f) :=
  PS.weak (ps_expr he hs) fun E σ H ⟨M, env, p, fl, s, e, k⟩ => by
    unfold sExpr at e
    obtain ⟨⟨d, p1⟩, e1, e2⟩ := Option.map_eq_some_iff.mp e
    subst e2
    exact ⟨pa, M, env, p, d, p1, s.en, s.pot, e1, fun v H1 x1 k1 r1 => k σ H1 M (s.ext x1 k1) (s.up x1)⟩
end

/-! ### targets -/
inductive Tg where
  | name (i : Nat) | tup (ts : List Tg) | lst (ts : List Tg)
mutual
def setT : Tg → D → Env → Option Env
  | .name i, d, env => some (env.set i (some (.dat d)))
  | .tup ts, .tup ds, env => setTs ts ds env
  | .lst ts, .lst ds, env => setTs ts ds env
  | _, _, _ => none
def setTs : List Tg → List D → Env → Option Env
  | [], [], env => some env
  | t :: ts, d :: ds, env => (setT t d env).bind (setTs ts ds)
  | _, _, _ => none
end
mutual
def slotsT : Tg → List Nat
  | .name i => [i]
  | .tup ts => slotsTs ts
  | .lst ts => slotsTs ts
def slotsTs : List Tg → List Nat
  | [] => []
  | t :: ts => slotsT t ++ slotsTs ts
end
/-- own slots are as they were -/
def Keep (env : Env) (σ : L2.St) (env' : Env) (σ' : L2.St) : Prop := ∀ (j : Nat) (e : EV), isOwn e = true → env'[j]? = some (some e) → env[j]? = some (some e) ∧ σ'[j]? = σ[j]?
def Agree (js : List Nat) (σ σ' : L2.St) : Prop := σ'.length = σ.length ∧ ∀ j, j ∉ js → σ'[j]? = σ[j]?
/-- a target's reading -/
def tG (K : PySem.W.Frag) (js : List Nat) (g : D → Env → Option Env) : TG := fun v σ H Q => ∃ pa M env d env', EnvOk K pa M H σ env ∧ Rep K pa M H d v ∧ g d env = some env' ∧ ∀ σ', EnvOk K pa M H σ' env' → Keep env σ env' σ' → Agree js σ σ' → Q σ' H
def tGs (K : PySem.W.Frag) (js : List Nat) (g : List D → Env → Option Env) : TGs := fun vs σ H Q => ∃ pa M env ds env', EnvOk K pa M H σ env ∧ Reps K pa M H ds vs ∧ g ds env = some env' ∧ ∀ σ', EnvOk K pa M H σ' env' → Keep env σ env' σ' → Agree js σ σ' → Q σ' H
abbrev PGt (X : Cx) (e : Expr) (t : Tg) : Prop := PG X e (tG X.K (slotsT t) (setT t))
abbrev PGts (X : Cx) (e : List Expr) (ts : List Tg) : Prop := PGs X e (tGs X.K (slotsTs ts) (setTs ts))
theorem PG.weak {X : Cx} {e : Expr} {t t' : TG} (h : PG X e t) (w : ∀ v σ H Q, t' v σ H Q → t v σ H Q) : PG X e t' := ⟨fun pins s σ H v u Q I r q => h.run pins s σ H v u Q I r (w v σ H Q q)⟩
theorem PGs.weak {X : Cx} {e : List Expr} {t t' : TGs} (h : PGs X e t) (w : ∀ v σ H Q, t' v σ H Q → t v σ H Q) : PGs X e t' := ⟨fun pins s σ H v u Q I r q => h.run pins s σ H v u Q I r (w v σ H Q q)⟩
section
variable {K : PySem.W.Frag} {pa : Option Addr} {M0 M : Ms} {H0 H : Hp} {σ σ' σ2 : L2.St} {env env' env2 : Env} {p : Pot} {i : Nat} {v : V} {d : D} {js js' : List Nat}
theorem Keep.refl : Keep env σ env σ := fun _ _ _ h => ⟨h, rfl⟩
theorem Keep.trans (a : Keep env σ env' σ') (b : Keep env' σ' env2 σ2) : Keep env σ env2 σ2 := fun j e o h =>
  let ⟨h1, h2⟩ := b j e o h
  let ⟨h3, h4⟩ := a j e o h1
  ⟨h3, h2.trans h4⟩
theorem Agree.refl : Agree js σ σ := ⟨rfl, fun _ _ => rfl⟩
theorem Agree.trans (a : Agree js σ σ') (b : Agree js' σ' σ2) : Agree (js ++ js') σ σ2 := ⟨b.1.trans a.1, fun j n => (b.2 j fun z => n (by simp [z])).trans (a.2 j fun z => n (by simp [z]))⟩
theorem get_set {α : Type} {l : List α} {i j : Nat} {x y : α} (h : (l.set i x)[j]? = some y) : (j = i ∧ y = x) ∨ (j ≠ i ∧ l[j]? = some y) := by
  by_cases e : i = j
  · subst e
    by_cases hi : i < l.length
    · rw [List.getElem?_set_self hi] at h; cases h; exact .inl ⟨rfl, rfl⟩
    · rw [List.getElem?_eq_none (by simpa using hi)] at h; cases h
  · rw [List.getElem?_set_ne e] at h; exact .inr ⟨Ne.symm e, h⟩
theorem EnvOk.setDat (s : EnvOk K pa M H σ env) (r : Rep K pa M H d v) (hi : i < σ.length) : EnvOk K pa M H (σ.set i (some v)) (env.set i (some (.dat d))) := by
  refine ⟨fun j e h => ?_, fun j k e e' u h h' o o' h1 h2 => ?_, s.dom, by simp [s.len]⟩
  · rcases get_set h with ⟨rfl, e1⟩ | ⟨n, h⟩
    · cases e1; exact ⟨v, List.getElem?_set_self hi, r⟩
    · obtain ⟨u, a, b⟩ := s.slot j e h
      exact ⟨u, by rw [List.getElem?_set_ne (Ne.symm n)]; exact a, b⟩
  · rcases get_set h with ⟨rfl, e1⟩ | ⟨n, h⟩
    · cases e1; cases o
    rcases get_set h' with ⟨rfl, e1⟩ | ⟨n', h'⟩
    · cases e1; cases o'
    rw [List.getElem?_set_ne (Ne.symm n)] at h1
    rw [List.getElem?_set_ne (Ne.symm n')] at h2
    exact s.inj j k e e' u h h' o o' h1 h2
theorem keep_set : Keep env σ (env.set i (some (.dat d))) (σ.set i (some v)) := fun j e o h => by
  rcases get_set h with ⟨rfl, e1⟩ | ⟨n, h⟩
  · cases e1; cases o
  · exact ⟨h, List.getElem?_set_ne (Ne.symm n)⟩
theorem agree_set : Agree [i] σ (σ.set i (some v)) := ⟨by simp, fun j n => List.getElem?_set_ne fun z => n (by simp [z])⟩
theorem StOk.turn (s : StOk K pa M0 H0 M H σ env p) (e : EnvOk K pa M H σ' env') (k : Keep env σ env' σ') : StOk K pa M0 H0 M H σ' env' p :=
  ⟨e, s.pot, s.pot0, s.sub, s.old, fun i e a h1 o h2 => let ⟨h3, h4⟩ := k i e o h1; s.fresh i e a h3 o (h4 ▸ h2)⟩
end
section
variable {X : Cx} {pos : Pos}
theorem pgt_name {i : Nat} {x : Str} (hN : X.N.Nodup) (hi : X.N[i]? = some x) (hx : Loc X.env.scope x) (hf : X.fn x = true ∨ X.env.scope.names.lookup x = some .local) : PGt X (.Name x pos) (.name i) := by
  refine ⟨fun pins s σ H v u Q I r ⟨pa, M, env, d, env', hS, hR, hg, k⟩ => ?_⟩
  cases hg
  have hσ : i < σ.length := by rw [I.len]; exact (List.getElem?_eq_some_iff.mp hi).1
  exact (pg_name hN hi hx hf).run pins s σ H v u Q I r (k _ (hS.setDat hR hσ) keep_set agree_set)
theorem pgts_nil : PGts X [] [] := PGs.weak pgs_nil fun vs σ H Q ⟨pa, M, env, ds, env', hS, hR, hg, k⟩ => by
  cases ds with
  | nil => cases hR; cases hg; exact ⟨rfl, k σ hS Keep.refl Agree.refl⟩
  | cons _ _ => simp [setTs] at hg
theorem pgts_cons {e : Expr} {es : List Expr} {t : Tg} {ts : List Tg} (h1 : PGt X e t) (h2 : PGts X es ts) (hs : (assignEach (e :: es) X.env).map (·.2) = assign e X.env :: (assignEach es X.env).map (·.2)) :
    PGts X (e :: es) (t :: ts) := PGs.weak (pgs_cons h1 h2 hs) fun vs σ H Q ⟨pa, M, env, ds, env', hS, hR, hg, k⟩ => by
  cases ds with
  | nil => simp [setTs] at hg
  | cons d ds =>
    obtain ⟨v, r, rfl, h3, h4⟩ := hR
    simp only [setTs] at hg
    obtain ⟨env1, g1, g2⟩ := Option.bind_eq_some_iff.mp hg
    exact ⟨v, r, rfl, pa, M, env, d, env1, hS, h3, g1, fun σ' s' k' a' => ⟨pa, M, env1, ds, env', s', h4, g2, fun σ2 s2 k2 a2 => k σ2 s2 (k'.trans k2) (a'.trans a2)⟩⟩
theorem setTs_len : ∀ {ts : List Tg} {ds : List D} {env env' : Env}, setTs ts ds env = some env' → ds.length = ts.length
  | [], [], _, _, _ => rfl
  | _ :: ts, _ :: ds, _, _, h => by
    simp only [setTs] at h
    obtain ⟨e1, _, g2⟩ := Option.bind_eq_some_iff.mp h
    simp [setTs_len g2]
  | [], _ :: _, _, _, h => by simp [setTs] at h
  | _ :: _, [], _, _, h => by simp [setTs] at h
theorem pgt_tup {es : List Expr} {ts : List Tg} {k : Nat} (hc : X.calm = true) (h : PGts X es ts) (hn : (assignEach es X.env).length = ts.length) (hst : (assignEach es X.env).findIdx? (·.1) = none) :
    PGt X (.Tuple es k pos) (.tup ts) := PG.weak (pg_tup hc h hn hst) fun v σ H Q ⟨pa, M, env, d, env', hS, hR, hg, kk⟩ => by
  cases d with
  | tup ds =>
    obtain ⟨a, xs, rfl, t, r⟩ := hR
    simp only [setT] at hg
    exact ⟨a, xs, rfl, t.sq, by rw [← r.length, setTs_len hg], pa, M, env, ds, env', hS, r, hg, kk⟩
  | _ => simp [setT] at hg
theorem pgt_lst {es : List Expr} {ts : List Tg} {k : Nat} (hc : X.calm = true) (h : PGts X es ts) (hn : (assignEach es X.env).length = ts.length) (hst : (assignEach es X.env).findIdx? (·.1) = none) :
    PGt X (.Tuple es k pos) (.lst ts) := PG.weak (pg_unl hc h hn hst) fun v σ H Q ⟨pa, M, env, d, env', hS, hR, hg, kk⟩ => by
  cases d with
  | lst ds =>
    obtain ⟨a, xs, rfl, t, r⟩ := hR
    simp only [setT] at hg
    exact ⟨a, xs, rfl, t.sq, by rw [← r.length, setTs_len hg], pa, M, env, ds, env', hS, r, hg, kk⟩
  | _ => simp [setT] at hg
end
end Rc

-- Rc7
set_option Elab.async false
set_option linter.all false
set_option maxRecDepth 100000
set_option maxHeartbeats 4000000
namespace Rc
open PySem PySem.Spec PyProof.Rows L2

/-! ### what is walked -/
/-- a walk gives the data ds, as long as what is not owned stays -/
def WalkD (K : PySem.W.Frag) (pa : Option Addr) (M : Ms) (H : Hp) (J : It) (ds : List D) : Prop := ∃ (G : Hp → Prop) (Y : Nat → Hp → V → Hp → Prop), Walk J ds.length G Y ∧ (∀ M2 H2, Up M H M2 H2 → G H2) ∧
  ∀ M2 H2 i x H3, Up M H M2 H2 → (∀ a, M2 a → (H2 a).isSome = true) → i < ds.length → Y i H2 x H3 → Same H2 H3 ∧ ∃ d, ds[i]? = some d ∧ Rep K pa M2 H3 d x
def tI (K : PySem.W.Frag) (f : EvA) : TI := fun σ H R => ∃ pa M env p ds p', EnvOk K pa M H σ env ∧ PotOk pa M H p ∧ f env p = some (ds, p') ∧ ∀ J H', Ext pa H H' → PotOk pa M H' p' → WalkD K pa M H' J ds → R J H'
abbrev PIt (X : Cx) (tg iter : Expr) (f : EvA) : Prop := PI X tg iter (tI X.K f)
theorem PI.weak {X : Cx} {tg e : Expr} {t t' : TI} (h : PI X tg e t) (w : ∀ σ H Q, t' σ H Q → t σ H Q) : PI X tg e t' := ⟨fun pins s σ H Q I q => h.run pins s σ H Q I (w σ H Q q)⟩
section
variable {K : PySem.W.Frag} {pa : Option Addr} {M : Ms} {H : Hp} {ds es : List D} {xs ys : List V} {a b : Addr}
theorem walkD_tup (t : TupAt K M H a xs) (r : Reps K pa M H ds xs) : WalkD K pa M H (Itt K a) ds := by
  refine ⟨_, _, r.length ▸ walk_tup (xs := xs), fun M2 H2 u => (u.tup t).sq, fun M2 H2 i x H3 u dom hi y => ?_⟩
  obtain ⟨rfl, y⟩ := y
  obtain ⟨d, h1, h2⟩ := (Reps.up u r).getV y
  exact ⟨Same.refl _, d, h1, h2⟩
theorem walkD_lst (t : LstAt M H a xs) (r : Reps K pa M H ds xs) : WalkD K pa M H (Itl K a) ds := by
  refine ⟨_, _, r.length ▸ walk_list (xs := xs), fun M2 H2 u => (u.lst t).sq, fun M2 H2 i x H3 u dom hi y => ?_⟩
  obtain ⟨rfl, y⟩ := y
  obtain ⟨d, h1, h2⟩ := (Reps.up u r).getV y
  exact ⟨Same.refl _, d, h1, h2⟩
theorem walkD_range {lo : Int} {n : Nat} : WalkD K pa M H (Itr lo n) ((List.range n).map fun (i : Nat) => .int (lo + i)) := by
  refine ⟨fun _ => True, YFn fun i => .int (lo + i), ?_, fun _ _ _ => trivial, fun M2 H2 i x H3 u dom hi y => ?_⟩
  · rw [List.length_map, List.length_range]; exact walk_range
  · obtain ⟨rfl, rfl⟩ := y
    simp only [List.length_map, List.length_range] at hi
    exact ⟨Same.refl _, .int (lo + i), by simp [hi], rfl⟩
def signsD (z : Str) : List D := z.cps.toList.map fun c => .str ⟨#[c]⟩
theorem walkD_str {z : Str} (o : PyData.strOk z = true) : WalkD K pa M H (Its z) (signsD z) := by
  have e : (signsD z).length = z.cps.size := by simp [signsD]
  refine ⟨_, _, e ▸ walk_str (z := z), fun _ _ _ => trivial, fun M2 H2 i x H3 u dom hi y => ?_⟩
  · obtain ⟨rfl, c, h1, rfl⟩ := y
    have h2 : z.cps.toList[i]? = some c := by simpa using h1
    exact ⟨Same.refl _, .str ⟨#[c]⟩, by simp [signsD, h2], rfl, strOk_at o (List.mem_of_getElem? h2)⟩
theorem pair_new {M2 : Ms} {H2 : Hp} {T : Addr} {x y : V} {d e : D} (dom : ∀ a, M2 a → (H2 a).isSome = true) (hT : H2 T = none) (h1 : Rep K pa M2 H2 d x) (h2 : Rep K pa M2 H2 e y) : Same H2 (upd H2 T (.tup [x, y])) ∧ Rep K pa M2 (upd H2 T (.tup [x, y])) (.tup [d, e]) (.ref T) := by
  have s : Same H2 (upd H2 T (.tup [x, y])) := Same.upd hT
  exact ⟨s, T, [x, y], rfl, .inl ⟨new_not (pa := pa) dom hT, upd_same⟩, .cons (Rep.up (Up.same s) h1) (.cons (Rep.up (Up.same s) h2) .nil)⟩
def zipD (xs ys : List D) : List D := (xs.zip ys).map fun q => .tup [q.1, q.2]
theorem walkD_zip (t : LstAt M H a xs) (r : Reps K pa M H ds xs) (t' : LstAt M H b ys) (r' : Reps K pa M H es ys) : WalkD K pa M H (Itz K a b) (zipD ds es) := by
  have hn : (zipD ds es).length = min xs.length ys.length := by simp [zipD, r.length, r'.length]
  refine ⟨_, _, walk_zip (xs := xs) (ys := ys) hn, fun M2 H2 u => ⟨(u.lst t).sq, (u.lst t').sq⟩, fun M2 H2 i x H3 u dom hi y => ?_⟩
  obtain ⟨T, x, z, rfl, hT, rfl, h1, h2⟩ := y
  obtain ⟨d, d1, d2⟩ := (Reps.up u r).getV h1
  obtain ⟨e, e1, e2⟩ := (Reps.up u r').getV h2
  obtain ⟨s1, s2⟩ := pair_new dom hT d2 e2
  exact ⟨s1, .tup [d, e], by unfold zipD; rw [List.getElem?_map, List.getElem?_zip_eq_some (z := (d, e)) |>.mpr ⟨d1, e1⟩]; rfl, s2⟩
def enumD (xs : List D) : List D := (List.range xs.length).zip xs |>.map fun q => .tup [.int (q.1 : Nat), q.2]
theorem walkD_enum (t : LstAt M H a xs) (r : Reps K pa M H ds xs) : WalkD K pa M H (Ite K a) (enumD ds) := by
  have hn : (enumD ds).length = xs.length := by simp [enumD, r.length]
  refine ⟨_, _, hn ▸ walk_enum (xs := xs), fun M2 H2 u => (u.lst t).sq, fun M2 H2 i x H3 u dom hi y => ?_⟩
  obtain ⟨T, x, z, rfl, hT, rfl, h1, h2⟩ := y
  cases h1
  obtain ⟨e, e1, e2⟩ := (Reps.up u r).getV h2
  obtain ⟨s1, s2⟩ := pair_new (d := .int (i : Nat)) dom hT rfl e2
  have hl : i < ds.length := (List.getElem?_eq_some_iff.mp e1).1
  exact ⟨s1, .tup [.int (i : Nat), e], by unfold enumD; rw [List.getElem?_map, List.getElem?_zip_eq_some (z := (i, e)) |>.mpr ⟨List.getElem?_range hl, e1⟩]; rfl, s2⟩
end
def itemsD : D → Option (List D)
  | .tup ds => some ds
  | .lst ds => some ds
  | .str z => some (signsD z)
  | _ => none
def evIter (f : EvF) : EvA := fun env p => (f env p).bind fun r => (itemsD r.1).map fun ds => (ds, r.2)
def rngD : List D → Option (List D)
  | [.int j] => if -(2 ^ 62) ≤ j ∧ j < 2 ^ 62 then some ((List.range j.toNat).map fun (i : Nat) => .int (0 + i)) else none
  | [.int i, .int j] => if -(2 ^ 62) ≤ i ∧ i < 2 ^ 62 ∧ -(2 ^ 62) ≤ j ∧ j < 2 ^ 62 then some ((List.range (j - i).toNat).map fun (k : Nat) => .int (i + k)) else none
  | _ => none
def zipsD : List D → Option (List D)
  | [.lst xs, .lst ys] => some (zipD xs ys)
  | _ => none
def enumsD : List D → Option (List D)
  | [.lst xs] => some (enumD xs)
  | _ => none
def evIt (g : List D → Option (List D)) (f : EvA) : EvA := fun env p => (f env p).bind fun r => (g r.1).map fun ds => (ds, r.2)
section
variable {X : Cx} {tg e e2 : Expr} {f : EvF} {g : EvA} {p pos tpos : Pos} {elts : List Expr} {kk : Nat}
theorem pit_items (he : PD X e f) : PIt X tg e (evIter f) := ⟨fun pins s σ H R I ⟨pa, M, env, p, ds, p', hE, hP, hf, k⟩ => by
  unfold evIter at hf
  obtain ⟨⟨d, p1⟩, h1, h2⟩ := Option.bind_eq_some_iff.mp hf
  obtain ⟨z, h3, h4⟩ := Option.map_eq_some_iff.mp h2
  cases h4
  cases d with
  | tup _ =>
    cases h3
    refine (pi_tup (tg := tg) he).run pins s σ H R I ⟨pa, M, env, p, _, _, hE, hP, h1, fun v H1 x1 k1 r1 => ?_⟩
    obtain ⟨a, xs, rfl, t, r⟩ := r1
    exact ⟨a, rfl, ⟨xs, t.sq⟩, k _ H1 x1 k1 (walkD_tup t r)⟩
  | lst _ =>
    cases h3
    refine (pi_list (tg := tg) he).run pins s σ H R I ⟨pa, M, env, p, _, _, hE, hP, h1, fun v H1 x1 k1 r1 => ?_⟩
    obtain ⟨a, xs, rfl, t, r⟩ := r1
    exact ⟨a, rfl, ⟨xs, t.sq⟩, k _ H1 x1 k1 (walkD_lst t r)⟩
  | str _ =>
    cases h3
    refine (pi_str (tg := tg) he).run pins s σ H R I ⟨pa, M, env, p, _, _, hE, hP, h1, fun v H1 x1 k1 r1 => ?_⟩
    obtain ⟨rfl, o⟩ := r1
    exact ⟨_, rfl, k _ H1 x1 k1 (walkD_str o)⟩
  | _ => simp [itemsD] at h3⟩
theorem evIt_some {gg : List D → Option (List D)} {env : Env} {p p' : Pot} {ds : List D} (h : evIt gg g env p = some (ds, p')) : ∃ as, g env p = some (as, p') ∧ gg as = some ds := by
  unfold evIt at h
  obtain ⟨⟨as, p1⟩, h1, h2⟩ := Option.bind_eq_some_iff.mp h
  obtain ⟨z, h3, h4⟩ := Option.map_eq_some_iff.mp h2
  cases h4
  exact ⟨as, h1, h3⟩
theorem pit_range1 (hg : Gl X "range") (hm : X.mg "range" = none) (ha : PL X [e] g) (hs : starEach [e] X.env = [(false, eval e X.env)]) (hd : ∀ env p r, g env p = some r → r.1.length = 1) : PIt X tg (.Call (.Name "range" p) [e] [] pos) (evIt rngD g) :=
  PI.weak (pi_range1 hg hm ha hs) fun σ H R ⟨pa, M, env, p, ds, p', hE, hP, hf, k⟩ => by
    obtain ⟨as, h1, h2⟩ := evIt_some hf
    have hl := hd _ _ _ h1
    refine ⟨pa, M, env, p, as, p', hE, hP, h1, fun vs H1 x1 k1 r1 => ?_⟩
    unfold rngD at h2
    split at h2
    · split at h2
      · rename_i hb
        cases h2
        obtain ⟨v, r, rfl, rfl, h3⟩ := r1
        cases h3
        exact ⟨_, rfl, hb.1, hb.2, k _ H1 x1 k1 walkD_range⟩
      · cases h2
    · simp at hl
    · cases h2
theorem pit_range2 (hg : Gl X "range") (hm : X.mg "range" = none) (ha : PL X [e, e2] g) (hs : starEach [e, e2] X.env = [(false, eval e X.env), (false, eval e2 X.env)]) (hs2 : starEach [e2] X.env = [(false, eval e2 X.env)])
    (hd : ∀ env p r, g env p = some r → r.1.length = 2) : PIt X tg (.Call (.Name "range" p) [e, e2] [] pos) (evIt rngD g) :=
  PI.weak (pi_range2 hg hm ha hs hs2) fun σ H R ⟨pa, M, env, p, ds, p', hE, hP, hf, k⟩ => by
    obtain ⟨as, h1, h2⟩ := evIt_some hf
    have hl := hd _ _ _ h1
    refine ⟨pa, M, env, p, as, p', hE, hP, h1, fun vs H1 x1 k1 r1 => ?_⟩
    unfold rngD at h2
    split at h2
    · simp at hl
    · split at h2
      · rename_i hb
        cases h2
        obtain ⟨v, r, rfl, rfl, u, r', rfl, rfl, h3⟩ := r1
        cases h3
        exact ⟨_, _, rfl, hb, k _ H1 x1 k1 walkD_range⟩
      · cases h2
    · cases h2
theorem pit_zip (hg : Gl X "zip") (hm : X.mg "zip" = none) (ha : PL X [e, e2] g) (hs : starEach [e, e2] X.env = (false, eval e X.env) :: starEach [e2] X.env) (hpl : (backTo pos (starEach [e2] X.env)).any (·.1) = false) :
    PIt X (.Tuple elts kk tpos) (.Call (.Name "zip" p) [e, e2] [] pos) (evIt zipsD g) :=
  PI.weak (pi_zip hg hm ha hs hpl) fun σ H R ⟨pa, M, env, p, ds, p', hE, hP, hf, k⟩ => by
    obtain ⟨as, h1, h2⟩ := evIt_some hf
    refine ⟨pa, M, env, p, as, p', hE, hP, h1, fun vs H1 x1 k1 r1 => ?_⟩
    unfold zipsD at h2
    split at h2
    · cases h2
      obtain ⟨v, r, rfl, ⟨a, xs, rfl, t, q⟩, u, r', rfl, ⟨b, ys, rfl, t', q'⟩, h3⟩ := r1
      cases h3
      exact ⟨a, b, xs, ys, rfl, t.sq, t'.sq, k _ H1 x1 k1 (walkD_zip t q t' q')⟩
    · cases h2
theorem pit_enum (hg : Gl X "enumerate") (hm : X.mg "enumerate" = none) (ha : PL X [e] g) (hs : starEach [e] X.env = [(false, eval e X.env)]) :
    PIt X (.Tuple elts kk tpos) (.Call (.Name "enumerate" p) [e] [] pos) (evIt enumsD g) :=
  PI.weak (pi_enum hg hm ha hs) fun σ H R ⟨pa, M, env, p, ds, p', hE, hP, hf, k⟩ => by
    obtain ⟨as, h1, h2⟩ := evIt_some hf
    refine ⟨pa, M, env, p, as, p', hE, hP, h1, fun vs H1 x1 k1 r1 => ?_⟩
    unfold enumsD at h2
    split at h2
    · cases h2
      obtain ⟨v, r, rfl, ⟨a, xs, rfl, t, q⟩, h3⟩ := r1
      cases h3
      exact ⟨a, xs, rfl, t.sq, k _ H1 x1 k1 (walkD_enum t q)⟩
    · cases h2
end

/-! ### loops -/
def loopF (t : Tg) (body : StF) : List D → Env → Pot → Option Fl
  | [], env, p => some (.nx env p)
  | d :: ds, env, p => (setT t d env).bind fun env1 => (body env1 p).bind fun fl => match fl with
    | .nx e q => loopF t body ds e q
    | .ct e q => loopF t body ds e q
    | .bk e q => some (.nx e q)
    | .rt r q => some (.rt r q)
def sFor (t : Tg) (f : EvA) (body : StF) : StF := fun env p => (f env p).bind fun r => loopF t body r.1 env r.2
section
variable {X : Cx} {pa : Option Addr} {M0 : Ms} {H0 : Hp} {tg iter : Expr} {body : List Stmt} {t : Tg} {f : EvA} {b : StF} {pos : Pos}
theorem px_for (hp : PassesOwn (model X.prog X.w) X.A X.env X.xe) (hc : X.calm = true) (hi : PIt X tg iter f) (hg : PGt X tg t) (hb : PXs X pa M0 H0 body b) (hs : ∀ x, foldedSetIterable iter X.env x = pure x) :
    PX X pa M0 H0 (.For tg iter body [] pos) (sFor t f b) := PS.weak (ps_for hp hc hi hg hb hs) fun E σ H ⟨M, env, p, fl, s, e, k⟩ => by
  unfold sFor at e
  obtain ⟨⟨ds, p1⟩, e1, e2⟩ := Option.bind_eq_some_iff.mp e
  refine ⟨pa, M, env, p, ds, p1, s.en, s.pot, e1, fun J H1 x1 k1 ⟨G, Y, wk, hG, hY⟩ => ?_⟩
  have s1 := s.ext x1 k1
  have k' := k.from (s.up x1)
  refine for_it wk (fun i σ' H' => ∃ M' env' p', StOk X.K pa M0 H0 M' H' σ' env' p' ∧ loopF t b (ds.drop i) env' p' = some fl ∧ Up M H1 M' H') ⟨M, env, p1, s1, by simpa using e2, Up.refl⟩ ?_ ?_ ?_
  · rintro i σ' H' _ ⟨M', env', p', s', _, u⟩
    exact hG M' H' u
  · rintro i x σ' H' H'' hlt ⟨M', env', p', s', hl, u⟩ y
    obtain ⟨sm, d, hd, hR⟩ := hY M' H' i x H'' u s'.en.dom hlt y
    have s2 := s'.ext (Ext.same sm) (s'.pot.same sm)
    rw [List.drop_eq_getElem_cons hlt] at hl
    have hd' : ds[i] = d := by rw [List.getElem?_eq_getElem hlt] at hd; exact Option.some.inj hd
    rw [hd'] at hl
    simp only [loopF] at hl
    obtain ⟨env1, g1, g2⟩ := Option.bind_eq_some_iff.mp hl
    obtain ⟨f1, g3, g4⟩ := Option.bind_eq_some_iff.mp g2
    refine ⟨pa, M', env', d, env1, s2.en, hR, g1, fun σ2 e2 kp ag => ?_⟩
    have s3 := s2.turn e2 kp
    refine ⟨M', env1, p', f1, s3, g3, ?_⟩
    have u2 : Up M H1 M' H'' := u.trans (Up.same sm)
    cases f1 with
    | nx e q => exact fun σ4 H4 M4 s4 u4 => ⟨M4, e, q, s4, g4, u2.trans u4⟩
    | ct e q => exact fun σ4 H4 M4 s4 u4 => ⟨M4, e, q, s4, g4, u2.trans u4⟩
    | bk e q =>
      cases g4
      exact fun σ4 H4 M4 s4 u4 => k' σ4 H4 M4 s4 (u2.trans u4)
    | rt r q =>
      cases g4
      exact k'
  · rintro σ' H' ⟨M', env', p', s', hl, u⟩
    rw [List.drop_length] at hl
    cases hl
    exact k' σ' H' M' s' u
end

/-! ### new lists -/
def Ins (M : Ms) (a : Addr) : Ms := fun b => M b ∨ b = a
/-- a list that nobody else holds -/
def tF (K : PySem.W.Frag) (f : EvA) : TE := fun σ H Q => ∃ pa M env p ds p', EnvOk K pa M H σ env ∧ PotOk pa M H p ∧ f env p = some (ds, p') ∧
  ∀ a xs H', Ext pa H H' → PotOk pa M H' p' → H a = none → H' a = some (.lst xs) → Reps K pa (Ins M a) H' ds xs → Q (.ref a) H'
abbrev PF (X : Cx) (e : Expr) (f : EvA) : Prop := PE X e (tF X.K f)
def evList (f : EvA) : EvF := fun env p => (f env p).map fun r => (.lst r.1, r.2)
section
variable {X : Cx} {e : Expr} {es : List Expr} {f : EvA} {pos : Pos} {pa : Option Addr} {M0 : Ms} {H0 : Hp}
theorem tF_tE {σ : L2.St} {H : Hp} {Q : VK} (h : tE X.K (evList f) σ H Q) : tF X.K f σ H Q := by
  obtain ⟨pa, M, env, p, d, p', hE, hP, hf, k⟩ := h
  unfold evList at hf
  obtain ⟨⟨ds, p1⟩, h1, h2⟩ := Option.map_eq_some_iff.mp hf
  cases h2
  refine ⟨pa, M, env, p, ds, _, hE, hP, h1, fun a xs H' x1 k1 hn ha r => k _ H' x1 k1 ⟨a, xs, rfl, ⟨new_not (pa := pa) hE.dom hn, ha⟩, Reps.up (Up.less fun b m => .inl m) r⟩⟩
theorem PF.pd (h : PF X e f) : PD X e (evList f) := PE.weak h fun _ _ _ q => tF_tE q
def evLstA (g : EvA) : EvA := fun env p => (g env p).bind fun r => if r.1.length ≤ sizeLine then some r else none
theorem Reps.ins {K : PySem.W.Frag} {M : Ms} {H H' : Hp} {ds : List D} {xs : List V} {a : Addr} (r : Reps K pa M H ds xs) (hn : H a = none) (s : Same H H') : Reps K pa (Ins M a) H' ds xs := Reps.up ((Up.own hn).trans (Up.same s)) r
theorem pf_lst (h : PL X es f) : PF X (.List es pos) (evLstA f) :=
  PE.weak (pe_lst h) fun σ H Q ⟨pa, M, env, p, ds, p', hE, hP, hf, k⟩ => by
    unfold evLstA at hf
    obtain ⟨⟨xs, p1⟩, h1, h2⟩ := Option.bind_eq_some_iff.mp hf
    split at h2
    · rename_i hl
      cases h2
      refine ⟨pa, M, env, p, ds, _, hE, hP, h1, fun vs H1 x1 k1 r1 => ⟨by rw [← r1.length]; exact hl, fun q hq => ?_⟩⟩
      have s1 : Same H1 (upd H1 q (.lst vs)) := Same.upd hq
      have hq0 : H q = none := by
        cases z : H q with
        | none => rfl
        | some o =>
          by_cases y : pa = some q
          · rw [(k1 q y).2] at hq; cases hq
          · rw [x1 q o y z] at hq; cases hq
      exact k q vs _ (x1.trans (Ext.same s1)) (k1.same s1) hq0 upd_same (r1.ins hq s1)
    · cases h2
end

/-! ### assignments -/
def sAsg (t : Tg) (f : EvF) : StF := fun env p => (f env p).bind fun r => (setT t r.1 env).map fun env' => .nx env' r.2
def sOwn (i : Nat) (f : EvA) : StF := fun env p => (f env p).map fun r => .nx (env.set i (some (.own r.1))) r.2
section
variable {X : Cx} {pa : Option Addr} {M0 : Ms} {H0 : Hp} {tg e : Expr} {t : Tg} {f : EvF} {fa : EvA} {pos : Pos}
theorem sAsg_of {E : Ends} {σ : L2.St} {H : Hp} (h : tS X.K pa M0 H0 (sAsg t f) E σ H) : tAsg (tE X.K f) (tG X.K (slotsT t) (setT t)) E σ H := by
  obtain ⟨M, env, p, fl, s, e, k⟩ := h
  unfold sAsg at e
  obtain ⟨⟨d, p1⟩, e1, e2⟩ := Option.bind_eq_some_iff.mp e
  obtain ⟨env', e3, e4⟩ := Option.map_eq_some_iff.mp e2
  subst e4
  refine ⟨pa, M, env, p, d, p1, s.en, s.pot, e1, fun v H1 x1 k1 r1 => ?_⟩
  have s1 := s.ext x1 k1
  exact ⟨pa, M, env, d, env', s1.en, r1, e3, fun σ' e' kp ag => k σ' H1 M (s1.turn e' kp) (s.up x1)⟩
theorem px_asg (he : PD X e f) (hg : PGt X tg t) (hs : swapsWithSole [tg] e pos.line X.env = pure false) (hw : swappedStores [tg] e X.env = pure none) (h1 : (assignEach [tg] X.env).map (·.2) = [assign tg X.env]) :
    PX X pa M0 H0 (.Assign [tg] e pos) (sAsg t f) := PS.weak (ps_asg he hg hs hw h1) fun E σ H h => sAsg_of h
theorem StOk.setOwn {K : PySem.W.Frag} {M : Ms} {H H' : Hp} {σ : L2.St} {env : Env} {p p' : Pot} {a : Addr} {xs : List V} {ds : List D} {i : Nat} (s : StOk K pa M0 H0 M H σ env p) (x : Ext pa H H') (k : PotOk pa M H' p') (hn : H a = none) (ha : H' a = some (.lst xs))
    (r : Reps K pa (Ins M a) H' ds xs) (hi : i < σ.length) : StOk K pa M0 H0 (Ins M a) H' (σ.set i (some (.ref a))) (env.set i (some (.own ds))) p' ∧ Up M H (Ins M a) H' := by
  have u : Up M H (Ins M a) H' := fun b o n h => ⟨fun z => z.elim n fun e => (by rw [e, hn] at h; cases h), x b o (fun z => n (s.pot b z).1) h⟩
  have na : pa ≠ some a := fun z => by have := s.en.dom a (s.pot a z).1; rw [hn] at this; cases this
  have old : ∀ (j : Nat) (e : EV) (v : V), env[j]? = some (some e) → σ[j]? = some (some v) → RepE K pa M H e v → RepE K pa (Ins M a) H' e v ∧ (isOwn e = true → v ≠ .ref a) := fun j e v h1 h2 h3 => by
    cases e with
    | dat d => exact ⟨Rep.up u h3, fun z => by cases z⟩
    | own ds' => obtain ⟨b, ys, e1, m, n, t, r'⟩ := h3; exact ⟨⟨b, ys, e1, .inl m, n, x b _ n t, Reps.up u r'⟩, fun _ z => by rw [e1] at z; cases z; rw [hn] at t; cases t⟩
    | slf c fs => obtain ⟨b, dx, ws, e1, m, n, t, r'⟩ := h3; exact ⟨⟨b, dx, ws, e1, .inl m, n, x b _ n t, RepF.up u r'⟩, fun _ z => by rw [e1] at z; cases z; rw [hn] at t; cases t⟩
  refine ⟨⟨⟨fun j e h => ?_, fun j l e e' v h h' o o' h1 h2 => ?_, fun b m => ?_, by simp [s.en.len]⟩, fun b z => ⟨.inl (k b z).1, (k b z).2⟩, s.pot0, fun b m => .inl (s.sub b m), s.old.trans x, fun j ds' b h o1 h1 => ?_⟩, u⟩
  · rcases get_set h with ⟨rfl, e1⟩ | ⟨n, h⟩
    · cases e1; exact ⟨_, List.getElem?_set_self hi, a, xs, rfl, .inr rfl, na, ha, r⟩
    · obtain ⟨v, h1, h2⟩ := s.en.slot j e h
      exact ⟨v, by rw [List.getElem?_set_ne (Ne.symm n)]; exact h1, (old j e v h h1 h2).1⟩
  · rcases get_set h with ⟨ej, e1⟩ | ⟨n, hb⟩
    · rcases get_set h' with ⟨el, e2⟩ | ⟨n', hb'⟩
      · rw [ej, el]
      · rw [ej, List.getElem?_set_self hi] at h1
        rw [List.getElem?_set_ne (Ne.symm n')] at h2
        cases h1
        obtain ⟨v, q1, q2⟩ := s.en.slot l e' hb'
        rw [h2] at q1
        cases q1
        exact absurd rfl ((old l e' _ hb' h2 q2).2 o')
    · rw [List.getElem?_set_ne (Ne.symm n)] at h1
      rcases get_set h' with ⟨el, e2⟩ | ⟨n', hb'⟩
      · rw [el, List.getElem?_set_self hi] at h2
        cases h2
        obtain ⟨v, q1, q2⟩ := s.en.slot j e hb
        rw [h1] at q1
        cases q1
        exact absurd rfl ((old j e _ hb h1 q2).2 o)
      · rw [List.getElem?_set_ne (Ne.symm n')] at h2
        exact s.en.inj j l e e' v hb hb' o o' h1 h2
  · rcases m with m | m
    · exact x.dom k s.en.dom b m
    · rw [m, ha]; rfl
  · rcases get_set h with ⟨rfl, e1⟩ | ⟨n, h⟩
    · rw [List.getElem?_set_self hi] at h1
      cases h1
      cases e1
      refine ⟨s.new0 hn, fun z => ?_, fun z => by cases z⟩
      have := s.en.dom a (s.sub a z)
      rw [hn] at this; cases this
    · rw [List.getElem?_set_ne (Ne.symm n)] at h1
      exact s.fresh j ds' b h o1 h1
theorem sOwn_of {i : Nat} {E : Ends} {σ : L2.St} {H : Hp} (hi : i < σ.length) (h : tS X.K pa M0 H0 (sOwn i fa) E σ H) : tAsg (tF X.K fa) (gName i) E σ H := by
  obtain ⟨M, env, p, fl, s, e, k⟩ := h
  unfold sOwn at e
  obtain ⟨⟨ds, p1⟩, e1, e2⟩ := Option.map_eq_some_iff.mp e
  subst e2
  refine ⟨pa, M, env, p, ds, p1, s.en, s.pot, e1, fun a xs H1 x1 k1 hn ha r => ?_⟩
  obtain ⟨s1, u1⟩ := s.setOwn x1 k1 hn ha r hi
  exact k _ H1 _ s1 u1
theorem px_own {i : Nat} {x : Str} {px : Pos} (he : PF X e fa) (hN : X.N.Nodup) (hi : X.N[i]? = some x) (hx : Loc X.env.scope x) (hf : X.fn x = true ∨ X.env.scope.names.lookup x = some .local)
    (hs : swapsWithSole [.Name x px] e pos.line X.env = pure false) (hw : swappedStores [.Name x px] e X.env = pure none) (h1 : (assignEach [.Name x px] X.env).map (·.2) = [assign (.Name x px) X.env]) :
    PX X pa M0 H0 (.Assign [.Name x px] e pos) (sOwn i fa) := ⟨fun pins s σ H E I q =>
  (ps_asg he (pg_name hN hi hx hf) hs hw h1).run pins s σ H E I (sOwn_of (by rw [I.len]; exact (List.getElem?_eq_some_iff.mp hi).1) q)⟩
end
end Rc

-- Rc8
set_option Elab.async false
set_option linter.all false
set_option maxRecDepth 100000
set_option maxHeartbeats 4000000
namespace Rc
open PySem PySem.Spec PyProof.Rows L2

/-! ### comprehensions -/
def wipeE (env : Env) : List Nat → Env
  | [] => env
  | v :: vs => (wipeE env vs).set v none
theorem wipeE_some {env : Env} {i : Nat} {x : EV} : ∀ {vs : List Nat}, (wipeE env vs)[i]? = some (some x) → env[i]? = some (some x) ∧ i ∉ vs
  | [], h => ⟨h, by simp⟩
  | v :: vs, h => by
    unfold wipeE at h
    rcases get_set h with ⟨_, e⟩ | ⟨n, h⟩
    · cases e
    · obtain ⟨h1, h2⟩ := wipeE_some h
      exact ⟨h1, by simp only [List.mem_cons, not_or]; exact ⟨n, h2⟩⟩
theorem wipeE_length (env : Env) : ∀ vs : List Nat, (wipeE env vs).length = env.length
  | [] => rfl
  | v :: vs => by unfold wipeE; rw [List.length_set, wipeE_length env vs]
theorem wipe_out {σ : L2.St} {i : Nat} : ∀ {vs : List Nat}, i ∉ vs → (wipe σ vs)[i]? = σ[i]?
  | [], _ => rfl
  | v :: vs, h => by
    unfold wipe
    rw [List.getElem?_set_ne (fun e => h (by simp [e])), wipe_out fun z => h (by simp [z])]
theorem wipe_in {σ : L2.St} {i : Nat} : ∀ {vs : List Nat}, i ∈ vs → i < σ.length → (wipe σ vs)[i]? = some none
  | [], h, _ => by cases h
  | v :: vs, h, hl => by
    unfold wipe
    by_cases e : v = i
    · subst e; exact List.getElem?_set_self (by rw [wipe_length]; exact hl)
    · rw [List.getElem?_set_ne e]
      exact wipe_in (by simpa [Ne.symm e] using h) hl
theorem wipe_agree {σ σ' : L2.St} {js vs : List Nat} (sub : ∀ j ∈ js, j ∈ vs) (a : Agree js (wipe σ vs) σ') : wipe σ' vs = wipe σ vs := by
  refine List.ext_getElem? fun i => ?_
  have hl : σ'.length = σ.length := by rw [a.1, wipe_length]
  by_cases h : i ∈ vs
  · by_cases hi : i < σ.length
    · rw [wipe_in h (by rw [hl]; exact hi), wipe_in h hi]
    · rw [List.getElem?_eq_none (by rw [wipe_length, hl]; omega), List.getElem?_eq_none (by rw [wipe_length]; omega)]
  · rw [wipe_out h, a.2 i fun z => h (sub i z)]
section
variable {K : PySem.W.Frag} {pa : Option Addr} {M : Ms} {H H1 H' : Hp} {σ : L2.St} {env : Env} {p p' p1 : Pot} {D0 : Addr}
theorem EnvOk.wipe (e : EnvOk K pa M H σ env) (vs : List Nat) : EnvOk K pa M H (L2.wipe σ vs) (wipeE env vs) :=
  ⟨fun i x h => let ⟨h1, h2⟩ := wipeE_some h; let ⟨v, a, b⟩ := e.slot i x h1; ⟨v, (wipe_out h2).trans a, b⟩,
   fun i j x y v h h' o o' h1 h2 => let ⟨g1, g2⟩ := wipeE_some h; let ⟨g3, g4⟩ := wipeE_some h'; e.inj i j x y v g1 g3 o o' ((wipe_out g2).symm.trans h1) ((wipe_out g4).symm.trans h2),
   e.dom, by rw [wipeE_length, wipe_length, e.len]⟩
theorem up_new (k : PotOk pa M H1 p1) (hn : H1 D0 = none) (x : Ext pa H1 H') : Up M H1 (Ins M D0) H' := fun b o n h => ⟨fun z => z.elim n fun e => (by rw [e, hn] at h; cases h), x b o (fun z => n (k b z).1) h⟩
theorem EnvOk.new (e : EnvOk K pa M H1 σ env) (k : PotOk pa M H1 p1) (hn : H1 D0 = none) (x : Ext pa H1 H') (k' : PotOk pa M H' p') (hs : (H' D0).isSome = true) : EnvOk K pa (Ins M D0) H' σ env := by
  have u := up_new k hn x
  refine ⟨fun i ev h => ?_, e.inj, fun a m => ?_, e.len⟩
  · obtain ⟨v, h1, h2⟩ := e.slot i ev h
    refine ⟨v, h1, ?_⟩
    cases ev with
    | dat d => exact Rep.up u h2
    | own ds => obtain ⟨a, xs, e1, m, n, t, r⟩ := h2; exact ⟨a, xs, e1, .inl m, n, x a _ n t, Reps.up u r⟩
    | slf c fs => obtain ⟨a, dx, ws, e1, m, n, t, r⟩ := h2; exact ⟨a, dx, ws, e1, .inl m, n, x a _ n t, RepF.up u r⟩
  · rcases m with m | m
    · exact x.dom k' e.dom a m
    · rw [m]; exact hs
theorem PotOk.ins (k : PotOk pa M H p) : PotOk pa (Ins M D0) H p := fun a e => ⟨.inl (k a e).1, (k a e).2⟩
end
def lcGo (g : D → Option Env) (c : EvT) (e : EvF) : List D → Pot → Option (List D × Pot)
  | [], p => some ([], p)
  | d :: ds, p => (g d).bind fun env1 => (c env1 p).bind fun b => if b.1 then (e env1 b.2).bind fun r => (lcGo g c e ds r.2).map fun q => (r.1 :: q.1, q.2) else lcGo g c e ds b.2
def evLc (t : Tg) (vs : List Nat) (f : EvA) (c : EvT) (e : EvF) : EvA := fun env p => (f env p).bind fun r => if r.1.length ≤ sizeLine then lcGo (fun d => setT t d (wipeE env vs)) c e r.1 r.2 else none
theorem lc_of {K : PySem.W.Frag} {t : Tg} {vs : List Nat} {f : EvA} {c : EvT} {e : EvF} (sub : ∀ j ∈ slotsT t, j ∈ vs) {σ : L2.St} {H : Hp} {Q : VK} (h : tF K (evLc t vs f c e) σ H Q) :
    tLc (tI K f) (tG K (slotsT t) (setT t)) (tB K c) (tE K e) vs σ H Q := by
  obtain ⟨pa, M, env, p, res, pE, hE, hP, hf, k⟩ := h
  unfold evLc at hf
  obtain ⟨⟨ds, p1⟩, e1, e2⟩ := Option.bind_eq_some_iff.mp hf
  split at e2
  rotate_left
  · cases e2
  rename_i hlen
  have hlen : ds.length ≤ sizeLine := hlen
  refine ⟨pa, M, env, p, ds, p1, hE, hP, e1, fun J H1 x1 k1 ⟨G, Y, wk, hG, hY⟩ D0 hD => ?_⟩
  have E1 := hE.ext x1 hP k1
  have nD : pa ≠ some D0 := fun z => by rw [(k1 D0 z).2] at hD; cases hD
  refine lc_it wk (fun i H' => ∃ accD acc p' rest, Ext pa H1 H' ∧ PotOk pa M H' p' ∧ H' D0 = some (.lst acc) ∧ Reps K pa (Ins M D0) H' accD acc ∧ accD.length ≤ i ∧ lcGo (fun d => setT t d (wipeE env vs)) c e (ds.drop i) p' = some (rest, pE) ∧ accD ++ rest = res) ?_ ?_ ?_ ?_
  · have s1 : Same H1 (upd H1 D0 (.lst [])) := Same.upd hD
    exact ⟨[], [], p1, res, Ext.same s1, k1.same s1, upd_same, rfl, Nat.zero_le _, by simpa using e2, rfl⟩
  · rintro i H' _ ⟨accD, acc, p', rest, x', k', hd, _⟩
    exact hG _ H' (up_new k1 hD x')
  · rintro i x H' H'' hi ⟨accD, acc, p', rest, x', k', hd, hr, hl, hg, hres⟩ y
    have EN := E1.new k1 hD x' k' (by rw [hd]; rfl)
    obtain ⟨sm, d, hdi, hR⟩ := hY _ H' i x H'' (up_new k1 hD x') EN.dom hi y
    have k2 : PotOk pa (Ins M D0) H' p' := k'.ins
    have E2 := EN.ext (Ext.same sm) k2 (k2.same sm)
    rw [List.drop_eq_getElem_cons hi] at hg
    have hd' : ds[i] = d := by rw [List.getElem?_eq_getElem hi] at hdi; exact Option.some.inj hdi
    rw [hd'] at hg
    simp only [lcGo] at hg
    obtain ⟨env1, g1, g2⟩ := Option.bind_eq_some_iff.mp hg
    obtain ⟨⟨b1, p2⟩, g3, g4⟩ := Option.bind_eq_some_iff.mp g2
    refine ⟨pa, Ins M D0, wipeE env vs, d, env1, E2.wipe vs, hR, g1, fun σ2 s2 _ ag => ⟨wipe_agree sub ag, ?_⟩⟩
    refine ⟨pa, Ins M D0, env1, p', b1, p2, s2, k2.same sm, g3, fun H3 x3 k3 => ?_⟩
    have x3' : Ext pa H1 H3 := (x'.trans (Ext.same sm)).trans x3
    have hd3 : H3 D0 = some (.lst acc) := x3 _ _ nD (sm _ _ hd)
    have r3 : Reps K pa (Ins M D0) H3 accD acc := Reps.up ((Up.same sm).trans (x3.up (k2.same sm))) hr
    have k3' : PotOk pa M H3 p2 := fun a z => ⟨(k1 a z).1, (k3 a z).2⟩
    cases b1 with
    | false =>
      simp only [Bool.false_eq_true, if_false] at g4 ⊢
      exact ⟨accD, acc, p2, rest, x3', k3', hd3, r3, Nat.le_succ_of_le hl, g4, hres⟩
    | true =>
      simp only [if_true] at g4 ⊢
      obtain ⟨⟨z, p3⟩, g5, g6⟩ := Option.bind_eq_some_iff.mp g4
      obtain ⟨⟨rest', p4⟩, g7, g8⟩ := Option.map_eq_some_iff.mp g6
      cases g8
      refine ⟨pa, Ins M D0, env1, p2, z, p3, s2.ext x3 (k2.same sm) k3, k3, g5, fun v H4 x4 k4 r4 => ?_⟩
      have hd4 : H4 D0 = some (.lst acc) := x4 _ _ nD hd3
      have hlen' : acc.length = accD.length := hr.length.symm
      refine ⟨acc, hd4, by omega, accD ++ [z], acc ++ [v], p3, rest', ?_, ?_, upd_same, ?_, by simp; omega, g7, by simp [← hres]⟩
      · intro a o na ha
        have ha4 := x4 a o na (x3' a o na ha)
        rw [upd_ne (fun z => by rw [z, hD] at ha; cases ha)]
        exact ha4
      · intro a z
        refine ⟨(k1 a z).1, ?_⟩
        rw [upd_ne (fun (y : a = D0) => nD (by rw [← y]; exact z))]
        exact (k4 a z).2
      · have u5 : Up (Ins M D0) H4 (Ins M D0) (upd H4 D0 (.lst (acc ++ [v]))) := fun a o n ha => ⟨n, by rw [upd_ne (fun z => n (.inr z))]; exact ha⟩
        exact Reps.append (Reps.up ((x4.up k3).trans u5) r3) (.cons (Rep.up u5 r4) .nil)
  · rintro H' ⟨accD, acc, p', rest, x', k', hd, hr, hl, hg, hres⟩
    rw [List.drop_length] at hg
    cases hg
    rw [List.append_nil] at hres
    subst hres
    have h0 : H D0 = none := by
      cases z : H D0 with
      | none => rfl
      | some o => rw [x1 D0 o nD z] at hD; cases hD
    exact k D0 acc H' (x1.trans x') k' h0 hd hr
section
variable {X : Cx} {elt tg iter : Expr} {ifs : List Expr} {scope : Scope} {own : List (Str × Nat)} {pos spos py : Pos} {t : Tg} {f : EvA} {c : EvT} {e : EvF} {pa : Option Addr} {M0 : Ms} {H0 : Hp} {i : Nat} {y : Str}
abbrev PTsB (X : Cx) (ifs : List Expr) (c : EvT) : Prop := PTs X ifs (tB X.K c)
theorem ptsb_nil : PTsB X [] (fun _ p => some (true, p)) := ⟨fun pins s σ H Q I ⟨pa, M, env, p, b, p', hE, hP, hf, k⟩ => by
  cases hf
  exact pts_nil.run pins s σ H Q I (k H Ext.refl hP)⟩
theorem ptsb_one {a : Expr} (h : PB X a c) : PTsB X [a] c := pts_one h
theorem pf_lc (hc : X.calm = true) (hN : X.N.Nodup) (hi : PIt X tg iter f) (ok : BlkOk X.N X.env.scope scope own) (sub : ∀ j ∈ slotsT t, j ∈ own.map (·.2))
    (hg : ∀ (s : Shared) (H : Hp) (C : Addr) (cl : List (Str × Addr)) (fp : List Addr), PGt (X.blk s H scope (compEnvC scope cl C X.env) fp) tg t)
    (ht : ∀ (s : Shared) (H : Hp) (C : Addr) (cl : List (Str × Addr)) (fp : List Addr), PTsB (X.blk s H scope (compEnvC scope cl C X.env) fp) ifs c)
    (he : ∀ (s : Shared) (H : Hp) (C : Addr) (cl : List (Str × Addr)) (fp : List Addr), PD (X.blk s H scope (compEnvC scope cl C X.env) fp) elt e) (hs : ∀ x, foldedSetIterable iter X.env x = pure x) :
    PF X (.ListComp elt [⟨tg, iter, ifs, 0⟩] scope pos) (evLc t (own.map (·.2)) f c e) := PE.weak (pe_lc hc hN hi ok hg ht he hs) fun _ _ _ h => lc_of sub h
theorem px_lc (hc : X.calm = true) (hN : X.N.Nodup) (hy : X.N[i]? = some y) (hyl : X.env.scope.names.lookup y = some .local) (hsw : swapsWith (.ListComp elt [⟨tg, iter, ifs, 0⟩] scope pos) (some (.Name y py)) spos.line X.env = pure true)
    (hi : PIt X tg iter f) (ok : BlkOk X.N X.env.scope scope own) (sub : ∀ j ∈ slotsT t, j ∈ own.map (·.2))
    (hg : ∀ (s : Shared) (H : Hp) (C : Addr) (cl : List (Str × Addr)) (fp : List Addr), PGt (X.blk s H scope (compEnvC scope cl C X.env) fp) tg t)
    (ht : ∀ (s : Shared) (H : Hp) (C : Addr) (cl : List (Str × Addr)) (fp : List Addr), PTsB (X.blk s H scope (compEnvC scope cl C X.env) fp) ifs c)
    (he : ∀ (s : Shared) (H : Hp) (C : Addr) (cl : List (Str × Addr)) (fp : List Addr), PD (X.blk s H scope (compEnvC scope cl C X.env) fp) elt e) (hs : ∀ x, foldedSetIterable iter X.env x = pure x) :
    PX X pa M0 H0 (.Assign [.Name y py] (.ListComp elt [⟨tg, iter, ifs, 0⟩] scope pos) spos) (sOwn i (evLc t (own.map (·.2)) f c e)) := ⟨fun pins s σ H E I q => by
  refine (ps_setLc (te := tE X.K e) (tt := tB X.K c) (g := tG X.K (slotsT t) (setT t)) hc hN hy hyl hsw hi ok hg ht he hs).run pins s σ H E I ?_
  exact lc_of sub (sOwn_of (X := X) (by rw [I.len]; exact (List.getElem?_eq_some_iff.mp hy).1) q)⟩
end

/-! ### own lists: append, extend, given up -/
def sAppend (i : Nat) (f : EvF) : StF := fun env p => (f env p).bind fun r => match env[i]? with
  | some (some (.own ds)) => if ds.length < sizeLine then some (.nx (env.set i (some (.own (ds ++ [r.1])))) r.2) else none
  | _ => none
/-- the list is a datum like others from now on -/
def sFreeze (i : Nat) : StF := fun env p => match env[i]? with
  | some (some (.own ds)) => some (.nx (env.set i (some (.dat (.lst ds)))) p)
  | _ => none
section
variable {K : PySem.W.Frag} {pa : Option Addr} {M0 M : Ms} {H0 H : Hp} {σ : L2.St} {env : Env} {p : Pot} {i : Nat} {a : Addr} {ds es : List D} {xs ys : List V}
theorem StOk.store (s : StOk K pa M0 H0 M H σ env p) (h : env[i]? = some (some (.own ds))) (hv : σ[i]? = some (some (.ref a))) (m : M a) (na : pa ≠ some a) (r : Reps K pa M H es ys) :
    StOk K pa M0 H0 M (upd H a (.lst ys)) σ (env.set i (some (.own es))) p ∧ Up M H M (upd H a (.lst ys)) := by
  have u : Up M H M (upd H a (.lst ys)) := fun b o n q => ⟨n, by rw [upd_ne (fun (z : b = a) => n (by rw [z]; exact m))]; exact q⟩
  have hi : i < env.length := (List.getElem?_eq_some_iff.mp h).1
  refine ⟨⟨⟨fun j e q => ?_, fun j l e e' v q q' o o' h1 h2 => ?_, fun b z => ?_, by simp [s.en.len]⟩, fun b z => ?_, s.pot0, s.sub, fun b o n q => ?_, fun j ds' b q o1 h1 => ?_⟩, u⟩
  · rcases get_set q with ⟨ej, e1⟩ | ⟨n, q⟩
    · cases e1
      rw [ej]
      exact ⟨_, hv, a, ys, rfl, m, na, upd_same, Reps.up u r⟩
    · obtain ⟨v, h1, h2⟩ := s.en.slot j e q
      have ne : isOwn e = true → v ≠ .ref a := fun o z => n (s.en.inj j i e _ v q h o rfl h1 (z ▸ hv))
      refine ⟨v, h1, ?_⟩
      cases e with
      | dat d => exact Rep.up u h2
      | own ds' =>
        obtain ⟨b, zs, e1, m', n', t, r'⟩ := h2
        exact ⟨b, zs, e1, m', n', by rw [upd_ne (fun (z : b = a) => ne rfl (by rw [e1, z]))]; exact t, Reps.up u r'⟩
      | slf c fs =>
        obtain ⟨b, dx, ws, e1, m', n', t, r'⟩ := h2
        exact ⟨b, dx, ws, e1, m', n', by rw [upd_ne (fun (z : b = a) => ne rfl (by rw [e1, z]))]; exact t, RepF.up u r'⟩
  · have back : ∀ {j : Nat} {e : EV}, (env.set i (some (.own es)))[j]? = some (some e) → isOwn e = true → ∃ e2, env[j]? = some (some e2) ∧ isOwn e2 = true := fun {j e} q o => by
      rcases get_set q with ⟨ej, _⟩ | ⟨n, q⟩
      · exact ⟨_, ej ▸ h, rfl⟩
      · exact ⟨e, q, o⟩
    obtain ⟨e2, q2, o2⟩ := back q o
    obtain ⟨e3, q3, o3⟩ := back q' o'
    exact s.en.inj j l e2 e3 v q2 q3 o2 o3 h1 h2
  · by_cases e : b = a
    · rw [e, upd_same]; rfl
    · rw [upd_ne e]; exact s.en.dom b z
  · rw [upd_ne (fun (y : b = a) => na (by rw [← y]; exact z))]; exact s.pot b z
  · rw [upd_ne (fun z => by
      have := (s.fresh i _ a h rfl hv).1
      rw [z, this] at q; cases q)]
    exact s.old b o n q
  · rcases get_set q with ⟨ej, e1⟩ | ⟨n, q⟩
    · rw [ej, hv] at h1
      cases h1
      cases e1
      exact (s.fresh i _ a h rfl hv : H0 a = none ∧ (M0 a ↔ isSlf (.own ds) = true))
    · exact s.fresh j ds' b q o1 h1
theorem StOk.giveUp (s : StOk K pa M0 H0 M H σ env p) (h : env[i]? = some (some (.own ds))) :
    ∃ M', StOk K pa M0 H0 M' H σ (env.set i (some (.dat (.lst ds)))) p ∧ Up M H M' H := by
  obtain ⟨v, hv, a, xs, rfl, m, na, t, r⟩ := s.en.slot i _ h
  have u : Up M H (fun b => M b ∧ b ≠ a) H := Up.less fun b z => z.1
  refine ⟨fun b => M b ∧ b ≠ a, ⟨⟨fun j e q => ?_, fun j l e e' v q q' o o' h1 h2 => ?_, fun b z => s.en.dom b z.1, by simp [s.en.len]⟩, fun b z => ⟨⟨(s.pot b z).1, fun (y : b = a) => na (by rw [← y]; exact z)⟩, (s.pot b z).2⟩, s.pot0, fun b z => ⟨s.sub b z, fun y => ?_⟩, s.old, fun j ds' b q o1 h1 => ?_⟩, u⟩
  · rcases get_set q with ⟨ej, e1⟩ | ⟨n, q⟩
    · cases e1
      rw [ej]
      exact ⟨_, hv, a, xs, rfl, ⟨fun z => z.2 rfl, t⟩, Reps.up u r⟩
    · obtain ⟨v, h1, h2⟩ := s.en.slot j e q
      have ne : isOwn e = true → v ≠ .ref a := fun o z => n (s.en.inj j i e _ v q h o rfl h1 (z ▸ hv))
      refine ⟨v, h1, ?_⟩
      cases e with
      | dat d => exact Rep.up u h2
      | own ds' =>
        obtain ⟨b, zs, e1, m', n', t', r'⟩ := h2
        exact ⟨b, zs, e1, ⟨m', fun z => ne rfl (by rw [e1, z])⟩, n', t', Reps.up u r'⟩
      | slf c fs =>
        obtain ⟨b, dx, ws, e1, m', n', t', r'⟩ := h2
        exact ⟨b, dx, ws, e1, ⟨m', fun z => ne rfl (by rw [e1, z])⟩, n', t', RepF.up u r'⟩
  · rcases get_set q with ⟨ej, e1⟩ | ⟨n, q⟩
    · cases e1; cases o
    rcases get_set q' with ⟨ej, e1⟩ | ⟨n', q'⟩
    · cases e1; cases o'
    exact s.en.inj j l e e' v q q' o o' h1 h2
  · rw [y] at z
    have := (s.fresh i _ a h rfl hv).2.mp z
    cases this
  · rcases get_set q with ⟨ej, e1⟩ | ⟨n, q⟩
    · cases e1; cases o1
    · exact s.fresh j ds' b q o1 h1
end
section
variable {X : Cx} {pa : Option Addr} {M0 : Ms} {H0 : Hp} {e : Expr} {f : EvF} {i : Nat} {x : Str} {px apos cpos pos : Pos} {sts : List Stmt} {g : StF}
theorem px_append (hN : X.N[i]? = some x) (hv : Vis X.env.scope x) (hd : (x == ("__debug__" : Str)) = false) (hcd : (x == ("__classdict__" : Str)) = false) (he : PD X e f)
    (hbase : attributeBase (.Name x px) "append" X.env (eval (.Name x px) X.env) = eval (.Name x px) X.env)
    (hfew : ((backTo cpos (starEach [e] X.env)).all (fun x => !x.1) && (backToKw cpos (keywordEach [] X.env)).all (fun x => x.1.isSome) && decide ([e].length + ([] : List Keyword).length + (if ([] : List Keyword).isEmpty then 0 else 1) < 30)) = true)
    (hline : (apos.endLine == cpos.line) = true) (hs : starEach [e] X.env = (false, eval e X.env) :: starEach [] X.env) (hplain : (backTo cpos (starEach [] X.env)).any (·.1) = false)
    (hsw : swapsWith (.Call (.Attribute (.Name x px) "append" apos) [e] [] cpos) none pos.line X.env = pure false) :
    PX X pa M0 H0 (.Expr (.Call (.Attribute (.Name x px) "append" apos) [e] [] cpos) pos) (sAppend i f) :=
  PS.weak (ps_expr (pe_bm PySem.F.plainAttrs_list PySem.F.slot_list_append PySem.F.type_list_append mt_append (pe_var hN hv hd hcd) (pa_cons he pa_nil hs) hbase hfew hline hs hplain) hsw) fun E σ H ⟨M, env, p, fl, s, q, k⟩ => by
    unfold sAppend at q
    obtain ⟨⟨d, p1⟩, q1, q2⟩ := Option.bind_eq_some_iff.mp q
    dsimp only at q2
    split at q2
    rotate_left
    · cases q2
    rename_i ds hi
    split at q2
    rotate_left
    · cases q2
    rename_i hl
    cases q2
    obtain ⟨v, h1, a, xs, rfl, m, na, t, r⟩ := s.en.slot i _ hi
    refine ⟨.ref a, h1, .inl ⟨rfl, xs, .inl (.inl t)⟩, ?_⟩
    refine ⟨pa, M, env, p, d, p1, s.en, s.pot, q1, fun v H1 x1 k1 r1 => ?_⟩
    have s1 := s.ext x1 k1
    have t1 : H1 a = some (.lst xs) := x1 a _ na t
    have r1' : Reps X.K pa M H1 ds xs := Reps.up (s.up x1) r
    refine ⟨a, xs, v, rfl, rfl, t1, by rw [← r.length]; exact hl, ?_⟩
    obtain ⟨s2, u2⟩ := s1.store hi h1 m na (r1'.append (.cons r1 .nil))
    exact k σ _ M s2 ((s.up x1).trans u2)
theorem px_freeze (h : PXs X pa M0 H0 sts g) : PXs X pa M0 H0 sts (sSeq (sFreeze i) g) := PSs.weak h fun E σ H ⟨M, env, p, fl, s, q, k⟩ => by
  unfold sSeq sFreeze at q
  obtain ⟨f1, q1, q2⟩ := Option.bind_eq_some_iff.mp q
  split at q1
  · rename_i ds hi
    cases q1
    obtain ⟨M', s', u⟩ := s.giveUp hi
    exact ⟨M', _, _, fl, s', q2, k.from u⟩
  · cases q1
end

/-! ### two and three stores at once -/
def sPar (is : List Nat) (f : EvA) : StF := fun env p => (f env p).bind fun r => (setTs (is.map .name) r.1 env).map fun env' => .nx env' r.2
section
variable {X : Cx} {pa : Option Addr} {M0 : Ms} {H0 : Hp} {a b c : Expr} {f : EvA} {i j l : Nat} {x y z : Str} {px py pz pt pos : Pos} {kt k2 : Nat} {pt2 : Pos}
theorem px_par (hc : X.calm = true) (hN : X.N.Nodup) (hi : X.N[i]? = some x) (hj : X.N[j]? = some y) (hij : i ≠ j) (hx : X.env.scope.names.lookup x = some .local) (hy : X.env.scope.names.lookup y = some .local) (ha : PL X [a, b] f)
    (hw : swappedStores [.Tuple [.Name x px, .Name y py] kt pt] (.Tuple [a, b] k2 pt2) X.env = pure (some [x, y])) (hs : swapsWithSole [.Tuple [.Name x px, .Name y py] kt pt] (.Tuple [a, b] k2 pt2) pos.line X.env = pure false) :
    PX X pa M0 H0 (.Assign [.Tuple [.Name x px, .Name y py] kt pt] (.Tuple [a, b] k2 pt2) pos) (sPar [i, j] f) := ⟨fun pins s σ H E I ⟨M, env, p, fl, st, e, k⟩ => by
  refine (ps_par hc hN hi hj hij hx hy ha hw hs).run pins s σ H E I ?_
  have li : i < σ.length := by rw [I.len]; exact (List.getElem?_eq_some_iff.mp hi).1
  have lj : j < σ.length := by rw [I.len]; exact (List.getElem?_eq_some_iff.mp hj).1
  unfold sPar at e
  obtain ⟨⟨ds, p1⟩, e1, e2⟩ := Option.bind_eq_some_iff.mp e
  obtain ⟨env', e3, e4⟩ := Option.map_eq_some_iff.mp e2
  subst e4
  refine ⟨pa, M, env, p, ds, p1, st.en, st.pot, e1, fun vs H1 x1 k1 r1 => ?_⟩
  have s1 := st.ext x1 k1
  match ds, e3 with
  | [d1, d2], e3 =>
    obtain ⟨v, r, rfl, h1, u, r', rfl, h2, h3⟩ := r1
    cases h3
    simp [setTs, setT] at e3
    subst e3
    refine ⟨v, u, rfl, ?_⟩
    have E1 := s1.en.setDat (i := i) h1 li
    have E2 := E1.setDat (i := j) h2 (by simpa using lj)
    exact k _ H1 M (s1.turn E2 (keep_set.trans keep_set)) (st.up x1)
  | [], e3 => simp [setTs] at e3
  | [_], e3 => simp [setTs, setT] at e3
  | _ :: _ :: _ :: _, e3 => simp [setTs, setT] at e3⟩
theorem px_par3 (hc : X.calm = true) (hN : X.N.Nodup) (hi : X.N[i]? = some x) (hj : X.N[j]? = some y) (hl : X.N[l]? = some z) (hij : i ≠ j) (hil : i ≠ l) (hjl : j ≠ l) (hx : X.env.scope.names.lookup x = some .local) (hy : X.env.scope.names.lookup y = some .local)
    (hz : X.env.scope.names.lookup z = some .local) (ha : PL X [a, b, c] f)
    (hw : swappedStores [.Tuple [.Name x px, .Name y py, .Name z pz] kt pt] (.Tuple [a, b, c] k2 pt2) X.env = pure (some [x, y, z])) (hs : swapsWithSole [.Tuple [.Name x px, .Name y py, .Name z pz] kt pt] (.Tuple [a, b, c] k2 pt2) pos.line X.env = pure false) :
    PX X pa M0 H0 (.Assign [.Tuple [.Name x px, .Name y py, .Name z pz] kt pt] (.Tuple [a, b, c] k2 pt2) pos) (sPar [i, j, l] f) := ⟨fun pins s σ H E I ⟨M, env, p, fl, st, e, k⟩ => by
  refine (ps_par3 hc hN hi hj hl hij hil hjl hx hy hz ha hw hs).run pins s σ H E I ?_
  have li : i < σ.length := by rw [I.len]; exact (List.getElem?_eq_some_iff.mp hi).1
  have lj : j < σ.length := by rw [I.len]; exact (List.getElem?_eq_some_iff.mp hj).1
  have ll : l < σ.length := by rw [I.len]; exact (List.getElem?_eq_some_iff.mp hl).1
  unfold sPar at e
  obtain ⟨⟨ds, p1⟩, e1, e2⟩ := Option.bind_eq_some_iff.mp e
  obtain ⟨env', e3, e4⟩ := Option.map_eq_some_iff.mp e2
  subst e4
  refine ⟨pa, M, env, p, ds, p1, st.en, st.pot, e1, fun vs H1 x1 k1 r1 => ?_⟩
  have s1 := st.ext x1 k1
  match ds, e3 with
  | [d1, d2, d3], e3 =>
    obtain ⟨v, r, rfl, h1, u, r', rfl, h2, w', r'', rfl, h3, h4⟩ := r1
    cases h4
    simp [setTs, setT] at e3
    subst e3
    refine ⟨v, u, w', rfl, ?_⟩
    have E1 := s1.en.setDat (i := i) h1 li
    have E2 := E1.setDat (i := j) h2 (by simpa using lj)
    have E3 := E2.setDat (i := l) h3 (by simpa using ll)
    exact k _ H1 M (s1.turn E3 ((keep_set.trans keep_set).trans keep_set)) (st.up x1)
  | [], e3 => simp [setTs] at e3
  | [_], e3 => simp [setTs, setT] at e3
  | [_, _], e3 => simp [setTs, setT] at e3
  | _ :: _ :: _ :: _ :: _, e3 => simp [setTs, setT] at e3⟩
end
end Rc

-- Rc9
set_option Elab.async false
set_option linter.all false
set_option maxRecDepth 100000
set_option maxHeartbeats 4000000
namespace Rc
open PySem PySem.Spec PyProof.Rows L2

/-! ### the program at hand -/
structure Th where
  P : Program
  w : World
  K : PySem.W.Frag
  mg : Str → Option Value
  base : Heap
structure Fits (T : Th) (k : Nat) (X : Cx) : Prop where
  prog : X.prog = T.P
  w : X.w = T.w
  K : X.K = T.K
  mg : X.mg = T.mg
  base : X.base = T.base
  calm : X.calm = true
  rm : Rm k X.A
  nx : X.xe = fun _ _ => False
theorem Fits.mono {T : Th} {j k : Nat} {X : Cx} (h : Fits T k X) (l : j ≤ k) : Fits T j X := ⟨h.prog, h.w, h.K, h.mg, h.base, h.calm, h.rm.mono l, h.nx⟩
/-- the def x of the program: its parameters, what it is worth -/
def FnH (T : Th) (k : Nat) (x : Str) (n : Nat) (run : Run) : Prop := ∃ f fd ps, ps.length = n ∧ T.mg x = some (.ref f) ∧ PySem.W.keepIn T.K (.ref f) = true ∧ Binds T.K fd ps [] ∧ FG T.P T.w T.K T.mg T.base k f fd ps (spD T.K n run)
theorem FnH.mono {T : Th} {j k : Nat} {x : Str} {n : Nat} {run : Run} (h : FnH T j x n run) (l : j ≤ k) : FnH T k x n run := let ⟨f, fd, ps, e, a, b, c, F⟩ := h; ⟨f, fd, ps, e, a, b, c, F.mono l⟩
def evCall (n : Nat) (run : Run) (g : EvA) : EvF := fun env p => (g env p).bind fun r => if r.1.length = n then run r.1 r.2 else none
theorem evCall_some {n : Nat} {run : Run} {g : EvA} {env : Env} {p p' : Pot} {d : D} (h : evCall n run g env p = some (d, p')) : ∃ ds p1, g env p = some (ds, p1) ∧ ds.length = n ∧ run ds p1 = some (d, p') := by
  unfold evCall at h
  obtain ⟨⟨ds, p1⟩, h1, h2⟩ := Option.bind_eq_some_iff.mp h
  split at h2
  · exact ⟨ds, p1, h1, by assumption, h2⟩
  · cases h2
section
variable {T : Th} {k : Nat} {X : Cx} {x : Str} {n : Nat} {run : Run} {e : Expr} {es : List Expr} {g : EvA} {p pos : Pos}
theorem pd_call (F : Fits T k X) (h : FnH T k x n run) (hg : Gl X x) (ha : PL X (e :: es) g) (hdb : (x == ("__debug__" : Str)) = false)
    (he : starEach (e :: es) X.env = (false, eval e X.env) :: starEach es X.env) (hpl : (backTo pos (starEach es X.env)).any (·.1) = false) : PD X (.Call (.Name x p) (e :: es) [] pos) (evCall n run g) := by
  obtain ⟨f, fd, ps, en, hm, hk, hb, G⟩ := h
  rw [← F.K] at hk hb
  rw [← F.mg] at hm
  rw [← F.prog, ← F.w, ← F.K, ← F.mg, ← F.base] at G
  refine ⟨fun pins s σ H Q I ⟨pa, M, env, p, d, p', hE, hP, hf, k⟩ => ?_⟩
  obtain ⟨ds, p1, h1, h2, h3⟩ := evCall_some hf
  refine wpAny_Call_Name_kw (ld_glob I hg hm ?_ hdb)
  refine PySem.W.callWith_K (h₀ := X.base) I.ok.mod.kin hk (thn (ha.run pos pins s σ H (fun vs H1 => spD X.K n run vs H1 Q E0) I ⟨pa, M, env, p, ds, p1, hE, hP, h1, fun vs H1 x1 k1 r1 => ?_⟩) fun us s1 ⟨vs, H1, I1, r, q⟩ => ⟨I1.kIn, ?_⟩) he hpl
  · exact ⟨pa, M, p1, ds, d, p', x1.dom k1 hE.dom, k1, r1, h2, h3, fun v H' x2 k2 r2 => k v H' (x1.trans x2) k2 r2⟩
  · exact fg_call (ds := []) (dvs := []) G F.rm hb .nil I1 r (by rw [List.append_nil]; exact q)
theorem pd_call0 (F : Fits T k X) (h : FnH T k x 0 run) (hg : Gl X x) (hdb : (x == ("__debug__" : Str)) = false) : PD X (.Call (.Name x p) [] [] pos) (evCall 0 run evNil) := by
  obtain ⟨f, fd, ps, en, hm, hk, hb, G⟩ := h
  rw [← F.K] at hk hb
  rw [← F.mg] at hm
  rw [← F.prog, ← F.w, ← F.K, ← F.mg, ← F.base] at G
  refine ⟨fun pins s σ H Q I ⟨pa, M, env, p, d, p', hE, hP, hf, k⟩ => ?_⟩
  obtain ⟨ds, p1, h1, h2, h3⟩ := evCall_some hf
  cases h1
  refine wpAny_Call_Name_kw (ld_glob I hg hm ?_ hdb)
  refine PySem.W.callWith_K0 I.kIn hk (fg_call (us := []) (vs := []) (ds := []) (dvs := []) G F.rm hb .nil I .nil ?_)
  exact ⟨pa, M, p, [], d, p', hE.dom, hP, rfl, rfl, h3, fun v H' x2 k2 r2 => k v H' x2 k2 r2⟩
end

/-! ### instances made -/
abbrev RunI := List D → Pot → Option (List (Str × D) × Pot)
/-- all but the pot and x stays -/
def ExtX (pa : Option Addr) (x : Addr) (H H' : Hp) : Prop := ∀ a o, pa ≠ some a → a ≠ x → H a = some o → H' a = some o
def spI (K : PySem.W.Frag) (c : Str) (n : Nat) (run : RunI) : Sp := fun vs H Q _ => ∃ x dx vr pa M p ds fs p', vs = .ref x :: vr ∧ H x = some (.ins (He.ga K c) dx []) ∧ M x ∧ pa ≠ some x ∧ (∀ a, M a → (H a).isSome = true) ∧ PotOk pa M H p ∧
  Reps K pa M H ds vr ∧ ds.length = n ∧ run ds p = some (fs, p') ∧ ∀ H' dx' ws, ExtX pa x H H' → PotOk pa M H' p' → H' x = some (.ins (He.ga K c) dx' ws) → RepF K pa M H' fs ws → Q .non H'
/-- a datum that a default may be -/
def conV : D → Option V
  | .non => some .non
  | .bl b => some (.bl b)
  | .int i => some (.int i)
  | .str x => if PyData.strOk x then some (.str x) else none
  | _ => none
theorem conV_rep {K : PySem.W.Frag} {pa : Option Addr} {M : Ms} {H : Hp} {d : D} {v : V} (h : conV d = some v) : Rep K pa M H d v := by
  cases d with
  | non => cases h; rfl
  | bl b => cases h; rfl
  | int i => cases h; rfl
  | str x =>
    simp only [conV] at h
    split at h
    · cases h; exact ⟨rfl, by assumption⟩
    · cases h
  | _ => cases h
def conVs : List D → Option (List V)
  | [] => some []
  | d :: ds => (conV d).bind fun v => (conVs ds).map (v :: ·)
theorem conVs_rep {K : PySem.W.Frag} {pa : Option Addr} {M : Ms} {H : Hp} : ∀ {ds : List D} {vs : List V}, conVs ds = some vs → Reps K pa M H ds vs
  | [], _, h => by cases h; rfl
  | d :: ds, _, h => by
    simp only [conVs] at h
    obtain ⟨v, h1, h2⟩ := Option.bind_eq_some_iff.mp h
    obtain ⟨vs, h3, h4⟩ := Option.map_eq_some_iff.mp h2
    subst h4
    exact .cons (conV_rep h1) (conVs_rep h3)
/-- the class c of the program: dfl the defaults that fill up behind m given arguments -/
def MkH (T : Th) (k : Nat) (c : Str) (n : Nat) (dfl : List D) (run : RunI) : Prop := ∃ f fd ps ds dvs, ps.length = n + 1 ∧ T.mg c = some (.ref (He.ga T.K c)) ∧ Mk T.K (He.ga T.K c) f ∧ Binds T.K fd ps ds ∧ conVs dfl = some dvs ∧ Vals dvs ds ∧
  FG T.P T.w T.K T.mg T.base k f fd ps (spI T.K c n run)
def evMk (c : Str) (n : Nat) (dfl : List D) (run : RunI) (g : EvA) : EvF := fun env p => (g env p).bind fun r => if r.1.length + dfl.length = n then (run (r.1 ++ dfl) r.2).map fun q => (.obj c q.1, q.2) else none
section
variable {T : Th} {k : Nat} {X : Cx} {c x : Str} {n : Nat} {dfl : List D} {run : RunI} {e : Expr} {es : List Expr} {g : EvA} {p pos : Pos}
theorem make_of {K : PySem.W.Frag} {σ : L2.St} {H : Hp} {Q : VK} {dvs : List V} (hd : ∀ pa M H, Reps K pa M H dfl dvs) (h : tE K (evMk c n dfl run g) σ H Q) :
    tL K g σ H fun vs H1 => ∀ x dx, H1 x = none → H1 dx = none → dx ≠ x → spI K c n run (.ref x :: (vs ++ dvs)) (upd (upd H1 dx (.own x)) x (.ins (He.ga K c) dx [])) (fun v H2 => v = .non ∧ Q (.ref x) H2) E0 := by
  obtain ⟨pa, M, env, p, d, p', hE, hP, hf, k⟩ := h
  unfold evMk at hf
  obtain ⟨⟨ds, p1⟩, h1, h2⟩ := Option.bind_eq_some_iff.mp hf
  dsimp only at h2
  split at h2
  rotate_left
  · cases h2
  rename_i hl
  obtain ⟨⟨fs, p2⟩, h3, h4⟩ := Option.map_eq_some_iff.mp h2
  cases h4
  refine ⟨pa, M, env, p, ds, p1, hE, hP, h1, fun vs H1 x1 k1 r1 x dx hx hdx ne => ?_⟩
  have dom := x1.dom k1 hE.dom
  have nx : ¬ M x := new_not (pa := pa) dom hx
  have s1 : Same H1 (upd (upd H1 dx (.own x)) x (.ins (He.ga K c) dx [])) := Same.trans (Same.upd hdx) (Same.upd (by rw [upd_ne (Ne.symm ne)]; exact hx))
  have px : pa ≠ some x := fun z => nx (k1 x z).1
  refine ⟨x, dx, vs ++ dvs, pa, Ins M x, p1, ds ++ dfl, fs, _, rfl, upd_same, .inr rfl, px, fun a m => ?_, (k1.same s1).ins, ?_, by simpa using hl, h3, fun H' dx' ws x2 k2 hw rf => ⟨rfl, ?_⟩⟩
  · rcases m with m | m
    · obtain ⟨o, q⟩ := Option.isSome_iff_exists.mp (dom a m)
      rw [s1 a o q]; rfl
    · rw [m, upd_same]; rfl
  · exact (r1.ins hx s1).append (hd _ _ _)
  · have x3 : Ext pa H1 H' := fun a o na ha => x2 a o na (fun z => by rw [z, hx] at ha; cases ha) (s1 a o ha)
    have k3 : PotOk pa M H' p2 := fun a z => ⟨(k1 a z).1, (k2 a z).2⟩
    exact k _ H' (x1.trans x3) k3 ⟨x, dx', ws, rfl, ⟨nx, hw⟩, RepF.up (Up.less fun b m => .inl m) rf⟩
theorem pd_make (F : Fits T (k + 1) X) (h : MkH T k c n dfl run) (hg : Gl X c) (ha : PL X (e :: es) g) (hdb : (c == ("__debug__" : Str)) = false)
    (he : starEach (e :: es) X.env = (false, eval e X.env) :: starEach es X.env) (hpl : (backTo pos (starEach es X.env)).any (·.1) = false) : PD X (.Call (.Name c p) (e :: es) [] pos) (evMk c n dfl run g) := by
  obtain ⟨f, fd, ps, ds, dvs, en, hm, mk, hb, hd, hv, G⟩ := h
  rw [← F.K] at mk hb hm
  rw [← F.mg] at hm
  rw [← F.prog, ← F.w, ← F.K, ← F.mg, ← F.base] at G
  refine ⟨fun pins s σ H Q I q => ?_⟩
  have q2 := make_of (fun _ _ _ => conVs_rep hd) q
  refine wpAny_Call_Name_kw (ld_glob I hg hm ?_ hdb)
  refine PySem.W.callWith_K (h₀ := X.base) I.ok.mod.kin mk.kp (thn (ha.run pos pins s σ H _ I q2) fun us s1 ⟨vs, H1, I1, r, q3⟩ => ⟨I1.kIn, ?_⟩) he hpl
  exact fg_make mk G F.rm hb hv I1 r q3
/-- a local that holds the class -/
theorem pd_makeL {i : Nat} (F : Fits T (k + 1) X) (h : MkH T k c n dfl run) (hN : X.N[i]? = some x) (hv0 : Vis X.env.scope x) (ha : PL X (e :: es) g) (hdb : (x == ("__debug__" : Str)) = false) (hcd : (x == ("__classdict__" : Str)) = false)
    (he : starEach (e :: es) X.env = (false, eval e X.env) :: starEach es X.env) (hpl : (backTo pos (starEach es X.env)).any (·.1) = false) :
    PD X (.Call (.Name x p) (e :: es) [] pos) (fun env p => match env[i]? with
      | some (some (.dat (.cls c'))) => if c' = c then evMk c n dfl run g env p else none
      | _ => none) := by
  obtain ⟨f, fd, ps, ds, dvs, en, hm, mk, hb, hd, hv, G⟩ := h
  rw [← F.K] at mk hb hm
  rw [← F.prog, ← F.w, ← F.K, ← F.mg, ← F.base] at G
  refine ⟨fun pins s σ H Q I ⟨pa, M, env, pp, d, p', hE, hP, hf, k⟩ => ?_⟩
  dsimp only at hf
  split at hf
  rotate_left
  · cases hf
  rename_i c' hi
  split at hf
  rotate_left
  · cases hf
  rename_i ec
  subst ec
  obtain ⟨v, hv1, hv2⟩ := hE.slot i _ hi
  cases hv2
  have q2 := make_of (K := X.K) (σ := σ) (H := H) (Q := Q) (fun _ _ _ => conVs_rep hd) ⟨pa, M, env, pp, d, p', hE, hP, hf, k⟩
  refine wpAny_Call_Name_kw ?_
  refine thn ((pe_var hN hv0 hdb hcd).run pins s σ H (fun v H' => v = .ref (He.ga X.K c') ∧ H' = H) I ⟨_, hv1, rfl, rfl⟩) ?_
  rintro u s0 ⟨v, H', I0, ru, rfl, rfl⟩
  cases ru
  refine PySem.W.callWith_K (h₀ := X.base) I.ok.mod.kin mk.kp (thn (ha.run pos pins s0 σ H' _ I0 q2) fun us s1 ⟨vs, H1, I1, r, q3⟩ => ⟨I1.kIn, ?_⟩) he hpl
  exact fg_make mk G F.rm hb hv I1 r q3
end

/-! ### attributes -/
/-- o.f: a property of the classes that pr tells, otherwise a field -/
def evAttr (f : Str) (pr : Str → Option Run) (g : EvF) : EvF := fun env p => (g env p).bind fun r => match r.1 with
  | .obj c fs => match pr c with
    | some run => run [.obj c fs] r.2
    | none => (fs.lookup f).map fun d => (d, r.2)
  | _ => none
/-- what is known of the attribute f of the classes at hand -/
def AtH (T : Th) (k : Nat) (f : Str) (ok : Str → Bool) (pr : Str → Option Run) : Prop := ∀ c, ok c = true → Cls T.K (He.ga T.K c) ∧ match pr c with
  | some run => ∃ p g fd ps, PropOf T.K (He.ga T.K c) f p g ∧ Binds T.K fd ps [] ∧ FG T.P T.w T.K T.mg T.base k g fd ps (spD T.K 1 run)
  | none => NoAttr T.K (He.ga T.K c) f
def isObjOf (ok : Str → Bool) : D → Bool
  | .obj c _ => ok c
  | _ => false
def evAttrK (f : Str) (ok : Str → Bool) (pr : Str → Option Run) (g : EvF) : EvF := fun env p => (g env p).bind fun r => if isObjOf ok r.1 then evAttr f pr (evC r.1) env r.2 else none
section
variable {T : Th} {k : Nat} {X : Cx} {f : Str} {ok : Str → Bool} {pr : Str → Option Run} {e : Expr} {g : EvF} {pos : Pos}
theorem pd_attr (F : Fits T (k + 1) X) (h : AtH T k f ok pr) (he : PD X e g) (hb : attributeBase e f X.env (eval e X.env) = eval e X.env) : PD X (.Attribute e f pos) (evAttrK f ok pr g) := by
  refine ⟨fun pins s σ H Q I ⟨pa, M, env, p, d, p', hE, hP, hf, kk⟩ => ?_⟩
  unfold evAttrK at hf
  obtain ⟨⟨x, p1⟩, h1, h2⟩ := Option.bind_eq_some_iff.mp hf
  dsimp only at h2
  split at h2
  rotate_left
  · cases h2
  rename_i ho
  cases x with
  | obj c fs =>
    obtain ⟨cl, hc⟩ := h c ho
    rw [← F.K] at cl hc
    refine attr_of hb (thn (he.run pins s σ H (fun v H1 => ∃ a dx ws, v = .ref a ∧ H1 a = some (.ins (He.ga X.K c) dx ws) ∧ ¬ M a ∧ RepF X.K pa M H1 fs ws ∧ Ext pa H H1 ∧ PotOk pa M H1 p1) I ⟨pa, M, env, p, _, p1, hE, hP, h1, fun v H1 x1 k1 r1 => ?_⟩) ?_)
    · obtain ⟨a, dx, ws, rfl, t, r⟩ := r1
      exact ⟨a, dx, ws, rfl, t.2, t.1, r, x1, k1⟩
    · rintro u s1 ⟨v, H1, I1, ru, a, dx, ws, rfl, ha, hm, r, x1, k1⟩
      cases ru
      simp only [evAttr, evC, Option.bind_some] at h2
      cases hq : pr c with
      | some run =>
        rw [hq] at h2 hc
        obtain ⟨p0, g0, fd, ps, hp, hbd, G⟩ := hc
        rw [← F.prog, ← F.w, ← F.mg, ← F.base] at G
        refine fg_prop I1 ha cl hp G F.rm hbd ⟨pa, M, p1, [.obj c fs], d, p', x1.dom k1 hE.dom, k1, .cons ⟨a, dx, ws, rfl, ⟨hm, ha⟩, r⟩ .nil, rfl, h2, fun v H' x2 k2 r2 => kk v H' (x1.trans x2) k2 r2⟩
      | none =>
        rw [hq] at h2 hc
        obtain ⟨d', h3, h4⟩ := Option.map_eq_some_iff.mp h2
        cases h4
        obtain ⟨v', h5, h6⟩ := r.lookup h3
        exact getattr_ok I1 ha cl hc h5 fun u' s2 I2 ru' => ⟨v', H1, I2, ru', kk v' H1 x1 k1 h6⟩
  | _ => cases ho
end

/-! ### self in __init__ -/
def putD (f : Str) (d : D) : List (Str × D) → List (Str × D)
  | [] => [(f, d)]
  | q :: r => if q.1 = f then (q.1, d) :: r else q :: putD f d r
def sFldS (c0 : Str) (i : Nat) (f : Str) (g : EvF) : StF := fun env p => (g env p).bind fun r => match env[i]? with
  | some (some (.slf c fs)) => if c = c0 ∧ fs.length < 1000 then some (.nx (env.set i (some (.slf c (putD f r.1 fs)))) r.2) else none
  | _ => none
def evSelf (c0 : Str) (i : Nat) (f : Str) : EvF := fun env p => match env[i]? with
  | some (some (.slf c fs)) => if c = c0 then (fs.lookup f).map fun d => (d, p) else none
  | _ => none
section
variable {K : PySem.W.Frag} {pa : Option Addr} {M0 M : Ms} {H0 H : Hp} {σ : L2.St} {env : Env} {p : Pot} {i : Nat} {a dx : Addr} {c : Str} {fs gs : List (Str × D)} {ws ys : List (Str × V)}
theorem RepF.len : ∀ {fs : List (Str × D)} {ws : List (Str × V)}, RepF K pa M H fs ws → fs.length = ws.length
  | [], _, h => by cases h; rfl
  | _ :: _, _, ⟨v, r, e, _, h2⟩ => by subst e; simp [RepF.len h2]
theorem RepF.put {f : Str} {d : D} {v : V} (hr : Rep K pa M H d v) : ∀ {fs : List (Str × D)} {ws : List (Str × V)}, RepF K pa M H fs ws → RepF K pa M H (putD f d fs) (putF f v ws)
  | [], _, h => by cases h; exact ⟨v, [], rfl, hr, rfl⟩
  | (n, d') :: fs, _, ⟨u, r, e, h1, h2⟩ => by
    subst e
    show RepF K pa M H (if n = f then (n, d) :: fs else (n, d') :: putD f d fs) (if n = f then (n, v) :: r else (n, u) :: putF f v r)
    by_cases h : n = f
    · rw [if_pos h, if_pos h]; exact ⟨v, r, rfl, hr, h2⟩
    · rw [if_neg h, if_neg h]; exact ⟨u, _, rfl, h1, RepF.put hr h2⟩
theorem StOk.storeS (s : StOk K pa M0 H0 M H σ env p) (h : env[i]? = some (some (.slf c fs))) (hv : σ[i]? = some (some (.ref a))) (m : M a) (na : pa ≠ some a) (r : RepF K pa M H gs ys) :
    StOk K pa M0 H0 M (upd H a (.ins (He.ga K c) dx ys)) σ (env.set i (some (.slf c gs))) p ∧ Up M H M (upd H a (.ins (He.ga K c) dx ys)) := by
  have u : Up M H M (upd H a (.ins (He.ga K c) dx ys)) := fun b o n q => ⟨n, by rw [upd_ne (fun (z : b = a) => n (by rw [z]; exact m))]; exact q⟩
  have hi : i < env.length := (List.getElem?_eq_some_iff.mp h).1
  refine ⟨⟨⟨fun j e q => ?_, fun j l e e' v q q' o o' h1 h2 => ?_, fun b z => ?_, by simp [s.en.len]⟩, fun b z => ?_, s.pot0, s.sub, fun b o n q => ?_, fun j e b q o1 h1 => ?_⟩, u⟩
  · rcases get_set q with ⟨ej, e1⟩ | ⟨n, q⟩
    · cases e1
      rw [ej]
      exact ⟨_, hv, a, dx, ys, rfl, m, na, upd_same, RepF.up u r⟩
    · obtain ⟨v, h1, h2⟩ := s.en.slot j e q
      have ne : isOwn e = true → v ≠ .ref a := fun o z => n (s.en.inj j i e _ v q h o rfl h1 (z ▸ hv))
      refine ⟨v, h1, ?_⟩
      cases e with
      | dat d => exact Rep.up u h2
      | own ds' =>
        obtain ⟨b, zs, e1, m', n', t, r'⟩ := h2
        exact ⟨b, zs, e1, m', n', by rw [upd_ne (fun (z : b = a) => ne rfl (by rw [e1, z]))]; exact t, Reps.up u r'⟩
      | slf c fs =>
        obtain ⟨b, dx, ws, e1, m', n', t, r'⟩ := h2
        exact ⟨b, dx, ws, e1, m', n', by rw [upd_ne (fun (z : b = a) => ne rfl (by rw [e1, z]))]; exact t, RepF.up u r'⟩
  · have back : ∀ {j : Nat} {e : EV}, (env.set i (some (.slf c gs)))[j]? = some (some e) → isOwn e = true → ∃ e2, env[j]? = some (some e2) ∧ isOwn e2 = true := fun {j e} q o => by
      rcases get_set q with ⟨ej, _⟩ | ⟨n, q⟩
      · exact ⟨_, ej ▸ h, rfl⟩
      · exact ⟨e, q, o⟩
    obtain ⟨e2, q2, o2⟩ := back q o
    obtain ⟨e3, q3, o3⟩ := back q' o'
    exact s.en.inj j l e2 e3 v q2 q3 o2 o3 h1 h2
  · by_cases e : b = a
    · rw [e, upd_same]; rfl
    · rw [upd_ne e]; exact s.en.dom b z
  · rw [upd_ne (fun (y : b = a) => na (by rw [← y]; exact z))]; exact s.pot b z
  · rw [upd_ne (fun (z : b = a) => by
      have := (s.fresh i _ a h rfl hv).1
      rw [z, this] at q; cases q)]
    exact s.old b o n q
  · rcases get_set q with ⟨ej, e1⟩ | ⟨n, q⟩
    · rw [ej, hv] at h1
      cases h1
      cases e1
      exact (s.fresh i _ a h rfl hv : H0 a = none ∧ (M0 a ↔ isSlf (.slf c fs) = true))
    · exact s.fresh j e b q o1 h1
end
section
variable {X : Cx} {pa : Option Addr} {M0 : Ms} {H0 : Hp} {e : Expr} {f : Str} {g : EvF} {i : Nat} {x c0 : Str} {px apos pos : Pos}
theorem px_fld (cl : Cls X.K (He.ga X.K c0)) (na : NoAttr X.K (He.ga X.K c0) f) (hN : X.N[i]? = some x) (hv : Vis X.env.scope x) (hd : (x == ("__debug__" : Str)) = false) (hcd : (x == ("__classdict__" : Str)) = false) (he : PD X e g)
    (hs : swapsWith e (some (.Attribute (.Name x px) f apos)) pos.line X.env = pure false) : PX X pa M0 H0 (.Assign [.Attribute (.Name x px) f apos] e pos) (sFldS c0 i f g) :=
  PS.weak (ps_fld (pe_var hN hv hd hcd) he hs) fun E σ H ⟨M, env, p, fl, s, q, k⟩ => by
    unfold sFldS at q
    obtain ⟨⟨d, p1⟩, q1, q2⟩ := Option.bind_eq_some_iff.mp q
    dsimp only at q2
    split at q2
    rotate_left
    · cases q2
    rename_i c fs hi
    split at q2
    rotate_left
    · cases q2
    rename_i hl
    cases q2
    obtain ⟨rfl, hl⟩ := hl
    refine ⟨pa, M, env, p, d, p1, s.en, s.pot, q1, fun v H1 x1 k1 r1 => ?_⟩
    have s1 := s.ext x1 k1
    obtain ⟨v0, h1, a, dx, ws, rfl, m, n1, t, r⟩ := s1.en.slot i _ hi
    refine ⟨.ref a, h1, a, _, dx, ws, rfl, t, cl, na, by rw [← r.len]; exact hl, ?_⟩
    obtain ⟨s2, u2⟩ := s1.storeS (dx := dx) hi h1 m n1 (RepF.put r1 r)
    exact k σ _ M s2 ((s.up x1).trans u2)
theorem pd_self (cl : Cls X.K (He.ga X.K c0)) (na : NoAttr X.K (He.ga X.K c0) f) (hN : X.N[i]? = some x) (hv : Vis X.env.scope x) (hd : (x == ("__debug__" : Str)) = false) (hcd : (x == ("__classdict__" : Str)) = false)
    (hb : attributeBase (.Name x px) f X.env (eval (.Name x px) X.env) = eval (.Name x px) X.env) : PD X (.Attribute (.Name x px) f pos) (evSelf c0 i f) :=
  PE.weak (pe_fld (pe_var hN hv hd hcd) hb) fun σ H Q ⟨pa, M, env, p, d, p', hE, hP, hf, k⟩ => by
    unfold evSelf at hf
    split at hf
    rotate_left
    · cases hf
    rename_i c fs hi
    split at hf
    rotate_left
    · cases hf
    rename_i ec
    subst ec
    obtain ⟨d', h3, h4⟩ := Option.map_eq_some_iff.mp hf
    cases h4
    obtain ⟨v0, h1, a, dx, ws, rfl, m, n1, t, r⟩ := hE.slot i _ hi
    obtain ⟨v, h5, h6⟩ := r.lookup h3
    exact ⟨.ref a, h1, a, _, dx, ws, v, rfl, t, cl, na, h5, k v H Ext.refl hP h6⟩
end

/-! ### f-strings -/
def fmtD : D → Option Str
  | .str y => if y.length ≤ sizeLine then some y else none
  | .int i => if i.natAbs.log2 < 1920 then some (toString i) else none
  | _ => none
/-- the parts of an f-string: a written text, or a value -/
def evParts : List (Sum Str EvF) → Str → Env → Pot → Option (Str × Pot)
  | [], acc, _, p => some (acc, p)
  | .inl z :: r, acc, env, p => if (acc ++ z).length ≤ sizeLine then evParts r (acc ++ z) env p else none
  | .inr f :: r, acc, env, p => (f env p).bind fun q => (fmtD q.1).bind fun y => if (acc ++ y).length ≤ sizeLine then evParts r (acc ++ y) env q.2 else none
def evFs (ps : List (Sum Str EvF)) : EvF := fun env p => (evParts ps Str.empty env p).map fun q => (.str q.1, q.2)
inductive PFs (X : Cx) : List Expr → List (Sum Str EvF) → Prop where
  | nil : PFs X [] []
  | txt {z : Str} {j : Nat} {pos : Pos} {es : List Expr} {ps : List (Sum Str EvF)} (o : PyData.strOk z = true) (r : PFs X es ps) : PFs X (.Constant (.str z) j pos :: es) (.inl z :: ps)
  | val {e : Expr} {f : EvF} {pos : Pos} {es : List Expr} {ps : List (Sum Str EvF)} (h : PD X e f) (r : PFs X es ps) : PFs X (.FormattedValue e (-1) none pos :: es) (.inr f :: ps)
theorem strOk_int (i : Int) : PyData.strOk (toString i : Str) = true := by
  unfold PyData.strOk
  rw [Array.all_eq_true_iff_forall_mem]
  intro c hc
  have h2 : c ∈ ((toString i : String).toList.map Char.toNat) := by
    rw [← signs_ofString]
    exact Array.mem_toList_iff.mpr hc
  obtain ⟨ch, _, rfl⟩ := List.mem_map.mp h2
  have := ch.valid
  simp only [decide_eq_true_eq]
  rcases this with h | h
  · exact Nat.lt_trans h (by decide)
  · exact h.2
section
variable {X : Cx} {pos : Pos}
theorem pfs_run {es : List Expr} {ps : List (Sum Str EvF)} (h : PFs X es ps) : ∃ ts, PJ X es ts ∧ ∀ (acc : Str) (σ : L2.St) (H : Hp) (Q : Str → Hp → Prop) pa M env p out p', PyData.strOk acc = true → EnvOk X.K pa M H σ env → PotOk pa M H p → evParts ps acc env p = some (out, p') →
    (∀ H', Ext pa H H' → PotOk pa M H' p' → PyData.strOk out = true → Q out H') → tJs ts acc σ H Q := by
  induction h with
  | nil => exact ⟨[], .nil, fun acc σ H Q pa M env p out p' o hE hP hf k => by cases hf; exact k H Ext.refl hP o⟩
  | @txt z j pos es ps o r ih =>
    obtain ⟨ts, hj, ht⟩ := ih
    refine ⟨_, .cons pe_str hj, fun acc σ H Q pa M env p out p' oa hE hP hf k => ?_⟩
    simp only [evParts] at hf
    split at hf
    · exact ⟨z, rfl, by assumption, ht _ σ H Q pa M env p out p' (strOk_append oa o) hE hP hf k⟩
    · cases hf
  | @val e f pos es ps h r ih =>
    obtain ⟨ts, hj, ht⟩ := ih
    refine ⟨_, .cons (pe_fmt h) hj, fun acc σ H Q pa M env p out p' oa hE hP hf k => ?_⟩
    simp only [evParts] at hf
    obtain ⟨⟨d, p1⟩, h1, h2⟩ := Option.bind_eq_some_iff.mp hf
    obtain ⟨y, h3, h4⟩ := Option.bind_eq_some_iff.mp h2
    split at h4
    rotate_left
    · cases h4
    rename_i hl
    refine ⟨pa, M, env, p, d, p1, hE, hP, h1, fun v H1 x1 k1 r1 => ?_⟩
    have go : PyData.strOk y = true → tJs ts (acc ++ y) σ H1 Q := fun oy => ht _ σ H1 Q pa M env p1 out p' (strOk_append oa oy) (hE.ext x1 hP k1) k1 h4 fun H' x2 k2 o2 => k H' (x1.trans x2) k2 o2
    cases d with
    | str z =>
      obtain ⟨rfl, oz⟩ := r1
      simp only [fmtD] at h3
      split at h3
      · cases h3; exact .inl ⟨_, rfl, by assumption, _, rfl, hl, go oz⟩
      · cases h3
    | int i =>
      cases r1
      simp only [fmtD] at h3
      split at h3
      · cases h3; exact .inr ⟨_, rfl, by assumption, _, rfl, hl, go (strOk_int _)⟩
      · cases h3
    | _ => simp [fmtD] at h3
theorem pd_fs {v1 v2 : Expr} {rest : List Expr} {ps : List (Sum Str EvF)} (h : PFs X (v1 :: v2 :: rest) ps) : PD X (.JoinedStr (v1 :: v2 :: rest) pos) (evFs ps) := by
  obtain ⟨ts, hj, ht⟩ := pfs_run h
  refine PE.weak (pe_joined hj) fun σ H Q ⟨pa, M, env, p, d, p', hE, hP, hf, k⟩ => ?_
  unfold evFs at hf
  obtain ⟨⟨out, p1⟩, h1, h2⟩ := Option.map_eq_some_iff.mp hf
  cases h2
  exact ht Str.empty σ H _ pa M env p out _ (by simp [PyData.strOk, Str.empty]) hE hP h1 fun H' x1 k1 o => k _ H' x1 k1 ⟨rfl, o⟩
end
end Rc

-- Rc10
set_option Elab.async false
set_option linter.all false
set_option maxRecDepth 100000
set_option maxHeartbeats 4000000
namespace Rc
open PySem PySem.Spec PyProof.Rows L2

/-! ### isinstance -/
def tyName : D → Option String
  | .non => some "NoneType"
  | .bl _ => some "bool"
  | .int _ => some "int"
  | .str _ => some "str"
  | .tup _ => some "tuple"
  | .lst _ => some "list"
  | .dic _ => some "dict"
  | _ => none
def builtTys : List String := ["int", "str", "bool", "tuple", "list", "dict"]
def allTys : List String := ["NoneType", "bool", "int", "str", "tuple", "list", "dict"]
def subTy (a b : String) : Bool := a == b || (a == "bool" && b == "int")
/-- isinstance(x, c), known: the program's classes -/
def isiD (known : List Str) : List D → Option D
  | [d, .ty n] => if builtTys.contains n then (match d with
      | .obj c _ => if known.contains c then some (.bl false) else none
      | d => (tyName d).map fun t => .bl (subTy t n)) else none
  | [d, .cls c] => if known.contains c then (match d with
      | .obj c' _ => if known.contains c' then some (.bl (c' == c)) else none
      | d => (tyName d).map fun _ => .bl false) else none
  | _ => none
/-- what must be known of the classes -/
structure IsiH (K : PySem.W.Frag) (known : List Str) : Prop where
  cl : ∀ c ∈ known, Cls K (He.ga K c)
  ha : ∀ c ∈ known, PySem.W.findIn K (.ref (He.ga K c)) "__class__" = some (some (.builtin "object.__class__"))
  hn : PySem.W.specialIn K (.builtin "object.__class__") "__get__" = some (some (.builtin "getset_descriptor.__get__"))
  htk : PySem.W.takesIn K (.builtin "object.__class__") = some true
  hm : ∀ c ∈ known, PySem.W.mroIn K (He.ga K c) (.type "object") = some true
  ot : ∀ c ∈ known, ∀ n ∈ builtTys, PySem.W.kitOne K (.ref (He.ga K c)) (.type n) = some false
  to : ∀ c ∈ known, ∀ n ∈ allTys, PySem.W.kitOne K (.type n) (.ref (He.ga K c)) = some false
  oo : ∀ c ∈ known, ∀ c' ∈ known, PySem.W.kitOne K (.ref (He.ga K c')) (.ref (He.ga K c)) = some (c' == c)
theorem kit_all : ∀ a ∈ allTys, ∀ b ∈ builtTys, kitB a b = some (subTy a b) := by decide +kernel
theorem tyName_mem {d : D} {t : String} (h : tyName d = some t) : t ∈ allTys := by
  cases d <;> simp [tyName] at h <;> (subst h; decide)
theorem tyX_of {K : PySem.W.Frag} {pa : Option Addr} {M : Ms} {H : Hp} {d : D} {v : V} {t : String} (r : RepV K pa M H d v) (h : tyName d = some t) : TyX K H v (.type t) := by
  cases d with
  | non => cases r; cases h; exact .base .non
  | bl b => cases r; cases h; exact .base (.bl _)
  | int i => cases r; cases h; exact .base (.int _)
  | str z => obtain ⟨rfl, _⟩ := r; cases h; exact .base (.str _)
  | tup ds =>
    obtain ⟨a, xs, rfl, t, r⟩ := r
    cases h
    rcases t with t | ⟨o, its, n, h1, h2, h3, h4, h5⟩
    · exact .base (.tup t.2)
    · exact .kTuple h1 h2
  | lst ds => obtain ⟨a, xs, rfl, n, t, r⟩ := r; cases h; exact .base (.lst t)
  | dic kvs => obtain ⟨a, ws, rfl, t, r⟩ := r; cases h; exact .base (.dK t.2)
  | _ => cases h
theorem cr_isi {X : Cx} {known : List Str} (h : IsiH X.K known) : CallR X (.builtin "isinstance") (rDA X.K (isiD known)) := by
  refine CallR.imp call_isi fun vs H Q ⟨pa, M, p, ds, d, dom, hP, r, e, k⟩ => ?_
  have obj : ∀ {c : Str} {fs : List (Str × D)} {v : V}, c ∈ known → RepV X.K pa M H (.obj c fs) v → TyX X.K H v (.ref (He.ga X.K c)) := fun {c fs v} hc r => by
    obtain ⟨a, dx, ws, rfl, t, _⟩ := r
    exact .base (.ins t.2 (h.cl c hc) (h.ha c hc) h.hn h.htk (h.hm c hc))
  unfold isiD at e
  split at e
  · rename_i dd n
    obtain ⟨v, u, rfl, r1, r2⟩ := r.two
    cases r2
    split at e
    rotate_left
    · cases e
    rename_i hb
    have hb' : n ∈ builtTys := by simpa using hb
    split at e
    · split at e
      · rename_i c fs hc
        cases e
        have hc' : c ∈ known := by simpa using hc
        exact ⟨v, _, _, _, _, rfl, .ty n, obj hc' r1, h.ot _ hc' _ hb', k _ H (Same.refl H) rfl⟩
      · cases e
    · obtain ⟨t, h1, h2⟩ := Option.map_eq_some_iff.mp e
      subst h2
      exact ⟨v, _, _, _, _, rfl, .ty n, tyX_of r1 h1, kit_ty (kit_all t (tyName_mem h1) n hb'), k _ H (Same.refl H) rfl⟩
  · rename_i dd c
    obtain ⟨v, u, rfl, r1, r2⟩ := r.two
    cases r2
    split at e
    rotate_left
    · cases e
    rename_i hc
    have hc' : c ∈ known := by simpa using hc
    split at e
    · split at e
      · rename_i c2 fs hc2
        cases e
        have hc2' : c2 ∈ known := by simpa using hc2
        exact ⟨v, _, _, _, _, rfl, .own _, obj hc2' r1, h.oo _ hc' _ hc2', k _ H (Same.refl H) rfl⟩
      · cases e
    · obtain ⟨t, h1, h2⟩ := Option.map_eq_some_iff.mp e
      subst h2
      exact ⟨v, _, _, _, _, rfl, .own _, tyX_of r1 h1, h.to _ hc' _ (tyName_mem h1), k _ H (Same.refl H) rfl⟩
  · cases e

/-! ### an item of a written dict -/
/-- the module's name x is a dict with these items -/
def TabH (T : Th) (x : Str) (kvs : List (Str × D)) : Prop := ∃ a es n, T.mg x = some (.ref a) ∧ KDict T.K T.w a es n ∧ ∀ z d, kvs.lookup z = some d → ∃ u v, PySem.W.nsIn T.K a z = some (some u) ∧ conV d = some v ∧ RelV v u
def evTab (kvs : List (Str × D)) (f : EvF) : EvF := op1 (fun d => match d with
  | .str z => kvs.lookup z
  | _ => none) f
theorem pd_tab {T : Th} {k : Nat} {X : Cx} {x : Str} {kvs : List (Str × D)} {b : Expr} {f : EvF} {px pos : Pos} (F : Fits T k X) (h : TabH T x kvs) (hg : Gl X x) (hdb : (x == ("__debug__" : Str)) = false) (hb : PD X b f) (hs : PlainIx b) :
    PD X (.Subscript (.Name x px) b pos) (evTab kvs f) := by
  obtain ⟨a, es, n, hm, KD, hk⟩ := h
  rw [← F.mg] at hm
  rw [← F.K, ← F.w] at KD
  rw [← F.K] at hk
  have ix : IxR X (fun x y H Q => ∃ (z : Str) (u0 : Value) (v0 : V), x = .ref a ∧ y = .str z ∧ PySem.W.nsIn X.K a z = some (some u0) ∧ RelV v0 u0 ∧ Q v0 H) := fun value slice pins s σ H x y v u Q I rx ry q hs => by
    have q' := q
    obtain ⟨z, u0, v0, rfl, rfl, _⟩ := q'
    cases rx
    exact tail_any (kd_type KD I) (show typeLookup (.type "dict") "__getitem__" = pure (some (.builtin "dict.__getitem__")) from PySem.F.slot_dict_getitem.lookup) (op_item_kd KD pins s σ H (.ref a) (.str z) _ u Q I rfl ry q) hs
  refine PE.weak (pe_ix ix (pe_glob (v := .ref a) hg hm rfl hdb) hb hs) fun σ H Q ⟨pa, M, env, p, d, p', hE, hP, hf, kk⟩ => ?_
  obtain ⟨y, h1, h3⟩ := op1_some hf
  refine ⟨pa, M, env, p, y, p', hE, hP, h1, fun v H1 x1 k1 r1 => ?_⟩
  cases y with
  | str z =>
    obtain ⟨rfl, _⟩ := r1
    obtain ⟨u, w, e1, e2, e3⟩ := hk z d h3
    exact ⟨z, u, w, rfl, rfl, e1, e3, kk w H1 x1 k1 (conV_rep e2)⟩
  | _ => cases h3
end Rc

-- Rd0
set_option Elab.async false
set_option linter.all false
set_option maxRecDepth 100000
set_option maxHeartbeats 4000000
namespace Rc
open PySem PySem.Spec PyProof.Rows L2

/-! ### the text's side conditions, by its form alone -/
def notStar : Expr → Bool
  | .Starred .. => false
  | _ => true
theorem star_of {e : Expr} (h : notStar e = true) (es : List Expr) (env : PySem.Env) : starEach (e :: es) env = (false, eval e env) :: starEach es env := by
  cases e <;> first | rfl | cases h
theorem plain_of : ∀ {es : List Expr}, es.all notStar = true → ∀ (pos : Pos) (env : PySem.Env), (backTo pos (starEach es env)).any (·.1) = false
  | [], _, _, _ => rfl
  | e :: es, h, pos, env => by
    have h' : notStar e = true ∧ es.all notStar = true := by simpa using h
    rw [star_of h'.1]
    show (false || (backTo pos (starEach es env)).any (·.1)) = false
    rw [plain_of h'.2]; rfl
def plainIx : Expr → Bool
  | .Slice .. => false
  | _ => true
theorem plainIx_of {e : Expr} (h : plainIx e = true) : PlainIx e := by
  intro o i
  cases e <;> first | rfl | cases h
def plainTest : Expr → Bool
  | .UnaryOp .Not .. => false
  | .BoolOp .. => false
  | .IfExp .. => false
  | .Compare .. => false
  | _ => true
theorem plainTest_of {e : Expr} (h : plainTest e = true) (env : PySem.Env) : ∀ whole, isTrue e env whole = (do let v ← whole; standAt e.pos; holding [v] (truthy v)) := by
  intro whole
  cases e <;> first | rfl | cases h | skip
  rename_i op x pos
  cases op <;> first | rfl | cases h
def notSet : Expr → Bool
  | .Set .. => false
  | _ => true
theorem marks_of {e : Expr} (h : notSet e = true) (op : CmpOp) : behindInMarks op e = false := by
  cases e <;> first | rfl | cases h
theorem folded_of {e : Expr} (h : notSet e = true) (env : PySem.Env) : ∀ x, foldedSetIterable e env x = pure x := by
  intro x
  cases e <;> first | rfl | cases h
def attrBase : Expr → Bool
  | .Call .. => false
  | _ => true
theorem attrBase_of {e : Expr} (h : attrBase e = true) (f : Str) (env : PySem.Env) : attributeBase e f env (eval e env) = eval e env := by
  cases e <;> first | rfl | cases h
def notComp : Expr → Bool
  | .ListComp .. => false
  | .SetComp .. => false
  | .DictComp .. => false
  | _ => true
theorem swaps_of {e : Expr} (h : notComp e = true) (t : Option Expr) (l : Nat) (env : PySem.Env) : swapsWith e t l env = pure false := by
  cases e <;> first | rfl | cases h
def notTup : Expr → Bool
  | .Tuple .. => false
  | .List .. => false
  | _ => true
theorem stores_of {t e : Expr} (h : (notTup t || notTup e) = true) (env : PySem.Env) : swappedStores [t] e env = pure none := by
  rcases Bool.or_eq_true_iff.mp h with h | h
  · cases t <;> first | rfl | cases h
  · cases t <;> first | rfl | (cases e <;> first | rfl | cases h)
theorem each_of {t : Expr} (h : notStar t = true) (ts : List Expr) (env : PySem.Env) : assignEach (t :: ts) env = (false, assign t env) :: assignEach ts env := by
  cases t <;> first | rfl | cases h
theorem each_len : ∀ (ts : List Expr) (env : PySem.Env), (assignEach ts env).length = ts.length
  | [], _ => rfl
  | t :: ts, env => by
    have ih := each_len ts env
    cases t <;> simp [assignEach, ih]
theorem each_idx : ∀ {ts : List Expr}, ts.all notStar = true → ∀ env : PySem.Env, (assignEach ts env).findIdx? (·.1) = none
  | [], _, _ => rfl
  | t :: ts, h, env => by
    have h' : notStar t = true ∧ ts.all notStar = true := by simpa using h
    rw [each_of h'.1, List.findIdx?_cons]
    simp [each_idx h'.2 env]

end Rc

-- Rd1
set_option Elab.async false
set_option linter.all false
set_option maxRecDepth 100000
set_option maxHeartbeats 4000000
namespace Rc
open PySem PySem.Spec PyProof.Rows L2

/-! ### what draws: a tree of questions to the pot -/
inductive Tr (α : Type) where
  | ret (a : α) | fail | ask (n : Int) (k : Int → Tr α)
  /-- the pot read, written: in _law_take alone -/
  | get (k : Pot → Tr α) | put (p : Pot) (t : Tr α)
def Tr.bind {α β : Type} : Tr α → (α → Tr β) → Tr β
  | .ret a, f => f a
  | .fail, _ => .fail
  | .ask n k, f => .ask n fun i => (k i).bind f
  | .get k, f => .get fun p => (k p).bind f
  | .put p t, f => .put p (t.bind f)
def Tr.of {α : Type} : Option α → Tr α
  | some a => .ret a
  | none => .fail
def mixP (p : Pot) : Int :=
  let c := p.c + 1
  let q := (p.m + 99989 * c * c + 61) ^ 3 % ([2147483647, 2147483629, 2147483587, 2147483579, 2147483563].getD (c % 5).toNat 1)
  (q * (q % 10009 + 91 * c) % 2305843009213693907) / 107
def potB (p : Pot) : Bool := decide (0 ≤ p.o ∧ p.o < 10 ^ 300 ∧ 0 ≤ p.m ∧ p.m < 2 ^ 62 ∧ 0 ≤ p.c ∧ p.c < 2 ^ 30)
/-- one number below n out of the pot -/
def takeP (p : Pot) (n : Int) : Option (Int × Pot) :=
  if potB p = true ∧ 0 < n ∧ n < 2 ^ 30 then (if 0 < p.o then some (p.o % n, { p with o := p.o / n }) else some (mixP p % n, { p with c := p.c + 1 })) else none
def Tr.run {α : Type} : Tr α → Pot → Option (α × Pot)
  | .ret a, p => some (a, p)
  | .fail, _ => none
  | .ask n k, p => (takeP p n).bind fun r => (k r.1).run r.2
  | .get k, p => (k p).run p
  | .put q t, _ => t.run q
theorem Tr.run_bind {α β : Type} (f : α → Tr β) : ∀ (t : Tr α) (p : Pot), (t.bind f).run p = (t.run p).bind fun r => (f r.1).run r.2
  | .ret a, p => rfl
  | .fail, p => rfl
  | .ask n k, p => by
    show (takeP p n).bind (fun r => ((k r.1).bind f).run r.2) = ((takeP p n).bind fun r => (k r.1).run r.2).bind fun r => (f r.1).run r.2
    cases takeP p n with
    | none => rfl
    | some r => exact Tr.run_bind f (k r.1) r.2
  | .get k, p => Tr.run_bind f (k p) p
  | .put q t, _ => Tr.run_bind f t q
theorem Tr.run_of {α : Type} (o : Option α) (p : Pot) : (Tr.of o).run p = o.map fun a => (a, p) := by cases o <;> rfl
theorem Tr.bind_some {α β : Type} {f : α → Tr β} {t : Tr α} {p p' : Pot} {b : β} (h : (t.bind f).run p = some (b, p')) : ∃ a p1, t.run p = some (a, p1) ∧ (f a).run p1 = some (b, p') := by
  rw [Tr.run_bind] at h
  obtain ⟨⟨a, p1⟩, h1, h2⟩ := Option.bind_eq_some_iff.mp h
  exact ⟨a, p1, h1, h2⟩
theorem Tr.of_some {α : Type} {o : Option α} {p p' : Pot} {b : α} (h : (Tr.of o).run p = some (b, p')) : o = some b ∧ p' = p := by
  rw [Tr.run_of] at h
  obtain ⟨a, h1, h2⟩ := Option.map_eq_some_iff.mp h
  cases h2
  exact ⟨h1, rfl⟩
abbrev TrD := List D → Tr D
abbrev TrI := List D → Tr (List (Str × D))
def Tr.runs {α : Type} (t : List D → Tr α) : List D → Pot → Option (α × Pot) := fun ds p => (t ds).run p

/-! ### the program at hand, by names -/
/-- a def: how many parameters, the defaults of the last ones, what it is worth -/
structure Fn where
  n : Nat
  dfl : List D
  run : TrD
structure FnI where
  n : Nat
  dfl : List D
  run : TrI
structure Gs where
  glo : Str → Option D
  tab : Str → Option (List (Str × D))
  fn : Str → Option Fn
  mak : Str → Option FnI
  /-- a property, or a field (some none) -/
  att : Str → Str → Option (Option TrD)
  met : Str → Str → Option Fn
  cme : Str → Str → Option Fn
  known : List Str
/-- the arguments with the defaults that lack -/
def full (n : Nat) (dfl ds : List D) : Option (List D) :=
  if ds.length ≤ n ∧ n ≤ ds.length + dfl.length then some (ds ++ dfl.drop (ds.length + dfl.length - n)) else none
def callT : Option Fn → List D → Tr D
  | some f, ds => (Tr.of (full f.n f.dfl ds)).bind f.run
  | none, _ => .fail
def mkT (c : Str) : Option FnI → List D → Tr D
  | some f, ds => (Tr.of (full f.n f.dfl ds)).bind fun es => (f.run es).bind fun fs => .ret (.obj c fs)
  | none, _ => .fail

end Rc

-- Rd2
set_option Elab.async false
set_option linter.all false
set_option maxRecDepth 100000
set_option maxHeartbeats 4000000
namespace Rc
open PySem PySem.Spec PyProof.Rows L2 ClX

/-! ### what must be known of the program -/
/-- whatever lacks of the defaults is filled up -/
def BindsAll (K : PySem.W.Frag) (fd : FuncData) (ps : List Str) (dfl : List D) : Prop := ∀ j, j ≤ dfl.length → ∃ ds dvs, Binds K fd ps ds ∧ (∀ pa M H, Reps K pa M H (dfl.drop j) dvs) ∧ Vals dvs ds
def FnK (T : Th) (k : Nat) (x : Str) (f : Fn) : Prop := ∃ a fd ps, ps.length = f.n ∧ T.mg x = some (.ref a) ∧ PySem.W.keepIn T.K (.ref a) = true ∧ BindsAll T.K fd ps f.dfl ∧ FG T.P T.w T.K T.mg T.base k a fd ps (spD T.K f.n (Tr.runs f.run))
def MakK (T : Th) (k : Nat) (c : Str) (f : FnI) : Prop := ∃ a fd ps, ps.length = f.n + 1 ∧ T.mg c = some (.ref (He.ga T.K c)) ∧ Mk T.K (He.ga T.K c) a ∧ BindsAll T.K fd ps f.dfl ∧ FG T.P T.w T.K T.mg T.base k a fd ps (spI T.K c f.n (Tr.runs f.run))
def AttK (T : Th) (k : Nat) (c f : Str) : Option TrD → Prop
  | some run => Cls T.K (He.ga T.K c) ∧ ∃ p g fd ps, PropOf T.K (He.ga T.K c) f p g ∧ Binds T.K fd ps [] ∧ FG T.P T.w T.K T.mg T.base k g fd ps (spD T.K 1 (Tr.runs run))
  | none => Cls T.K (He.ga T.K c) ∧ NoAttr T.K (He.ga T.K c) f
def MetK (T : Th) (k : Nat) (c m : Str) (f : Fn) : Prop := Cls T.K (He.ga T.K c) ∧ ∃ a fd ps, ps.length = f.n ∧ Meth T.K (He.ga T.K c) m a ∧ BindsAll T.K fd ps f.dfl ∧ FG T.P T.w T.K T.mg T.base k a fd ps (spD T.K f.n (Tr.runs f.run))
def CmeK (T : Th) (k : Nat) (c m : Str) (f : Fn) : Prop := T.mg c = some (.ref (He.ga T.K c)) ∧ ∃ mc p a fd ps, CRead T.K (He.ga T.K c) mc ∧ CMet T.K (He.ga T.K c) mc m p a ∧ ps.length = f.n ∧ BindsAll T.K fd ps f.dfl ∧ FG T.P T.w T.K T.mg T.base k a fd ps (spD T.K f.n (Tr.runs f.run))

theorem full_some {n : Nat} {dfl ds es : List D} (h : full n dfl ds = some es) : ∃ j, j ≤ dfl.length ∧ es = ds ++ dfl.drop j ∧ es.length = n := by
  unfold full at h
  split at h
  · rename_i hl
    cases h
    refine ⟨ds.length + dfl.length - n, by omega, rfl, ?_⟩
    simp
    omega
  · cases h
theorem callT_some {f : Option Fn} {ds : List D} {p p' : Pot} {d : D} (h : (callT f ds).run p = some (d, p')) : ∃ g es, f = some g ∧ full g.n g.dfl ds = some es ∧ (g.run es).run p = some (d, p') := by
  cases f with
  | none => cases h
  | some g =>
    obtain ⟨es, p1, h1, h2⟩ := Tr.bind_some h
    obtain ⟨h3, rfl⟩ := Tr.of_some h1
    exact ⟨g, es, rfl, h3, h2⟩
theorem mkT_some {c : Str} {f : Option FnI} {ds : List D} {p p' : Pot} {d : D} (h : (mkT c f ds).run p = some (d, p')) : ∃ g es fs, f = some g ∧ full g.n g.dfl ds = some es ∧ (g.run es).run p = some (fs, p') ∧ d = .obj c fs := by
  cases f with
  | none => cases h
  | some g =>
    obtain ⟨es, p1, h1, h2⟩ := Tr.bind_some h
    obtain ⟨h3, rfl⟩ := Tr.of_some h1
    obtain ⟨fs, p2, h4, h5⟩ := Tr.bind_some h2
    cases h5
    exact ⟨g, es, fs, rfl, h3, h4, rfl⟩
/-- a promise at values that stand for the arguments that are given -/
theorem sp_of {K : PySem.W.Frag} {fd : FuncData} {ps : List Str} {f : Fn} {pa : Option Addr} {M : Ms} {H : Hp} {p p' : Pot} {ds es : List D} {vs : List V} {d : D} {Q : VK} (hb : BindsAll K fd ps f.dfl) (hf : full f.n f.dfl ds = some es) (dom : ∀ a, M a → (H a).isSome = true)
    (k : PotOk pa M H p) (r : Reps K pa M H ds vs) (hr : (f.run es).run p = some (d, p')) (q : ∀ v H', Ext pa H H' → PotOk pa M H' p' → Rep K pa M H' d v → Q v H') :
    ∃ us dvs, Binds K fd ps us ∧ Vals dvs us ∧ spD K f.n (Tr.runs f.run) (vs ++ dvs) H Q E0 := by
  obtain ⟨j, hj, rfl, hl⟩ := full_some hf
  obtain ⟨us, dvs, h1, h2, h3⟩ := hb j hj
  exact ⟨us, dvs, h1, h3, pa, M, p, _, d, p', dom, k, r.append (h2 _ _ _), hl, hr, q⟩
/-- the same where the arguments are yet to be reckoned -/
theorem binds_at {K : PySem.W.Frag} {fd : FuncData} {ps : List Str} {n : Nat} {dfl ds es : List D} (hb : BindsAll K fd ps dfl) (hf : full n dfl ds = some es) : ∃ us ws dvs, Binds K fd ps us ∧ (∀ pa M H, Reps K pa M H ws dvs) ∧ Vals dvs us ∧ es = ds ++ ws ∧ es.length = n := by
  obtain ⟨j, hj, rfl, hl⟩ := full_some hf
  obtain ⟨us, dvs, h1, h2, h3⟩ := hb j hj
  exact ⟨us, _, dvs, h1, h2, h3, rfl, hl⟩

/-- the call as the machine has it -/
theorem fg_code {X : Cx} {pins : List (Addr × Obj)} {σ : L2.St} {H : Hp} {s : Shared} {k : Nat} {f : Addr} {fd : FuncData} {ps : List Str} {sp : Sp} {Q : VK} {us ds : List Value} {vs dvs : List V} (F : FG X.prog X.w X.K X.mg X.base k f fd ps sp) (hr : Rm k X.A) (hb : Binds X.K fd ps ds) (hd : Vals dvs ds) (I : Inv X pins σ H s) (r : Vals vs us) (h : sp (vs ++ dvs) H Q E0) :
    codeAny (model X.prog X.w) X.A (.call (.ref f) ⟨us, []⟩) (fun r s' => match r with
      | .ok (.ret v) => EP X pins σ Q v s'
      | .ok _ => False
      | .error e => X.xe e s') s := by
  have r2 : Vals (vs ++ dvs) (us ++ ds) := r.append hd
  have hl : (us ++ ds).length = ps.length := r2.length.symm.trans (F.len _ _ _ h)
  refine codeAny_mono (F.run X.A X.stack s H ⟨us, []⟩ _ _ Q hr I.env0 (hb s us I.kIn hl) r2 h) ?_
  intro rs s' hq
  cases rs with
  | error e => exact hq.elim
  | ok fl =>
    cases fl with
    | ret u => exact I.after hq
    | _ => exact hq.elim

def evCallT (f : Option Fn) (g : EvA) : EvF := fun env p => (g env p).bind fun r => (callT f r.1).run r.2
def evMkT (c : Str) (f : Option FnI) (g : EvA) : EvF := fun env p => (g env p).bind fun r => (mkT c f r.1).run r.2
section
variable {T : Th} {k : Nat} {X : Cx} {x c m : Str} {f : Option Fn} {fi : Option FnI} {e : Expr} {es : List Expr} {g : EvA} {p pos : Pos}
theorem pd_callT (F : Fits T k X) (h : ∀ f0, f = some f0 → FnK T k x f0) (hg : Gl X x) (ha : PL X es g) (hdb : (x == ("__debug__" : Str)) = false) (hs : es.all notStar = true) (h0 : es = [] → g = evNil) : PD X (.Call (.Name x p) es [] pos) (evCallT f g) := by
  refine ⟨fun pins s σ H Q I ⟨pa, M, env, p, d, p', hE, hP, hf, kk⟩ => ?_⟩
  unfold evCallT at hf
  obtain ⟨⟨ds, p1⟩, h1, h2⟩ := Option.bind_eq_some_iff.mp hf
  obtain ⟨f0, fs, rfl, h3, h4⟩ := callT_some h2
  obtain ⟨a, fd, ps, en, hm, hk, hb, G⟩ := h f0 rfl
  obtain ⟨us0, ws, dvs, b1, b2, b3, rfl, b5⟩ := binds_at hb h3
  rw [← F.K] at hk b1 b2
  rw [← F.mg] at hm
  rw [← F.prog, ← F.w, ← F.K, ← F.mg, ← F.base] at G
  refine wpAny_Call_Name_kw (ld_glob I hg hm ?_ hdb)
  cases es with
  | nil =>
    rw [h0 rfl] at h1
    cases h1
    refine PySem.W.callWith_K0 I.kIn hk (fg_call (us := []) (vs := []) (ds := us0) (dvs := dvs) G F.rm b1 b3 I .nil ?_)
    exact ⟨pa, M, p, _, d, p', hE.dom, hP, b2 _ _ _, b5, h4, fun v H' x2 k2 r2 => kk v H' x2 k2 r2⟩
  | cons e es =>
    have hs' : notStar e = true ∧ es.all notStar = true := by simpa using hs
    refine PySem.W.callWith_K (h₀ := X.base) I.ok.mod.kin hk (thn (ha.run pos pins s σ H (fun vs H1 => spD X.K f0.n (Tr.runs f0.run) (vs ++ dvs) H1 Q E0) I ⟨pa, M, env, p, ds, p1, hE, hP, h1, fun vs H1 x1 k1 r1 => ?_⟩) fun us s1 ⟨vs, H1, I1, r, q⟩ => ⟨I1.kIn, ?_⟩) (star_of hs'.1 es X.env) (plain_of hs'.2 pos X.env)
    · exact ⟨pa, M, p1, _, d, p', x1.dom k1 hE.dom, k1, r1.append (b2 _ _ _), b5, h4, fun v H' x2 k2 r2 => kk v H' (x1.trans x2) k2 r2⟩
    · exact fg_call (ds := us0) (dvs := dvs) G F.rm b1 b3 I1 r q
theorem mk_back {K : PySem.W.Frag} {f0 : FnI} {ds ws : List D} {p p1 p' : Pot} {env : Env} {fs : List (Str × D)} (h1 : g env p = some (ds, p1)) (hl : (ds ++ ws).length = f0.n) (h4 : (f0.run (ds ++ ws)).run p1 = some (fs, p')) : evMk c f0.n ws (Tr.runs f0.run) g env p = some (.obj c fs, p') := by
  unfold evMk
  rw [h1]
  show (if ds.length + ws.length = f0.n then ((f0.run (ds ++ ws)).run p1).map _ else none) = _
  rw [if_pos (by simpa using hl), h4]
  rfl
theorem pd_makT (F : Fits T (k + 1) X) (h : ∀ f0, fi = some f0 → MakK T k c f0) (hg : Gl X c) (ha : PL X (e :: es) g) (hdb : (c == ("__debug__" : Str)) = false)
    (he : starEach (e :: es) X.env = (false, eval e X.env) :: starEach es X.env) (hpl : (backTo pos (starEach es X.env)).any (·.1) = false) : PD X (.Call (.Name c p) (e :: es) [] pos) (evMkT c fi g) := by
  refine ⟨fun pins s σ H Q I ⟨pa, M, env, p, d, p', hE, hP, hf, kk⟩ => ?_⟩
  unfold evMkT at hf
  obtain ⟨⟨ds, p1⟩, h1, h2⟩ := Option.bind_eq_some_iff.mp hf
  obtain ⟨f0, fs, gs, rfl, h3, h4, rfl⟩ := mkT_some h2
  obtain ⟨a, fd, ps, en, hm, mk, hb, G⟩ := h f0 rfl
  obtain ⟨us0, ws, dvs, b1, b2, b3, rfl, b5⟩ := binds_at hb h3
  rw [← F.K] at mk b1 b2 hm
  rw [← F.mg] at hm
  rw [← F.prog, ← F.w, ← F.K, ← F.mg, ← F.base] at G
  have q2 := make_of (K := X.K) (c := c) (n := f0.n) (dfl := ws) (run := Tr.runs f0.run) (g := g) (σ := σ) (H := H) (Q := Q) b2 ⟨pa, M, env, p, _, p', hE, hP, mk_back (K := X.K) h1 b5 h4, kk⟩
  refine wpAny_Call_Name_kw (ld_glob I hg hm ?_ hdb)
  refine PySem.W.callWith_K (h₀ := X.base) I.ok.mod.kin mk.kp (thn (ha.run pos pins s σ H _ I q2) fun us s1 ⟨vs, H1, I1, r, q3⟩ => ⟨I1.kIn, ?_⟩) he hpl
  exact fg_make mk G F.rm b1 b3 I1 r q3
/-- a local that holds the class -/
def evMkLT (G : Str → Option FnI) (i : Nat) (g : EvA) : EvF := fun env p => match env[i]? with
  | some (some (.dat (.cls c))) => evMkT c (G c) g env p
  | _ => none
theorem pd_makLT {mak : Str → Option FnI} {i : Nat} (F : Fits T (k + 1) X) (h : ∀ c f0, mak c = some f0 → MakK T k c f0) (hN : X.N[i]? = some x) (hv0 : Vis X.env.scope x) (ha : PL X (e :: es) g) (hdb : (x == ("__debug__" : Str)) = false) (hcd : (x == ("__classdict__" : Str)) = false)
    (he : starEach (e :: es) X.env = (false, eval e X.env) :: starEach es X.env) (hpl : (backTo pos (starEach es X.env)).any (·.1) = false) : PD X (.Call (.Name x p) (e :: es) [] pos) (evMkLT mak i g) := by
  refine ⟨fun pins s σ H Q I ⟨pa, M, env, pp, d, p', hE, hP, hf, kk⟩ => ?_⟩
  unfold evMkLT at hf
  split at hf
  rotate_left
  · cases hf
  rename_i c hi
  obtain ⟨v, hv1, hv2⟩ := hE.slot i _ hi
  cases hv2
  unfold evMkT at hf
  obtain ⟨⟨ds, p1⟩, h1, h2⟩ := Option.bind_eq_some_iff.mp hf
  obtain ⟨f0, fs, gs, e0, h3, h4, rfl⟩ := mkT_some h2
  obtain ⟨a, fd, ps, en, hm, mk, hb, G⟩ := h c f0 e0
  obtain ⟨us0, ws, dvs, b1, b2, b3, rfl, b5⟩ := binds_at hb h3
  rw [← F.K] at mk b1 b2 hm
  rw [← F.prog, ← F.w, ← F.K, ← F.mg, ← F.base] at G
  have q2 := make_of (K := X.K) (c := c) (n := f0.n) (dfl := ws) (run := Tr.runs f0.run) (g := g) (σ := σ) (H := H) (Q := Q) b2 ⟨pa, M, env, pp, _, p', hE, hP, mk_back (K := X.K) h1 b5 h4, kk⟩
  refine wpAny_Call_Name_kw ?_
  refine thn ((pe_var hN hv0 hdb hcd).run pins s σ H (fun v H' => v = .ref (He.ga X.K c) ∧ H' = H) I ⟨_, hv1, rfl, rfl⟩) ?_
  rintro u s0 ⟨v, H', I0, ru, rfl, rfl⟩
  cases ru
  refine PySem.W.callWith_K (h₀ := X.base) I.ok.mod.kin mk.kp (thn (ha.run pos pins s0 σ H' _ I0 q2) fun us s1 ⟨vs, H1, I1, r, q3⟩ => ⟨I1.kIn, ?_⟩) he hpl
  exact fg_make mk G F.rm b1 b3 I1 r q3
end

/-! ### attributes, methods -/
def attT (att : Str → Str → Option (Option TrD)) (f : Str) : D → Tr D
  | .obj c fs => match att c f with
    | some (some run) => run [.obj c fs]
    | some none => Tr.of (fs.lookup f)
    | none => .fail
  | _ => .fail
def evAttT (att : Str → Str → Option (Option TrD)) (f : Str) (g : EvF) : EvF := fun env p => (g env p).bind fun r => (attT att f r.1).run r.2
def metT (met : Str → Str → Option Fn) (m : Str) : D → List D → Tr D
  | .obj c fs, ds => match fs.lookup m with
    | none => callT (met c m) (.obj c fs :: ds)
    | some _ => .fail
  | _, _ => .fail
def evMetT (met : Str → Str → Option Fn) (m : Str) (f : EvF) (g : EvA) : EvF := fun env p => (f env p).bind fun r => (g env r.2).bind fun q => (metT met m r.1 q.1).run q.2
def evCmeT (c : Str) (f : Option Fn) (g : EvA) : EvF := fun env p => (g env p).bind fun r => (callT f (.cls c :: r.1)).run r.2
section
variable {T : Th} {k : Nat} {X : Cx} {c m f : Str} {att : Str → Str → Option (Option TrD)} {met : Str → Str → Option Fn} {f0 : Option Fn} {o e : Expr} {es : List Expr} {g : EvF} {ga : EvA} {px apos pos : Pos}
theorem pd_attT (F : Fits T (k + 1) X) (h : ∀ c r, att c f = some r → AttK T k c f r) (he : PD X e g) (hb : attributeBase e f X.env (eval e X.env) = eval e X.env) : PD X (.Attribute e f pos) (evAttT att f g) := by
  refine ⟨fun pins s σ H Q I ⟨pa, M, env, p, d, p', hE, hP, hf, kk⟩ => ?_⟩
  unfold evAttT at hf
  obtain ⟨⟨x, p1⟩, h1, h2⟩ := Option.bind_eq_some_iff.mp hf
  cases x with
  | obj c fs =>
    simp only [attT] at h2
    cases hq : att c f with
    | none => rw [hq] at h2; cases h2
    | some r =>
      have hc := h c r hq
      rw [hq] at h2
      refine attr_of hb (thn (he.run pins s σ H (fun v H1 => ∃ a dx ws, v = .ref a ∧ H1 a = some (.ins (He.ga X.K c) dx ws) ∧ ¬ M a ∧ RepF X.K pa M H1 fs ws ∧ Ext pa H H1 ∧ PotOk pa M H1 p1) I ⟨pa, M, env, p, _, p1, hE, hP, h1, fun v H1 x1 k1 r1 => ?_⟩) ?_)
      · obtain ⟨a, dx, ws, rfl, t, r⟩ := r1
        exact ⟨a, dx, ws, rfl, t.2, t.1, r, x1, k1⟩
      · rintro u s1 ⟨v, H1, I1, ru, a, dx, ws, rfl, ha, hm, rr, x1, k1⟩
        cases ru
        cases r with
        | some run =>
          obtain ⟨cl, p0, g0, fd, ps, hp, hbd, G⟩ := hc
          rw [← F.K] at cl hp hbd
          rw [← F.prog, ← F.w, ← F.K, ← F.mg, ← F.base] at G
          exact fg_prop I1 ha cl hp G F.rm hbd ⟨pa, M, p1, [.obj c fs], d, p', x1.dom k1 hE.dom, k1, .cons ⟨a, dx, ws, rfl, ⟨hm, ha⟩, rr⟩ .nil, rfl, h2, fun v H' x2 k2 r2 => kk v H' (x1.trans x2) k2 r2⟩
        | none =>
          obtain ⟨cl, na⟩ := hc
          rw [← F.K] at cl na
          obtain ⟨h3, rfl⟩ := Tr.of_some h2
          obtain ⟨v', h5, h6⟩ := rr.lookup h3
          exact getattr_ok I1 ha cl na h5 fun u' s2 I2 ru' => ⟨v', H1, I2, ru', kk v' H1 x1 k1 h6⟩
  | _ => cases h2
theorem pd_metT {pl : Sem Bool} (F : Fits T k X) (h : ∀ c f0, met c m = some f0 → MetK T k c m f0) (he : PD X o g) (ha : PL X es ga) (hs : es.all notStar = true) (h0 : es = [] → ga = evNil)
    (ht : eval (.Call (.Attribute o m apos) es [] pos) X.env = (do
      let ov ← eval o X.env
      standAt apos.atName
      let (f, first) ← holding [ov] (getMethod ov m pl)
      callWith pos f first (backTo pos (starEach es X.env)) (backToKw pos (keywordEach [] X.env)))) : PD X (.Call (.Attribute o m apos) es [] pos) (evMetT met m g ga) := by
  refine ⟨fun pins s σ H Q I ⟨pa, M, env, p, d, p', hE, hP, hf, kk⟩ => ?_⟩
  unfold evMetT at hf
  obtain ⟨⟨x, p1⟩, h1, h2⟩ := Option.bind_eq_some_iff.mp hf
  obtain ⟨⟨ds, p2⟩, h3, h4⟩ := Option.bind_eq_some_iff.mp h2
  cases x with
  | obj c fs =>
    simp only [metT] at h4
    cases hl : fs.lookup m with
    | some _ => rw [hl] at h4; cases h4
    | none =>
      rw [hl] at h4
      obtain ⟨f0, gs, e0, h5, h6⟩ := callT_some h4
      obtain ⟨cl, a, fd, ps, en, hm, hb, G⟩ := h c f0 e0
      obtain ⟨us0, ws, dvs, b1, b2, b3, rfl, b5⟩ := binds_at hb h5
      rw [← F.K] at cl hm b1 b2
      rw [← F.prog, ← F.w, ← F.K, ← F.mg, ← F.base] at G
      refine PySem.W.methodCall_KW (pl := pl) (thn (he.run pins s σ H (fun v H1 => ∃ b dx ws, v = .ref b ∧ H1 b = some (.ins (He.ga X.K c) dx ws) ∧ ws.lookup m = none ∧ Rep X.K pa M H1 (.obj c fs) v ∧ Ext pa H H1 ∧ PotOk pa M H1 p1) I ⟨pa, M, env, p, _, p1, hE, hP, h1, fun v H1 x1 k1 r1 => ?_⟩) ?_) ht
      · have r1' := r1
        obtain ⟨b, dx, ws, rfl, t, r⟩ := r1
        exact ⟨b, dx, ws, rfl, t.2, r.none hl, r1', x1, k1⟩
      · rintro u s1 ⟨v, H1, I1, ru, b, dx, zs, rfl, hb1, hl1, rr, x1, k1⟩
        cases ru
        refine getmeth_ok I1 hb1 cl hm hl1 ?_
        have hE1 := hE.ext x1 hP k1
        cases es with
        | nil =>
          rw [h0 rfl] at h3
          cases h3
          refine PySem.W.callWith_K0 (first := [.ref b]) I1.kIn hm.kp (fg_call (us := [.ref b]) (vs := [.ref b]) (ds := us0) (dvs := dvs) G F.rm b1 b3 I1 (.cons rfl .nil) ?_)
          exact ⟨pa, M, p1, _, d, p', hE1.dom, k1, (Reps.cons rr Reps.nil).append (b2 _ _ _), b5, h6, fun v H' x2 k2 r2 => kk v H' (x1.trans x2) k2 r2⟩
        | cons e es =>
          have hs' : notStar e = true ∧ es.all notStar = true := by simpa using hs
          refine PySem.W.callWith_K (first := [.ref b]) (h₀ := X.base) I.ok.mod.kin hm.kp (thn (ha.run pos pins s1 σ H1 (fun vs H2 => spD X.K f0.n (Tr.runs f0.run) ((.ref b :: vs) ++ dvs) H2 Q E0) I1 ⟨pa, M, env, p1, ds, p2, hE1, k1, h3, fun vs H2 x2 k2 r2 => ?_⟩) fun us s2 ⟨vs, H2, I2, r, q⟩ => ⟨I2.kIn, ?_⟩) (star_of hs'.1 es X.env) (plain_of hs'.2 pos X.env)
          · exact ⟨pa, M, p2, _, d, p', x2.dom k2 hE1.dom, k2, (Reps.cons (Rep.up (x2.up k1) rr) r2).append (b2 _ _ _), b5, h6, fun v H' x3 k3 r3 => kk v H' ((x1.trans x2).trans x3) k3 r3⟩
          · exact fg_call (us := .ref b :: us) (vs := .ref b :: vs) (ds := us0) (dvs := dvs) G F.rm b1 b3 I2 (.cons rfl r) q
  | _ => cases h4
theorem pd_cmeT {pl : Sem Bool} (F : Fits T k X) (h : ∀ f1, f0 = some f1 → CmeK T k c m f1) (hg : Gl X c) (hdb : (c == ("__debug__" : Str)) = false) (ha : PL X (e :: es) ga) (hs : (e :: es).all notStar = true)
    (ht : eval (.Call (.Attribute (.Name c px) m apos) (e :: es) [] pos) X.env = (do
      let ov ← eval (.Name c px) X.env
      standAt apos.atName
      let (f, first) ← holding [ov] (getMethod ov m pl)
      callWith pos f first (backTo pos (starEach (e :: es) X.env)) (backToKw pos (keywordEach [] X.env)))) : PD X (.Call (.Attribute (.Name c px) m apos) (e :: es) [] pos) (evCmeT c f0 ga) := by
  refine ⟨fun pins s σ H Q I ⟨pa, M, env, p, d, p', hE, hP, hf, kk⟩ => ?_⟩
  unfold evCmeT at hf
  obtain ⟨⟨ds, p1⟩, h1, h2⟩ := Option.bind_eq_some_iff.mp hf
  obtain ⟨f1, gs, rfl, h5, h6⟩ := callT_some h2
  obtain ⟨hm, mc, pr, a, fd, ps, cr, cm, en, hb, G⟩ := h f1 rfl
  obtain ⟨us0, ws, dvs, b1, b2, b3, rfl, b5⟩ := binds_at hb h5
  rw [← F.K] at cr cm b1 b2 hm
  rw [← F.mg] at hm
  rw [← F.prog, ← F.w, ← F.K, ← F.mg, ← F.base] at G
  have hs' : notStar e = true ∧ es.all notStar = true := by simpa using hs
  refine PySem.W.methodCall_KW (pl := pl) (thn ((pe_glob (v := .ref (He.ga X.K c)) hg hm rfl hdb).run pins s σ H (fun v H1 => v = .ref (He.ga X.K c) ∧ H1 = H) I ⟨rfl, rfl⟩) ?_) ht
  rintro u s1 ⟨v, H1, I1, ru, rfl, rfl⟩
  cases ru
  refine getmethcm_ok I1 cr cm fun s2 I2 => ?_
  refine callwith_cm I2 (base_none I1 (Nat.le_refl _)) cm.fi (thn (ha.run pos _ s2 σ H1 (fun vs H2 => spD X.K f1.n (Tr.runs f1.run) ((.ref (He.ga X.K c) :: vs) ++ dvs) H2 Q E0) I2 ⟨pa, M, env, p, ds, p1, hE, hP, h1, fun vs H2 x2 k2 r2 => ?_⟩) fun us s3 ⟨vs, H2, I3, rv, q2⟩ => ⟨⟨pin_at I3, I3.kIn⟩, ?_⟩) (star_of hs'.1 es X.env) (plain_of hs'.2 pos X.env)
  · exact ⟨pa, M, p1, _, d, p', x2.dom k2 hE.dom, k2, (Reps.cons (d := .cls c) rfl r2).append (b2 _ _ _), b5, h6, fun v H' x3 k3 r3 => kk v H' (x2.trans x3) k3 r3⟩
  · have z : wpAny (model X.prog X.w) X.A (call (.ref _) us) (EP X (_ :: pins) σ Q) X.xe s3 := wpAny_call (PySem.W.method_call (pin_at I3) (fg_code (us := .ref (He.ga X.K c) :: us) (vs := .ref (He.ga X.K c) :: vs) (ds := us0) (dvs := dvs) G F.rm b1 b3 I3 (.cons rfl rv) q2))
    exact thn z fun _ _ y => unpinE y
end
end Rc

-- Rd3
set_option Elab.async false
set_option linter.all false
set_option maxRecDepth 100000
set_option maxHeartbeats 4000000
namespace Rc
open PySem PySem.Spec PyProof.Rows L2

/-! ### operators that call -/
abbrev Op2 := D → D → Pot → Option (D × Pot)
abbrev Op1 := D → Pot → Option (D × Pot)
def opS2 (g : Op2) (f f' : EvF) : EvF := fun env p => (f env p).bind fun r => (f' env r.2).bind fun r' => g r.1 r'.1 r'.2
def opS1 (g : Op1) (f : EvF) : EvF := fun env p => (f env p).bind fun r => g r.1 r.2
def rS2 (K : PySem.W.Frag) (g : Op2) : R2 := fun x y H Q => ∃ pa M p dx dy d p', (∀ a, M a → (H a).isSome = true) ∧ PotOk pa M H p ∧ RepV K pa M H dx x ∧ RepV K pa M H dy y ∧ g dx dy p = some (d, p') ∧ ∀ v H', Ext pa H H' → PotOk pa M H' p' → Rep K pa M H' d v → Q v H'
def rS1 (K : PySem.W.Frag) (g : Op1) : V → Hp → VK → Prop := fun x H Q => ∃ pa M p dx d p', (∀ a, M a → (H a).isSome = true) ∧ PotOk pa M H p ∧ RepV K pa M H dx x ∧ g dx p = some (d, p') ∧ ∀ v H', Ext pa H H' → PotOk pa M H' p' → Rep K pa M H' d v → Q v H'
section
variable {X : Cx} {a b : Expr} {f f' : EvF} {g : Op2} {g1 : Op1} {pos : Pos}
theorem tOp_ofS {σ : L2.St} {H : Hp} {Q : VK} (h : tE X.K (opS2 g f f') σ H Q) : tOp (rS2 X.K g) (tV X.K f) (tV X.K f') σ H Q := by
  obtain ⟨pa, M, env, p, d, p', hE, hP, hf, k⟩ := h
  unfold opS2 at hf
  obtain ⟨⟨x, p1⟩, h1, h2⟩ := Option.bind_eq_some_iff.mp hf
  obtain ⟨⟨y, p2⟩, h3, h4⟩ := Option.bind_eq_some_iff.mp h2
  refine ⟨pa, M, env, p, x, p1, hE, hP, h1, fun v H1 x1 k1 r1 => ?_⟩
  refine ⟨pa, M, env, p1, y, p2, hE.ext x1 hP k1, k1, h3, fun u H2 x2 k2 r2 => ?_⟩
  exact ⟨pa, M, p2, x, y, d, p', x2.dom k2 (x1.dom k1 hE.dom), k2, r1.ext x2 k1, r2, h4, fun w H3 x3 k3 r3 => k w H3 ((x1.trans x2).trans x3) k3 r3⟩
theorem tUn_ofS {σ : L2.St} {H : Hp} {Q : VK} (h : tE X.K (opS1 g1 f) σ H Q) : tUn (rS1 X.K g1) (tV X.K f) σ H Q := by
  obtain ⟨pa, M, env, p, d, p', hE, hP, hf, k⟩ := h
  unfold opS1 at hf
  obtain ⟨⟨x, p1⟩, h1, h2⟩ := Option.bind_eq_some_iff.mp hf
  refine ⟨pa, M, env, p, x, p1, hE, hP, h1, fun v H1 x1 k1 r1 => ?_⟩
  exact ⟨pa, M, p1, x, d, p', x1.dom k1 hE.dom, k1, r1, h2, fun w H3 x3 k3 r3 => k w H3 (x1.trans x3) k3 r3⟩
theorem pd_binS {op : Operator} (ho : OpR X (binaryOp op) (rS2 X.K g)) (ha : PV X a f) (hb : PV X b f') : PD X (.BinOp a op b pos) (opS2 g f f') := PE.weak (pe_op ho ha hb) fun _ _ _ h => tOp_ofS h
theorem pd_cmpS {op : CmpOp} (ho : OpR X (compareOp op) (rS2 X.K g)) (ha : PV X a f) (hb : PV X b f') (hm : behindInMarks op b = false) : PD X (.Compare a [op] [b] pos) (opS2 g f f') := PE.weak (pe_cmpR ho ha hb hm) fun _ _ _ h => tOp_ofS h
theorem pd_unS {op : UnaryOp} (ho : UnR X (unaryOp op) (rS1 X.K g1)) (ha : PV X a f) : PD X (.UnaryOp op a pos) (opS1 g1 f) := PE.weak (pe_un ho ha) fun _ _ _ h => tUn_ofS h
theorem pb_cmpS {op : CmpOp} (ho : OpR X (compareOp op) (rS2 X.K g)) (ha : PV X a f) (hb : PV X b f') (hm : behindInMarks op b = false) (hg : ∀ x y p d p', g x y p = some (d, p') → ∃ k, d = .bl k) : PB X (.Compare a [op] [b] pos) (evTru (opS2 g f f')) :=
  PT.weak (pt_cmpR ho ha hb hm) fun σ H Q ⟨pa, M, env, p, b, p', hE, hP, hf, k⟩ => by
    obtain ⟨x, h1, h2⟩ := evTru_some hf
    refine tOp_ofS (X := X) ⟨pa, M, env, p, x, p', hE, hP, h1, fun v H1 x1 k1 r1 => ?_⟩
    unfold opS2 at h1
    obtain ⟨⟨x', p1⟩, h3, h4⟩ := Option.bind_eq_some_iff.mp h1
    obtain ⟨⟨y, p2⟩, h5, h6⟩ := Option.bind_eq_some_iff.mp h4
    obtain ⟨z, rfl⟩ := hg _ _ _ _ _ h6
    cases h2
    cases r1
    exact ⟨_, rfl, k H1 x1 k1⟩
theorem OpR.pure {fo : Value → Value → Sem Value} {g : D → D → Option D} (h : OpR X fo (rD2 X.K g)) : OpR X fo (rS2 X.K fun x y p => (g x y).map fun d => (d, p)) := OpR.imp h fun x y H Q ⟨pa, M, p, dx, dy, d, p', dom, hP, r1, r2, e, k⟩ => by
  obtain ⟨d', e1, e2⟩ := Option.map_eq_some_iff.mp e
  cases e2
  exact ⟨pa, M, p, dx, dy, d, dom, hP, r1, r2, e1, fun v H' s r => k v H' (Ext.same s) (hP.same s) r⟩
end

/-! ### own operators -/
def isLst : D → Bool
  | .lst _ => true
  | _ => false
theorem RepV.rep {K : PySem.W.Frag} {pa : Option Addr} {M : Ms} {H : Hp} {d : D} {v : V} (r : RepV K pa M H d v) (h : isLst d = false) : Rep K pa M H d v := by
  cases d <;> first | exact r | cases h
def ops : List Operator := [.Add, .Sub, .BitAnd, .BitOr, .BitXor, .LShift, .RShift]
/-- what must be known of the classes for their operators -/
structure OpH (K : PySem.W.Frag) (known : List Str) : Prop where
  sf : ∀ c ∈ known, PySem.W.selfFirst K (He.ga K c) = true
  sub : ∀ c ∈ known, ∀ c' ∈ known, c' ≠ c → PySem.W.subIn K (.ref (He.ga K c')) (.ref (He.ga K c)) = some false
  rr : ∀ c ∈ known, ∀ op ∈ ops, ∃ rc, PySem.W.findIn K (.ref (He.ga K c)) (PySem.dunderR op.info.2) = some rc ∧ (rc = none ∨ ∃ g : Addr, rc = some (.ref g))
  ne : ∀ c ∈ known, PySem.W.findIn K (.ref (He.ga K c)) "__ne__" = some (some (.builtin "object.__ne__"))
  inj : ∀ c ∈ known, ∀ c' ∈ known, c' ≠ c → He.ga K c' ≠ He.ga K c
theorem cmpback' {P : Value → Shared → Prop} {z : V} {v : Value} {s' : Shared} (r : RelV z v) (h : P v s') : PySem.W.CmpBack P v s' := by
  cases v <;> first | exact h | (cases z <;> first | (obtain ⟨_, r⟩ := r; cases r; done) | cases r | exact r.elim)
section
variable {T : Th} {k : Nat} {X : Cx} {pins : List (Addr × Obj)} {σ : L2.St} {H : Hp} {s : Shared}
theorem inst_of {a dx C : Addr} {ws : List (Str × V)} (I : Inv X pins σ H s) (h : H a = some (.ins C dx ws)) : ∃ ox od, PySem.W.InstAt s.heap a ox C od := by
  obtain ⟨mA, O, _, _, _, _⟩ := ins_get I.hok h
  obtain ⟨od, J, _⟩ := O.look
  exact ⟨_, _, J⟩
/-- a method of the class of dx, called with it and dy -/
theorem own_call {f0 : Option Fn} {c m : Str} {fs : List (Str × D)} {ds : List D} {a : Addr} {vs : List V} {us : List Value} {pa : Option Addr} {M : Ms} {p p' : Pot} {d : D} {Q : VK} (F : Fits T k X) (h : ∀ f1, f0 = some f1 → MetK T k c m f1) (I : Inv X pins σ H s)
    (dom : ∀ a, M a → (H a).isSome = true) (hP : PotOk pa M H p) (r : Reps X.K pa M H (.obj c fs :: ds) (.ref a :: vs)) (ru : Vals vs us) (e : (callT f0 (.obj c fs :: ds)).run p = some (d, p'))
    (q : ∀ v H', Ext pa H H' → PotOk pa M H' p' → Rep X.K pa M H' d v → Q v H') :
    ∃ g, PySem.W.findIn X.K (.ref (He.ga X.K c)) m = some (some (.ref g)) ∧ PySem.W.isFn X.K (.ref g) = true ∧ ∀ A : Around, Rm k A → Env0 X.prog X.w X.K X.mg X.base A X.stack s H → 
      codeAny (model X.prog X.w) A (.call (.ref g) ⟨.ref a :: us, []⟩) (CR CX0 X.stack X.prog X.w H s Q E0) s := by
  obtain ⟨f1, gs, rfl, h5, h6⟩ := callT_some e
  obtain ⟨cl, g, fd, ps, en, hm, hb, G⟩ := h f1 rfl
  obtain ⟨us0, ws, dvs, b1, b2, b3, rfl, b5⟩ := binds_at hb h5
  rw [← F.K] at cl hm b1 b2
  rw [← F.prog, ← F.w, ← F.K, ← F.mg, ← F.base] at G
  refine ⟨g, hm.at_, hm.fn, fun A hr he => ?_⟩
  have r2 : Vals ((.ref a :: vs) ++ dvs) ((.ref a :: us) ++ us0) := (show Vals (.ref a :: vs) (.ref a :: us) from .cons rfl ru).append b3
  have hq : spD X.K f1.n (Tr.runs f1.run) ((.ref a :: vs) ++ dvs) H Q E0 := ⟨pa, M, p, _, d, p', dom, hP, r.append (b2 _ _ _), b5, h6, q⟩
  have hl : ((.ref a :: us) ++ us0).length = ps.length := r2.length.symm.trans (G.len _ _ _ hq)
  exact G.run A X.stack s H ⟨.ref a :: us, []⟩ _ _ Q hr he (b1 s (.ref a :: us) I.kIn hl) r2 hq
/-- the answer of such a call, where it is asked -/
theorem own_ans {A : Around} {g a : Addr} {us : List Value} {Q : VK} (I : Inv X pins σ H s) (h : codeAny (model X.prog X.w) A (.call (.ref g) ⟨.ref a :: us, []⟩) (CR CX0 X.stack X.prog X.w H s Q E0) s) (nx : X.xe = fun _ _ => False) : wpAny (model X.prog X.w) A (call (.ref g) (.ref a :: us)) (EP X pins σ Q) X.xe s := by
  refine wpAny_call (codeAny_mono h ?_)
  intro rs s' hq
  cases rs with
  | error er => exact hq.elim
  | ok fl =>
    cases fl with
    | ret u => exact I.after hq
    | _ => exact hq.elim
def opName (op : Operator) : Str := PySem.dunder op.info.2
/-- an instance's operator beside an instance of another class -/
theorem bin_other {op : Operator} {x y C C' f f' : Addr} {ox oy : Obj} {od od' : Option Obj} {rc rc' : Option Value} {A : Around} {E : Value → Shared → Prop} {Q : Value → Shared → Prop} {K : PySem.W.Frag} {prog : Program} {w : World} (X0 : K.In s.heap) (J : PySem.W.InstAt s.heap x ox C od) (J' : PySem.W.InstAt s.heap y oy C' od')
    (ne : C' ≠ C) (hc : PySem.W.selfFirst K C = true) (hc' : PySem.W.selfFirst K C' = true) (hs : PySem.W.findIn K (.ref C) (PySem.dunder op.info.2) = some (some (.ref f))) (hf : PySem.W.isFn K (.ref f) = true) (hr : PySem.W.findIn K (.ref C) (PySem.dunderR op.info.2) = some rc) (hp : rc = none ∨ ∃ g : Addr, rc = some (.ref g))
    (hs' : PySem.W.findIn K (.ref C') (PySem.dunder op.info.2) = some (some (.ref f'))) (hr' : PySem.W.findIn K (.ref C') (PySem.dunderR op.info.2) = some rc') (hp' : rc' = none ∨ ∃ g : Addr, rc' = some (.ref g)) (hsub : PySem.W.subIn K (.ref C') (.ref C) = some false)
    (h : wpAny (model prog w) A (call (.ref f) [.ref x, .ref y]) (PySem.W.CmpBack Q) E s) : wpAny (model prog w) A (binaryOp op (.ref x) (.ref y)) Q E s := by
  obtain ⟨cd, rest, hcd, hm⟩ := PySem.W.ksp_first hc
  obtain ⟨cd', rest', hcd', hm'⟩ := PySem.W.ksp_first hc'
  have one := PySem.W.ksp_try X0 J hs hf h
  have hne : (Value.ref C == Value.ref C') = false := Bool.eq_false_iff.mpr fun q => ne (by injection (beq_iff_eq.mp q) with e; exact e.symm)
  unfold binaryOp
  refine wpAny_holding (wpAny_bind ?_)
  unfold binaryOp1
  refine wpAny_bind (J.type.here (wpAny_bind (J'.type.here (wpAny_bind ((PySem.W.fills_K X0 hcd hm hs).here ?_)))))
  simp only [hne, Bool.false_eq_true, if_false]
  refine wpAny_bind ((PySem.W.fills_K X0 hcd' hm' hs').here ?_)
  simp only [Bool.and_self, if_true]
  refine wpAny_bind ((PySem.W.looks_subIn X0 hsub).here ?_)
  simp only [Bool.false_eq_true, if_false]
  refine wpAny_bind ((PySem.W.ksp_inPy X0 hs hr hp).here ?_)
  simp only [if_true]
  refine wpAny_bind ((PySem.W.ksp_inPy X0 hs' hr' hp').here ?_)
  simp only [Bool.not_true, Bool.false_eq_true, if_false]
  refine wpAny_bind (wpAny_mono one (fun r s' hq => ?_) fun _ _ z => z)
  obtain ⟨v, rfl, hv⟩ := hq
  exact wpAny_pure (wpAny_pure hv)
/-- != of an instance whose class has an own == and no own != -/
theorem ne_own {x C f : Addr} {ox : Obj} {od : Option Obj} {b tb : Value} {A : Around} {E : Value → Shared → Prop} {Q : Value → Shared → Prop} {K : PySem.W.Frag} {prog : Program} {w : World} (hu : A.units + 1 < cLine) (X0 : K.In s.heap) (J : PySem.W.InstAt s.heap x ox C od) (hb : PySem.W.Looks (model prog w) s.heap (typeOf b) tb) (hn : PySem.W.notFirst K C tb = true)
    (hne : PySem.W.findIn K (.ref C) "__ne__" = some (some (.builtin "object.__ne__"))) (hob : PySem.W.mroIn K C (.type "object") = some true) (hs : PySem.W.findIn K (.ref C) "__eq__" = some (some (.ref f))) (hf : PySem.W.isFn K (.ref f) = true)
    (h : wpAny (model prog w) A.in1 (call (.ref f) [.ref x, b]) (fun v s' => ∃ r, v = .bool r ∧ Q (.bool (!r)) s') E s) : wpAny (model prog w) A (richCompare .NotEq (.ref x) b) Q E s := by
  have go : wpAny (model prog w) A.in1 (Builtin.«object.__ne__» ⟨[.ref x, b], []⟩) (fun fin s' => match fin with
      | .done f => wants (fun v s' => ∃ r, v = .bool r ∧ Q (.bool r) s') E (.ok f) s'
      | .again c' => c'.quiet = true ∧ codeAny (model prog w) A c' (wants (fun v s' => ∃ r, v = .bool r ∧ Q (.bool r) s') E) s') (fun e s' => E e s') s := by
    unfold Builtin.«object.__ne__»
    refine wpAny_bind (m := slotArgs "__ne__" 1 _) (wpAny_pure ?_)
    refine wpAny_bind (wpAny_cRoomFor (by simpa using hu) ?_)
    refine wpAny_bind (PySem.W.ifBound_K X0 J hs hf (wpAny_mono h (fun v s' hv => ?_) fun _ _ e => e))
    obtain ⟨r, rfl, q⟩ := hv
    exact wpAny_bind (wpAny_truthy_bool (wpAny_pure ⟨_, rfl, q⟩))
  have body : wpAny (model prog w) A (call (.builtin "object.__ne__") [.ref x, b]) (fun v s' => ∃ r, v = .bool r ∧ Q (.bool r) s') E s := by
    refine wpAny_call (codeAny_call_builtin F.cmp_object.ne.plain F.cmpEntry_ne ?_)
    simp only [checkBuiltinCall, F.cmpKind_ne, F.cmpSplit_ne]
    refine wpAny_bind ?_
    unfold isInstance
    refine wpAny_bind (J.type.here ((PySem.W.looks_mroIn X0 hob).here ?_))
    rw [if_neg (by simp)]
    have ha := F.cmpArgs_ne (.ref x) b
    cases hsig : Manifest.signature? "object.__ne__" with
    | some sig =>
      simp only [argsOk, hsig] at ha
      have h2 : Bind.checkArgs "object.__ne__" sig ⟨[.ref x, b], []⟩ = pure () := ha
      dsimp only
      rw [h2]
      exact wpAny_pure go
    | none => exact wpAny_pure go
  have one : wpAny (model prog w) A (tryCompare (.ref x) "__ne__" b) (fun r s' => ∃ v, r = some v ∧ Q v s') E s := by
    unfold tryCompare
    simp only [callSpecialIfBound?, bindSpecialIfBound?]
    refine wpAny_bind (wpAny_holding (wpAny_bind (wpAny_bind (wpAny_bind (J.type.here ((PySem.W.looks_findIn X0 hne).here ?_))))))
    simp only [F.cmp_object.ne.bind]
    refine wpAny_bind (wpAny_askSetting (wpAny_ite ?_))
    have fin : wpAny (model prog w) A (call (.builtin "object.__ne__") ([.ref x] ++ [b]) >>= fun v => pure (some v)) (fun r s' => ∃ v, r = some (.bool v) ∧ Q (.bool v) s') E s :=
      wpAny_bind (wpAny_mono body (fun v s' ⟨r, e, q⟩ => wpAny_pure ⟨r, by rw [e], q⟩) fun _ _ z => z)
    split
    · refine wpAny_bind (wpAny_pure (wpAny_pure ?_))
      refine wpAny_mono fin (fun r s' ⟨v, e, q⟩ => ?_) fun _ _ z => z
      subst e
      exact wpAny_pure ⟨_, rfl, q⟩
    · refine wpAny_tryCatch (wpAny_bind (wpAny_pure (wpAny_pure ?_)))
      refine wpAny_mono fin (fun r s' ⟨v, e, q⟩ => ?_) fun _ _ z => z
      subst e
      exact wpAny_pure ⟨_, rfl, q⟩
  unfold richCompare
  simp only [oneThing_ref]
  refine wpAny_holding (wpAny_bind (wpAny_cRoomFor (by omega) ?_))
  refine wpAny_bind (J.type.here (wpAny_bind (hb.here ?_)))
  split
  · rename_i q
    have e : PySem.W.subIn K tb (.ref C) = some false := by
      rcases Bool.or_eq_true_iff.mp hn with e | e
      · rw [beq_iff_eq.mp e] at q; simp at q
      · exact beq_iff_eq.mp e
    refine wpAny_bind ((PySem.W.looks_subIn X0 e).here ?_)
    simp only [Bool.false_eq_true, if_false]
    refine wpAny_bind (wpAny_mono one (fun r s' z => ?_) fun _ _ e => e)
    obtain ⟨v, rfl, hq⟩ := z
    exact wpAny_pure hq
  · refine wpAny_bind (wpAny_pure ?_)
    simp only [Bool.false_eq_true, if_false]
    refine wpAny_bind (wpAny_mono one (fun r s' z => ?_) fun _ _ e => e)
    obtain ⟨v, rfl, hq⟩ := z
    exact wpAny_pure hq
end
end Rc

-- Rd4
set_option Elab.async false
set_option linter.all false
set_option maxRecDepth 100000
set_option maxHeartbeats 4000000
namespace Rc
open PySem PySem.Spec PyProof.Rows L2

/-! ### what is known of the program at hand -/
def GloH (T : Th) (x : Str) (d : D) : Prop := ∃ u v, (T.mg x = some u ∨ (T.mg x = none ∧ bootBuiltins x = some u)) ∧ RelV v u ∧ ∀ pa M H, Rep T.K pa M H d v
def freeNames : List Str := ["len", "int", "abs", "bool", "max", "min", "tuple", "list", "all", "any", "repr", "str", "sorted", "isinstance", "range", "zip", "enumerate"]
structure GOk (T : Th) (k : Nat) (G : Gs) : Prop where
  glo : ∀ x d, G.glo x = some d → GloH T x d
  tab : ∀ x kvs, G.tab x = some kvs → TabH T x kvs
  fn : ∀ x f, G.fn x = some f → FnK T k x f
  mak : ∀ c f, G.mak c = some f → MakK T k c f
  att : ∀ c f r, G.att c f = some r → AttK T k c f r
  met : ∀ c m f, G.met c m = some f → MetK T k c m f
  cme : ∀ c m f, G.cme c m = some f → CmeK T k c m f
  isi : IsiH T.K G.known
  op : OpH T.K G.known
  free : ∀ x ∈ freeNames, T.mg x = none

/-! ### operators over data -/
def binD : Operator → D → D → Option D
  | .Add => addD | .Sub => subD | .Mult => mulD | .FloorDiv => fdivD | .Mod => modD | .Pow => powD | _ => fun _ _ => none
def cmpD : CmpOp → D → D → Option D
  | .Eq => eqD | .NotEq => neD | .Lt => ltD | .LtE => leD | .Gt => gtD | .GtE => geD | .Is => isD | .IsNot => isntD | .In => inD | .NotIn => notInD
def scalar : D → Bool
  | .non => true
  | .bl _ => true
  | .int _ => true
  | .str _ => true
  | _ => false
/-- whether a class's operator is asked first -/
def binB (G : Gs) (op : Operator) (c : Str) : D → Bool
  | .obj c' _ => c' == c || (G.known.contains c' && (G.met c' (opName op)).isSome)
  | y => scalar y
def binT (G : Gs) (op : Operator) : D → D → Tr D
  | .obj c fs, y => if ops.contains op && G.known.contains c && binB G op c y then callT (G.met c (opName op)) [.obj c fs, y] else .fail
  | x, y => Tr.of (binD op x y)
def knownB (G : Gs) : D → Bool
  | .obj c _ => G.known.contains c
  | y => (tyName y).isSome
def blT : D → Tr D
  | .bl b => .ret (.bl b)
  | _ => .fail
def cmpName : CmpOp → Str
  | .Eq => "__eq__" | .NotEq => "__eq__" | .Lt => "__lt__" | .LtE => "__le__" | .Gt => "__gt__" | .GtE => "__ge__" | _ => "__contains__"
/-- comparisons that the left one's class answers; in: the right one's -/
def cmpT (G : Gs) (op : CmpOp) (x y : D) : Tr D := match op with
  | .Is => Tr.of (isD x y)
  | .IsNot => Tr.of (isntD x y)
  | .In => (match y with
    | .obj c fs => if isLst x then .fail else (callT (G.met c "__contains__") [.obj c fs, x]).bind blT
    | y => Tr.of (inD x y))
  | .NotIn => (match y with
    | .obj _ _ => .fail
    | y => Tr.of (notInD x y))
  | .NotEq => (match x with
    | .obj c fs => if G.known.contains c && knownB G y && !isLst y then (callT (G.met c "__eq__") [.obj c fs, y]).bind fun d => match d with
      | .bl b => .ret (.bl (!b))
      | _ => .fail
      else .fail
    | x => Tr.of (neD x y))
  | op => (match x with
    | .obj c fs => if G.known.contains c && knownB G y && !isLst y then (callT (G.met c (cmpName op)) [.obj c fs, y]).bind blT else .fail
    | x => Tr.of (cmpD op x y))
def negD : D → Option D
  | .int i => some (.int (-i))
  | _ => none
def unT (G : Gs) (op : UnaryOp) (x : D) : Tr D := match op with
  | .USub => (match x with
    | .obj c fs => callT (G.met c "__neg__") [.obj c fs]
    | x => Tr.of (negD x))
  | .Invert => (match x with
    | .obj c fs => callT (G.met c "__invert__") [.obj c fs]
    | _ => .fail)
  | _ => .fail
section
variable {T : Th} {k : Nat} {X : Cx} {G : Gs}
theorem ty_look {pins : List (Addr × Obj)} {σ : L2.St} {H : Hp} {s : Shared} {pa : Option Addr} {M : Ms} {d : D} {v : V} {u : Value} {t : String} (I : Inv X pins σ H s) (rv : RelV v u) (r : RepV X.K pa M H d v) (h : tyName d = some t) : PySem.W.Looks (model X.prog X.w) s.heap (typeOf u) (.type t) := by
  obtain ⟨P, kx, hp, _⟩ := kit_of I rv (tyX_of r h)
  exact kx.ty _ _ I.kIn hp
def tyVal : Value → Bool
  | .type _ => true
  | _ => false
theorem mro_all : ∀ t ∈ allTys, ((fastBuiltinMro t).map fun l => l.all tyVal) = some true := by decide +kernel
theorem sub_ty {K : PySem.W.Frag} {t : String} (h : t ∈ allTys) (C : Addr) : PySem.W.subIn K (.type t) (.ref C) = some false := by
  have := mro_all t h
  obtain ⟨l, e, q⟩ := Option.map_eq_some_iff.mp this
  show (fastBuiltinMro t).map (fun x => x.contains (Value.ref C)) = some false
  rw [e]
  show some (l.contains (Value.ref C)) = some false
  congr 1
  rw [Bool.eq_false_iff]
  intro z
  have hm : Value.ref C ∈ l := by simpa using z
  have := List.all_eq_true.mp q _ hm
  cases this
def opB (op : Operator) (t : String) : Bool := (fastLookup t (PySem.dunder op.info.2)).isSome && (fastLookup t (PySem.dunderR op.info.2)).isSome
theorem op_all : ∀ t ∈ allTys, ∀ op ∈ ops, opB op t = true := by decide +kernel
theorem find_ty {K : PySem.W.Frag} {t : String} {op : Operator} (h : t ∈ allTys) (ho : op ∈ ops) : ∃ fo ro, PySem.W.findIn K (.type t) (PySem.dunder op.info.2) = some fo ∧ PySem.W.findIn K (.type t) (PySem.dunderR op.info.2) = some ro := by
  have := op_all t h op ho
  unfold opB at this
  obtain ⟨h1, h2⟩ := Bool.and_eq_true_iff.mp this
  obtain ⟨fo, e1⟩ := Option.isSome_iff_exists.mp h1
  obtain ⟨ro, e2⟩ := Option.isSome_iff_exists.mp h2
  exact ⟨fo, ro, e1, e2⟩
theorem scalar_pure {K : PySem.W.Frag} {pa : Option Addr} {M : Ms} {H : Hp} {d : D} {v : V} {u : Value} (h : scalar d = true) (r : RepV K pa M H d v) (rv : RelV v u) : ∃ t, t ∈ allTys ∧ typeOf u = pure (.type t) := by
  cases d with
  | non => cases r; cases rv; exact ⟨"NoneType", by decide, rfl⟩
  | bl b => cases r; cases rv; exact ⟨"bool", by decide, rfl⟩
  | int i => cases r; obtain ⟨t, rfl⟩ := rv; exact ⟨"int", by decide, rfl⟩
  | str x => obtain ⟨rfl, _⟩ := r; obtain ⟨t, rfl⟩ := rv; exact ⟨"str", by decide, rfl⟩
  | _ => cases h
theorem Reps.two {K : PySem.W.Frag} {pa : Option Addr} {M : Ms} {H : Hp} {d e : D} {v u : V} (h : Rep K pa M H d v) (h' : Rep K pa M H e u) : Reps K pa M H [d, e] [v, u] := .cons h (.cons h' Reps.nil)
theorem op_binD {op : Operator} : OpR X (binaryOp op) (rD2 X.K (binD op)) := by
  cases op with
  | Add => exact op_addD
  | Sub => exact op_subD
  | Mult => exact op_mulD
  | FloorDiv => exact op_fdivD
  | Mod => exact op_modD
  | Pow => exact op_powD
  | _ => exact fun pins s σ H x y v u Q I rx ry ⟨pa, M, p, dx, dy, d, dom, hP, r1, r2, e, k⟩ => by cases e
theorem op_binT (F : Fits T k X) (ok : GOk T k G) (op : Operator) : OpR X (binaryOp op) (rS2 X.K fun x y p => (binT G op x y).run p) := by
  intro pins s σ H x y v u Q I rx ry h
  obtain ⟨pa, M, p, dx, dy, d, p', dom, hP, r1, r2, e, kk⟩ := h
  cases dx with
  | obj c fs =>
    simp only [binT] at e
    split at e
    rotate_left
    · cases e
    rename_i hb
    simp only [Bool.and_eq_true] at hb
    obtain ⟨⟨ho, hc⟩, hb⟩ := hb
    have ho' : op ∈ ops := by simpa using ho
    have hc' : c ∈ G.known := by simpa using hc
    have nl : isLst dy = false := by cases dy <;> first | rfl | cases hb
    have r1' := r1
    obtain ⟨a, dxx, ws, rfl, t, rf⟩ := r1
    obtain ⟨ox, od, J⟩ := inst_of I t.2
    have oh := ok.op
    rw [← F.K] at oh
    obtain ⟨rc, g1, g2⟩ := oh.rr c hc' op ho'
    cases (show v = Value.ref a from rx)
    obtain ⟨m, hF⟩ := I.fr
    obtain ⟨g, q1, q2, q3⟩ := own_call (k := k) (f0 := G.met c (opName op)) (us := [u]) (Q := Q) F (fun f1 e1 => ok.met c _ f1 e1) I dom hP (Reps.two r1' (r2.rep nl)) (.cons ry .nil) e kk
    have call : wpAny (model X.prog X.w) X.A (call (.ref g) [.ref a, u]) (PySem.W.CmpBack (EP X pins σ Q)) X.xe s := thn (own_ans I (q3 X.A F.rm I.env0) F.nx) fun w s' hz => by
      have hz' := hz
      obtain ⟨z, H', I', rz, qz⟩ := hz
      exact cmpback' rz hz'
    have hsc : (∃ c2 fs2, dy = .obj c2 fs2) ∨ scalar dy = true := by
      cases dy with
      | obj c2 fs2 => exact .inl ⟨_, _, rfl⟩
      | _ => exact .inr hb
    rcases hsc with ⟨c2, fs2, rfl⟩ | hsc
    · obtain ⟨b, dxy, wsy, rfl, ty, rfy⟩ := r2
      cases (show u = Value.ref b from ry)
      obtain ⟨oy, od', J'⟩ := inst_of I ty.2
      by_cases ec : c2 = c
      · subst ec
        exact PySem.W.binop_K hF I.ok.mod.kin J J'.type (oh.sf _ hc') q1 q2 call
      · have hb' : c2 ∈ G.known ∧ (G.met c2 (opName op)).isSome = true := by
          unfold binB at hb
          rcases Bool.or_eq_true_iff.mp hb with z | z
          · exact absurd (by simpa using z) ec
          · obtain ⟨z1, z2⟩ := Bool.and_eq_true_iff.mp z
            exact ⟨by simpa using z1, z2⟩
        obtain ⟨f2, e2⟩ := Option.isSome_iff_exists.mp hb'.2
        obtain ⟨cl2, a2, fd2, ps2, en2, hm2, _⟩ := ok.met c2 _ f2 e2
        rw [← F.K] at hm2
        obtain ⟨rc2, g3, g4⟩ := oh.rr c2 hb'.1 op ho'
        exact bin_other I.kIn J J' (oh.inj c hc' c2 hb'.1 ec) (oh.sf c hc') (oh.sf c2 hb'.1) q1 q2 g1 g2 hm2.at_ g3 g4 (oh.sub c hc' c2 hb'.1 ec) call
    · obtain ⟨t, ht, ety⟩ := scalar_pure hsc r2 ry
      obtain ⟨fo, ro, f1, f2⟩ := find_ty (K := X.K) ht ho'
      exact PySem.W.ksp_binT hF I.ok.mod.kin J ety (oh.sf c hc') q1 q2 g1 g2 f1 f2 (sub_ty ht _) call
  | _ => exact OpR.pure op_binD pins s σ H x y v u Q I rx ry ⟨pa, M, p, _, dy, d, p', dom, hP, r1, r2, (Tr.run_of (binD op _ dy) p).symm.trans e, kk⟩
/-- the type of a value that is known, as the machine sees it; it is not asked ahead of an instance of c -/
theorem known_look {pins : List (Addr × Obj)} {σ : L2.St} {H : Hp} {s : Shared} {pa : Option Addr} {M : Ms} {c : Str} {d : D} {v : V} {u : Value} (F : Fits T k X) (ok : GOk T k G) (hc : c ∈ G.known) (I : Inv X pins σ H s) (h : knownB G d = true) (rv : RelV v u) (r : RepV X.K pa M H d v) :
    ∃ tb, PySem.W.Looks (model X.prog X.w) s.heap (typeOf u) tb ∧ PySem.W.notFirst X.K (He.ga X.K c) tb = true := by
  have oh := ok.op
  rw [← F.K] at oh
  by_cases ho : ∃ c2 fs2, d = .obj c2 fs2
  · obtain ⟨c2, fs2, rfl⟩ := ho
    obtain ⟨b, dxy, wsy, rfl, ty, rfy⟩ := r
    cases (show u = Value.ref b from rv)
    obtain ⟨oy, od', J'⟩ := inst_of I ty.2
    refine ⟨_, J'.type, ?_⟩
    unfold PySem.W.notFirst
    by_cases ec : c2 = c
    · subst ec; simp
    · rw [oh.sub c hc c2 (by simpa [knownB] using h) ec]; simp
  · have ht : (tyName d).isSome = true := by
      cases d <;> first | exact h | exact absurd ⟨_, _, rfl⟩ ho
    obtain ⟨t, et⟩ := Option.isSome_iff_exists.mp ht
    refine ⟨_, ty_look I rv r et, ?_⟩
    unfold PySem.W.notFirst
    rw [sub_ty (tyName_mem et)]; simp
theorem cmpOp_rich {op : CmpOp} (h : op ≠ .Is) (h2 : op ≠ .IsNot) (h3 : op ≠ .In) (h4 : op ≠ .NotIn) (a b : Value) : compareOp op a b = richCompare op a b := by
  cases op <;> first | rfl | exact absurd rfl h | exact absurd rfl h2 | exact absurd rfl h3 | exact absurd rfl h4
theorem cmp_name {op : CmpOp} (h : op ≠ .Is) (h2 : op ≠ .IsNot) (h3 : op ≠ .In) (h4 : op ≠ .NotIn) (h5 : op ≠ .NotEq) : (cmpInfo op).2.1 = cmpName op := by
  cases op <;> first | rfl | exact absurd rfl h | exact absurd rfl h2 | exact absurd rfl h3 | exact absurd rfl h4 | exact absurd rfl h5
theorem op_cmpD (F : Fits T k X) {op : CmpOp} : OpR X (compareOp op) (rD2 X.K (cmpD op)) := by
  have hu : X.A.units + 64 < cLine := F.rm.r.units
  have hu2 : X.A.units + 65 < cLine := by have := F.rm.r.un; omega
  cases op with
  | Eq => exact op_eqR hu
  | NotEq => exact op_neR hu
  | Lt => exact op_ltD
  | LtE => exact op_leD
  | Gt => exact op_gtD
  | GtE => exact op_geD
  | Is => exact op_isD
  | IsNot => exact op_isntD
  | In => exact op_inR hu2
  | NotIn => exact op_notInR hu2
theorem blT_some {t : Tr D} {p p' : Pot} {d : D} (h : (t.bind blT).run p = some (d, p')) : ∃ b, d = .bl b ∧ t.run p = some (.bl b, p') := by
  obtain ⟨a, p1, h1, h2⟩ := Tr.bind_some h
  cases a <;> first | (cases h2; exact ⟨_, rfl, h1⟩) | cases h2
/-- == and its like of an instance -/
theorem own_cmp {op : CmpOp} (F : Fits T k X) (ok : GOk T k G) (h1 : op ≠ .Is) (h2 : op ≠ .IsNot) (h3 : op ≠ .In) (h4 : op ≠ .NotIn) (h5 : op ≠ .NotEq) :
    OpR X (compareOp op) (rS2 X.K fun x y p => match x with
      | .obj c fs => (if G.known.contains c && knownB G y && !isLst y then (callT (G.met c (cmpName op)) [.obj c fs, y]).bind blT else .fail).run p
      | _ => none) := by
  intro pins s σ H x y v u Q I rx ry h
  obtain ⟨pa, M, p, dx, dy, d, p', dom, hP, r1, r2, e, kk⟩ := h
  dsimp only at e
  split at e
  rotate_left
  · cases e
  rename_i c fs
  split at e
  rotate_left
  · cases e
  rename_i hb
  simp only [Bool.and_eq_true, Bool.not_eq_true'] at hb
  obtain ⟨⟨hc, hk⟩, nl⟩ := hb
  have hc' : c ∈ G.known := by simpa using hc
  obtain ⟨b, rfl, e'⟩ := blT_some e
  have r1' := r1
  obtain ⟨a, dxx, ws, rfl, t, rf⟩ := r1
  obtain ⟨ox, od, J⟩ := inst_of I t.2
  cases (show v = Value.ref a from rx)
  obtain ⟨m, hF⟩ := I.fr
  obtain ⟨tb, l1, l2⟩ := known_look F ok hc' I hk ry r2
  obtain ⟨g, q1, q2, q3⟩ := own_call (k := k) (f0 := G.met c (cmpName op)) (us := [u]) (Q := Q) F (fun f1 e1 => ok.met c _ f1 e1) I dom hP (Reps.two r1' (r2.rep nl)) (.cons ry .nil) e' kk
  rw [cmpOp_rich h1 h2 h3 h4]
  refine PySem.W.cmp_K (by have := F.rm.r.units; omega) hF I.ok.mod.kin J l1 l2 (by rw [cmp_name h1 h2 h3 h4 h5]; exact q1) q2 ?_
  exact thn (own_ans I (q3 X.A F.rm I.env0) F.nx) fun w s' hz => by
    have hz' := hz
    obtain ⟨z, H', I', rz, qz⟩ := hz
    exact cmpback' rz hz'
/-- != of an instance -/
theorem own_ne (F : Fits T (k + 1) X) (ok : GOk T k G) :
    OpR X (compareOp .NotEq) (rS2 X.K fun x y p => match x with
      | .obj c fs => (if G.known.contains c && knownB G y && !isLst y then (callT (G.met c "__eq__") [.obj c fs, y]).bind fun d => match d with
        | .bl b => .ret (.bl (!b))
        | _ => .fail
        else .fail).run p
      | _ => none) := by
  have F0 := F.mono (Nat.le_succ k)
  intro pins s σ H x y v u Q I rx ry h
  obtain ⟨pa, M, p, dx, dy, d, p', dom, hP, r1, r2, e, kk⟩ := h
  dsimp only at e
  split at e
  rotate_left
  · cases e
  rename_i c fs
  split at e
  rotate_left
  · cases e
  rename_i hb
  simp only [Bool.and_eq_true, Bool.not_eq_true'] at hb
  obtain ⟨⟨hc, hk⟩, nl⟩ := hb
  have hc' : c ∈ G.known := by simpa using hc
  obtain ⟨d0, p1, e, e2⟩ := Tr.bind_some e
  obtain ⟨b, rfl, e3⟩ : ∃ b, d0 = .bl b ∧ (Tr.ret (D.bl (!b))).run p1 = some (d, p') := by
    cases d0 <;> first | exact ⟨_, rfl, e2⟩ | cases e2
  cases e3
  have r1' := r1
  obtain ⟨a, dxx, ws, rfl, t, rf⟩ := r1
  obtain ⟨ox, od, J⟩ := inst_of I t.2
  cases (show v = Value.ref a from rx)
  obtain ⟨tb, l1, l2⟩ := known_look F0 ok hc' I hk ry r2
  have oh := ok.op
  have ih := ok.isi
  rw [← F.K] at oh ih
  obtain ⟨g, q1, q2, q3⟩ := own_call (k := k) (f0 := G.met c "__eq__") (us := [u]) (Q := fun v H' => v = .bl b ∧ Q (.bl (!b)) H') F0 (fun f1 e1 => ok.met c _ f1 e1) I dom hP (Reps.two r1' (r2.rep nl)) (.cons ry .nil) e (fun w H' x1 k1 r3 => by cases r3; exact ⟨rfl, kk _ H' x1 k1 rfl⟩)
  rw [cmpOp_rich (by simp) (by simp) (by simp) (by simp)]
  refine ne_own (by have := F.rm.r.units; omega) I.kIn J l1 l2 (oh.ne c hc') (ih.hm c hc') q1 q2 ?_
  exact thn (own_ans I (q3 X.A.in1 F.rm.in1 I.env0.in1) F.nx) fun w s' hz => by
    obtain ⟨z, H', I', rz, rfl, qz⟩ := hz
    cases rz
    exact ⟨b, rfl, .bl (!b), H', I', rfl, qz⟩
/-- in of an instance -/
theorem own_in (F : Fits T k X) (ok : GOk T k G) :
    OpR X (compareOp .In) (rS2 X.K fun x y p => match y with
      | .obj c fs => (if isLst x then .fail else (callT (G.met c "__contains__") [.obj c fs, x]).bind blT).run p
      | _ => none) := by
  intro pins s σ H x y v u Q I rx ry h
  obtain ⟨pa, M, p, dx, dy, d, p', dom, hP, r1, r2, e, kk⟩ := h
  dsimp only at e
  split at e
  rotate_left
  · cases e
  rename_i c fs
  split at e
  · cases e
  rename_i hb
  have nl : isLst dx = false := by simpa using hb
  obtain ⟨b, rfl, e'⟩ := blT_some e
  have r2' := r2
  obtain ⟨a, dxx, ws, rfl, t, rf⟩ := r2
  obtain ⟨ox, od, J⟩ := inst_of I t.2
  cases (show u = Value.ref a from ry)
  obtain ⟨m, hF⟩ := I.fr
  obtain ⟨g, q1, q2, q3⟩ := own_call (k := k) (f0 := G.met c "__contains__") (us := [v]) (Q := fun v H' => v = .bl b ∧ Q (.bl b) H') F (fun f1 e1 => ok.met c _ f1 e1) I dom hP (Reps.two r2' (r1.rep nl)) (.cons rx .nil) e' (fun w H' x1 k1 r3 => by cases r3; exact ⟨rfl, kk _ H' x1 k1 rfl⟩)
  refine PySem.W.in_K hF I.ok.mod.kin J q1 q2 ?_
  exact thn (own_ans I (q3 X.A F.rm I.env0) F.nx) fun w s' hz => by
    obtain ⟨z, H', I', rz, rfl, qz⟩ := hz
    cases rz
    exact wpAny_truthy_bool ⟨.bl b, H', I', rfl, qz⟩
theorem OpR.when {fo : Value → Value → Sem Value} {g g1 g2 : Op2} {P : D → D → Prop} (h1 : OpR X fo (rS2 X.K g1)) (h2 : OpR X fo (rS2 X.K g2)) (w1 : ∀ x y p r, P x y → g x y p = some r → g1 x y p = some r) (w2 : ∀ x y p r, ¬ P x y → g x y p = some r → g2 x y p = some r) : OpR X fo (rS2 X.K g) := by
  intro pins s σ H x y v u Q I rx ry ⟨pa, M, p, dx, dy, d, p', dom, hP, r1, r2, e, kk⟩
  by_cases hp : P dx dy
  · exact h1 pins s σ H x y v u Q I rx ry ⟨pa, M, p, dx, dy, d, p', dom, hP, r1, r2, w1 _ _ _ _ hp e, kk⟩
  · exact h2 pins s σ H x y v u Q I rx ry ⟨pa, M, p, dx, dy, d, p', dom, hP, r1, r2, w2 _ _ _ _ hp e, kk⟩
def isObj : D → Prop
  | .obj _ _ => True
  | _ => False
theorem op_cmpT (F : Fits T (k + 1) X) (ok : GOk T k G) (op : CmpOp) : OpR X (compareOp op) (rS2 X.K fun x y p => (cmpT G op x y).run p) := by
  have F0 := F.mono (Nat.le_succ k)
  have pr : ∀ op, OpR X (compareOp op) (rS2 X.K fun x y p => (Tr.of (cmpD op x y)).run p) := fun op => by
    have := OpR.pure (op_cmpD (op := op) F0)
    simpa only [Tr.run_of] using this
  have own : ∀ op : CmpOp, op ≠ .Is → op ≠ .IsNot → op ≠ .In → op ≠ .NotIn → op ≠ .NotEq → (∀ x y, cmpT G op x y = match x with
      | .obj c fs => if G.known.contains c && knownB G y && !isLst y then (callT (G.met c (cmpName op)) [.obj c fs, y]).bind blT else .fail
      | x => Tr.of (cmpD op x y)) → OpR X (compareOp op) (rS2 X.K fun x y p => (cmpT G op x y).run p) := fun op h1 h2 h3 h4 h5 he => by
    refine OpR.when (P := fun x _ => isObj x) (own_cmp F0 ok h1 h2 h3 h4 h5) (pr op) (fun x y p r hx e => ?_) (fun x y p r hx e => ?_)
    · rw [he] at e
      cases x <;> first | exact e | exact hx.elim
    · rw [he] at e
      cases x <;> first | exact e | exact absurd trivial hx
  cases op with
  | Is => exact pr .Is
  | IsNot => exact pr .IsNot
  | Eq => exact own .Eq (by simp) (by simp) (by simp) (by simp) (by simp) fun x y => by cases x <;> rfl
  | Lt => exact own .Lt (by simp) (by simp) (by simp) (by simp) (by simp) fun x y => by cases x <;> rfl
  | LtE => exact own .LtE (by simp) (by simp) (by simp) (by simp) (by simp) fun x y => by cases x <;> rfl
  | Gt => exact own .Gt (by simp) (by simp) (by simp) (by simp) (by simp) fun x y => by cases x <;> rfl
  | GtE => exact own .GtE (by simp) (by simp) (by simp) (by simp) (by simp) fun x y => by cases x <;> rfl
  | NotEq =>
    refine OpR.when (P := fun x _ => isObj x) (own_ne F ok) (pr .NotEq) (fun x y p r hx e => ?_) (fun x y p r hx e => ?_)
    · cases x <;> first | exact e | exact hx.elim
    · cases x <;> first | exact e | exact absurd trivial hx
  | In =>
    refine OpR.when (P := fun _ y => isObj y) (own_in F0 ok) (pr .In) (fun x y p r hx e => ?_) (fun x y p r hx e => ?_)
    · cases y <;> first | exact e | exact hx.elim
    · cases y <;> first | exact e | exact absurd trivial hx
  | NotIn =>
    refine OpR.imp (pr .NotIn) fun x y H Q ⟨pa, M, p, dx, dy, d, p', dom, hP, r1, r2, e, kk⟩ => ⟨pa, M, p, dx, dy, d, p', dom, hP, r1, r2, ?_, kk⟩
    cases dy <;> first | exact e | cases e
theorem cmpT_bl {op : CmpOp} {x y : D} {p p' : Pot} {d : D} (h : (cmpT G op x y).run p = some (d, p')) : ∃ b, d = .bl b := by
  have pu : ∀ op x y, (Tr.of (cmpD op x y)).run p = some (d, p') → ∃ b, d = .bl b := fun op x y h => by
    obtain ⟨h, _⟩ := Tr.of_some h
    cases op <;> simp only [cmpD] at h
    · unfold eqD at h; split at h <;> cases h; exact ⟨_, rfl⟩
    · unfold neD at h; split at h <;> cases h; exact ⟨_, rfl⟩
    · unfold ltD at h; split at h <;> cases h <;> exact ⟨_, rfl⟩
    · unfold leD at h; split at h <;> cases h <;> exact ⟨_, rfl⟩
    · unfold gtD at h; split at h <;> cases h <;> exact ⟨_, rfl⟩
    · unfold geD at h; split at h <;> cases h <;> exact ⟨_, rfl⟩
    · unfold isD at h; split at h <;> cases h; exact ⟨_, rfl⟩
    · unfold isntD at h; split at h <;> cases h; exact ⟨_, rfl⟩
    · unfold inD at h; obtain ⟨b, _, rfl⟩ := Option.map_eq_some_iff.mp h; exact ⟨b, rfl⟩
    · unfold notInD at h; obtain ⟨b, _, rfl⟩ := Option.map_eq_some_iff.mp h; exact ⟨!b, rfl⟩
  have ow : ∀ {b : Bool} {t : Tr D}, (if b = true then t.bind blT else .fail).run p = some (d, p') → ∃ b, d = .bl b := fun {b t} h => by
    cases b with
    | true => obtain ⟨b, e, _⟩ := blT_some (show (t.bind blT).run p = _ from h); exact ⟨b, e⟩
    | false => cases h
  cases op with
  | Is => exact pu .Is x y h
  | IsNot => exact pu .IsNot x y h
  | Eq =>
    by_cases hx : isObj x
    · cases x <;> first | exact ow h | exact hx.elim
    · exact pu .Eq x y (by cases x <;> first | exact h | exact absurd trivial hx)
  | Lt =>
    by_cases hx : isObj x
    · cases x <;> first | exact ow h | exact hx.elim
    · exact pu .Lt x y (by cases x <;> first | exact h | exact absurd trivial hx)
  | LtE =>
    by_cases hx : isObj x
    · cases x <;> first | exact ow h | exact hx.elim
    · exact pu .LtE x y (by cases x <;> first | exact h | exact absurd trivial hx)
  | Gt =>
    by_cases hx : isObj x
    · cases x <;> first | exact ow h | exact hx.elim
    · exact pu .Gt x y (by cases x <;> first | exact h | exact absurd trivial hx)
  | GtE =>
    by_cases hx : isObj x
    · cases x <;> first | exact ow h | exact hx.elim
    · exact pu .GtE x y (by cases x <;> first | exact h | exact absurd trivial hx)
  | NotEq =>
    by_cases hx : isObj x
    · cases x <;> first | exact hx.elim | skip
      simp only [cmpT] at h
      split at h
      · obtain ⟨a, p1, _, h2⟩ := Tr.bind_some h
        cases a <;> first | (cases h2; exact ⟨_, rfl⟩) | cases h2
      · cases h
    · exact pu .NotEq x y (by cases x <;> first | exact h | exact absurd trivial hx)
  | In =>
    cases y with
    | obj c fs =>
      simp only [cmpT] at h
      split at h
      · cases h
      · obtain ⟨b, e, _⟩ := blT_some h; exact ⟨b, e⟩
    | _ => exact pu .In x _ (show (Tr.of (inD x _)).run p = _ from h)
  | NotIn => cases y <;> first | exact pu .NotIn x _ (show (Tr.of (notInD x _)).run p = _ from h) | cases h
/-- - and ~ -/
theorem un_T (F : Fits T k X) (ok : GOk T k G) (op : UnaryOp) : UnR X (unaryOp op) (rS1 X.K fun x p => (unT G op x).run p) := by
  intro pins s σ H x v Q I rx ⟨pa, M, p, dx, d, p', dom, hP, r1, e, kk⟩
  have own : ∀ (m : Str) (c : Str) (fs : List (Str × D)), dx = .obj c fs → (callT (G.met c m) [.obj c fs]).run p = some (d, p') → ∃ a ox od g, v = Value.ref a ∧ PySem.W.InstAt s.heap a ox (He.ga X.K c) od ∧ PySem.W.findIn X.K (.ref (He.ga X.K c)) m = some (some (.ref g)) ∧ PySem.W.isFn X.K (.ref g) = true ∧
      wpAny (model X.prog X.w) X.A (call (.ref g) [.ref a]) (EP X pins σ Q) X.xe s := fun m c fs ed e' => by
    subst ed
    have r1' := r1
    obtain ⟨a, dxx, ws, rfl, t, rf⟩ := r1
    obtain ⟨ox, od, J⟩ := inst_of I t.2
    cases (show v = Value.ref a from rx)
    obtain ⟨g, q1, q2, q3⟩ := own_call (k := k) (f0 := G.met c m) (us := []) (Q := Q) F (fun f1 e1 => ok.met c _ f1 e1) I dom hP (Reps.cons r1' Reps.nil) .nil e' kk
    exact ⟨a, ox, od, g, rfl, J, q1, q2, own_ans I (q3 X.A F.rm I.env0) F.nx⟩
  obtain ⟨m, hF⟩ := I.fr
  cases op with
  | USub =>
    cases dx with
    | obj c fs =>
      obtain ⟨a, ox, od, g, rfl, J, q1, q2, q3⟩ := own "__neg__" c fs rfl e
      exact PySem.W.ksp_neg hF I.ok.mod.kin J q1 q2 q3
    | int i =>
      cases r1
      obtain ⟨e1, e2⟩ := Tr.of_some (show (Tr.of (negD (.int i))).run p = some (d, p') from e)
      cases e1
      subst e2
      exact un_neg pins s σ H _ v Q I rx ⟨i, rfl, kk _ H Ext.refl hP rfl⟩
    | _ => cases e
  | Invert =>
    cases dx with
    | obj c fs =>
      obtain ⟨a, ox, od, g, rfl, J, q1, q2, q3⟩ := own "__invert__" c fs rfl e
      exact PySem.W.ksp_inv hF I.ok.mod.kin J q1 q2 q3
    | _ => cases e
  | _ => cases e
end
end Rc

-- Rd5
set_option Elab.async false
set_option linter.all false
set_option maxRecDepth 100000
set_option maxHeartbeats 4000000
namespace Rc
open PySem PySem.Spec PyProof.Rows L2

/-! ### {k: v for a0 in s0 if .. for a1 in s1 if ..} -/
abbrev dcx (kx vx a0 s0 : Expr) (f0 : List Expr) (a1 s1 : Expr) (f1 : List Expr) (sc : Scope) (ps : Pos) : Expr := .DictComp kx vx [⟨a0, s0, f0, 0⟩, ⟨a1, s1, f1, 0⟩] sc ps
abbrev nev : Value → Shared → Prop := fun _ _ => False
abbrev ifsOk (fs : List Expr) (env : PySem.Env) : Sem Bool := forIn fs true fun q r => if r = true then (do let g ← isTrue q env (eval q env); pure (ForInStep.yield g)) else pure (ForInStep.yield r)
section
variable {P : Program} {w : World} {A : Around} {R : Result → Shared → Prop} {s : Shared} {kx vx a0 s0 a1 s1 : Expr} {f0 f1 : List Expr} {sc : Scope} {ps : Pos} {it : Value} {D : Addr} {env : PySem.Env}
theorem turn_in : compTurn (dcx kx vx a0 s0 f0 a1 s1 f1 sc ps) 1 it (.ref D) env = (standAt s1.pos >>= fun _ => pyNext it >>= fun r => match r with
    | none => pure (.done .next)
    | some v => letOwnedTupleGo a1 it v >>= fun _ => assign a1 env v >>= fun _ => ifsOk f1 env >>= fun b =>
        if b = true then ((eval kx env >>= fun k => holding [k] (eval vx env) >>= fun y => standAt { kx.pos with endLine := vx.pos.endLine, endCol := vx.pos.endCol } >>= fun _ => holding [k, y] (dictSet D k y)) >>= fun _ =>
          again (.compLoop (dcx kx vx a0 s0 f0 a1 s1 f1 sc ps) 1 it (.ref D) env)) else again (.compLoop (dcx kx vx a0 s0 f0 a1 s1 f1 sc ps) 1 it (.ref D) env)) := rfl
theorem turn_out : compTurn (dcx kx vx a0 s0 f0 a1 s1 f1 sc ps) 0 it (.ref D) env = (standAt s0.pos >>= fun _ => pyNext it >>= fun r => match r with
    | none => pure (.done .next)
    | some v => letOwnedTupleGo a0 it v >>= fun _ => assign a0 env v >>= fun _ => ifsOk f0 env >>= fun b =>
        if b = true then (eval s1 env >>= fun x => standAt s1.pos >>= fun _ => foldedSetIterable s1 env x >>= fun x => holding [x] (pyIter x) >>= fun j => runOwn (.compStart (dcx kx vx a0 s0 f0 a1 s1 f1 sc ps) 1 j (.ref D) env) env >>= fun _ =>
          again (.compLoop (dcx kx vx a0 s0 f0 a1 s1 f1 sc ps) 0 it (.ref D) env)) else again (.compLoop (dcx kx vx a0 s0 f0 a1 s1 f1 sc ps) 0 it (.ref D) env)) := rfl
theorem nevR {α : Type} {m : Sem α} {Q Q' : α → Shared → Prop} {E : Value → Shared → Prop} (h : wpAny (model P w) A m Q nev s) (hq : ∀ a z, Q a z → Q' a z) : wpAny (model P w) A m Q' E s := wpAny_mono h hq fun _ _ f => f.elim
/-- the inner clause -/
theorem dcx_in (I : Nat → Shared → Prop)
    (turn : ∀ n z, I n z → wpAny (model P w) A (pyNext it) (fun r z => match r with
      | none => R (.ok .next) z
      | some v => wpAny (model P w) A (letOwnedTupleGo a1 it v) (fun _ z => wpAny (model P w) A (assign a1 env v) (fun _ z => wpAny (model P w) A (ifsOk f1 env) (fun b z =>
          if b = true then wpAny (model P w) A (eval kx env) (fun k z => wpAny (model P w) A (eval vx env) (fun y z => wpAny (model P w) A (dictSet D k y) (fun _ z => ∃ m, m < n ∧ I m z) nev z) nev z) nev z
          else ∃ m, m < n ∧ I m z) nev z) nev z) nev z) nev z) (n : Nat) (h : I n s) :
    codeAny (model P w) A (.compLoop (dcx kx vx a0 s0 f0 a1 s1 f1 sc ps) 1 it (.ref D) env) R s := by
  refine codeAny_loop rfl I (fun n z hI => ?_) n h
  show wpAny _ A ((compTurn (dcx kx vx a0 s0 f0 a1 s1 f1 sc ps) 1 it (.ref D) env).onRaise (fun x => do noteFrame x env; theTreesLotGoes x)) _ _ z
  refine wpAny_noted ?_
  rw [turn_in]
  refine wpAny_bind (wpAny_standAt (wpAny_bind (nevR (turn n z hI) fun r z1 h1 => ?_)))
  cases r with
  | none => exact wpAny_pure h1
  | some v =>
    refine wpAny_bind (nevR h1 fun _ z2 h2 => wpAny_bind (nevR h2 fun _ z3 h3 => wpAny_bind (nevR h3 fun b z4 h4 => ?_)))
    cases b with
    | false => exact wpAny_pure ⟨rfl, h4⟩
    | true =>
      refine wpAny_bind (wpAny_bind (nevR h4 fun k z5 h5 => wpAny_bind (wpAny_holding (nevR h5 fun y z6 h6 => wpAny_bind (wpAny_standAt (wpAny_holding (nevR h6 fun _ z7 h7 => ?_)))))))
      exact wpAny_pure ⟨rfl, h7⟩
/-- the outer clause -/
theorem dcx_out (hs : ∀ x, foldedSetIterable s1 env x = pure x) (I : Nat → Shared → Prop)
    (turn : ∀ n z, I n z → wpAny (model P w) A (pyNext it) (fun r z => match r with
      | none => R (.ok .next) z
      | some v => wpAny (model P w) A (letOwnedTupleGo a0 it v) (fun _ z => wpAny (model P w) A (assign a0 env v) (fun _ z => wpAny (model P w) A (ifsOk f0 env) (fun b z =>
          if b = true then wpAny (model P w) A (eval s1 env) (fun x z => wpAny (model P w) A (pyIter x) (fun j z => codeAny (model P w) A (.compStart (dcx kx vx a0 s0 f0 a1 s1 f1 sc ps) 1 j (.ref D) env) (fun r z => match r with
            | .ok _ => ∃ m, m < n ∧ I m z
            | .error _ => False) z) nev z) nev z
          else ∃ m, m < n ∧ I m z) nev z) nev z) nev z) nev z) (n : Nat) (h : I n s) :
    codeAny (model P w) A (.compLoop (dcx kx vx a0 s0 f0 a1 s1 f1 sc ps) 0 it (.ref D) env) R s := by
  refine codeAny_loop rfl I (fun n z hI => ?_) n h
  show wpAny _ A ((compTurn (dcx kx vx a0 s0 f0 a1 s1 f1 sc ps) 0 it (.ref D) env).onRaise (fun x => do noteFrame x env; theTreesLotGoes x)) _ _ z
  refine wpAny_noted ?_
  rw [turn_out]
  refine wpAny_bind (wpAny_standAt (wpAny_bind (nevR (turn n z hI) fun r z1 h1 => ?_)))
  cases r with
  | none => exact wpAny_pure h1
  | some v =>
    refine wpAny_bind (nevR h1 fun _ z2 h2 => wpAny_bind (nevR h2 fun _ z3 h3 => wpAny_bind (nevR h3 fun b z4 h4 => ?_)))
    cases b with
    | false => exact wpAny_pure ⟨rfl, h4⟩
    | true =>
      refine wpAny_bind (nevR h4 fun x z5 h5 => wpAny_bind (wpAny_standAt (wpAny_bind (wpAny_of_eq (hs x) (wpAny_bind (wpAny_holding (nevR h5 fun j z6 h6 => wpAny_bind (wpAny_runOwn ?_))))))))
      rw [Around.mark_none]
      refine codeAny_mono h6 fun r z7 h7 => ?_
      cases r with
      | ok fl => first | exact wpAny_pure ⟨rfl, h7⟩ | exact wpAny_bind (wpAny_pure (wpAny_pure ⟨rfl, h7⟩))
      | error e => exact h7.elim
/-- the inner clause begins -/
theorem dcx_start (h0 : codeAny (model P w) A (.compLoop (dcx kx vx a0 s0 f0 a1 s1 f1 sc ps) 1 it (.ref D) env) R s)
    (h : wpAny (model P w) A (pyIter it) (fun j z => codeAny (model P w) A (.compLoop (dcx kx vx a0 s0 f0 a1 s1 f1 sc ps) 1 j (.ref D) env) R z) (notedBy (model P w) A env fun x z => R (.error x) z) s) :
    codeAny (model P w) A (.compStart (dcx kx vx a0 s0 f0 a1 s1 f1 sc ps) 1 it (.ref D) env) R s := by
  refine codeAny_of_tree ?_
  show wpAny _ _ ((compStart (dcx kx vx a0 s0 f0 a1 s1 f1 sc ps) 1 it (.ref D) env).onRaise (fun x => do noteFrame x env; standAt theWindowsPlace)) _ _ s
  refine wpAny_notedAt ?_
  unfold compStart
  show wpAny _ _ (ask >>= _) _ _ s
  refine wpAny_bind (wpAny_askSetting (wpAny_ite ?_))
  have last : ∀ j z, codeAny (model P w) A (.compLoop (dcx kx vx a0 s0 f0 a1 s1 f1 sc ps) 1 j (.ref D) env) R z → True := fun _ _ _ => trivial
  split
  · first | exact wpAny_pure ⟨rfl, h0⟩ | exact wpAny_bind (wpAny_pure (wpAny_pure ⟨rfl, h0⟩))
  · refine wpAny_bind (wpAny_rule ?_)
    show wpAny _ _ (standAt s1.pos >>= _) _ _ s
    exact wpAny_bind (wpAny_standAt (wpAny_bind (wpAny_mono h (fun _ _ q => wpAny_pure ⟨rfl, q⟩) fun _ _ q => q)))
end
end Rc

-- Rd6
set_option Elab.async false
set_option linter.all false
set_option maxRecDepth 100000
set_option maxHeartbeats 4000000
namespace Rc
open PySem PySem.Spec PyProof.Rows L2

/-- one clause's turns: from W 0 to Fin, by the walk J; each item is stored by g, then goes through body to the next W -/
def Turns (J : It) (H0 : Hp) (Fin : Hp → Prop) (body : V → Hp → (Hp → Prop) → Prop) : Prop := ∃ W : Nat → Nat → Hp → Prop, (∃ m, W 0 m H0) ∧ ∀ i m H, W i m H →
  (J.stop i H ∧ Fin H) ∨ (J.go i H ∧ ∃ Nx : Hp → Prop, (∀ H', Nx H' → ∃ m', m' < m ∧ W (i + 1) m' H') ∧ ∀ x H', J.yld i H x H' → body x H' Nx)
/-- what is left to a clause's body: store, tests, then the inner part or the next turn -/
def clause (g : TG) (tt : TT) (vs : List Nat) (σ : L2.St) (inner : L2.St → Hp → (Hp → Prop) → Prop) (x : V) (H : Hp) (Nx : Hp → Prop) : Prop :=
  g x (wipe σ vs) H fun σ2 H2 => wipe σ2 vs = wipe σ vs ∧ tt σ2 H2 fun b H3 => if b = true then inner σ2 H3 Nx else Nx H3
def putD1 (tk tv : TE) (D : Addr) (σ : L2.St) (H : Hp) (Nx : Hp → Prop) : Prop :=
  tk σ H fun y H1 => tv σ H1 fun z H2 => ∃ kvs k, y = kV k ∧ H2 D = some (.dK kvs) ∧ kvs.length < sizeLine ∧ Nx (upd H2 D (.dK (putK kvs k z)))
def tDcx (wi : TI) (g : TG) (tt : TT) (wi1 : TI) (g1 : TG) (tt1 : TT) (tk tv : TE) (vs vs1 : List Nat) : TE := fun σ H Q => wi σ H fun J H1 => ∀ D, H1 D = none →
  Turns J (upd H1 D (.dK [])) (Q (.ref D)) (clause g tt vs σ fun σ2 H3 Nx => wi1 σ2 H3 fun J1 H4 => Turns J1 H4 Nx (clause g1 tt1 vs1 σ2 (putD1 tk tv D)))
section
variable {X : Cx}
abbrev InBlk (X : Cx) (sc : Scope) (Pr : Cx → Prop) : Prop := ∀ (s : Shared) (H : Hp) (C : Addr) (cl : List (Str × Addr)) (fp : List Addr), Pr (X.blk s H sc (compEnvC sc cl C X.env) fp)
theorem dcx_core {pins : List (Addr × Obj)} {s : Shared} {σ : L2.St} {H : Hp} {Q : VK} {kx vx a0 s0 a1 s1 : Expr} {f0 f1 : List Expr} {sc : Scope} {own : List (Str × Nat)} {vs1 : List Nat} {ps pp : Pos} {wi wi1 : TI} {g g1 : TG} {tt tt1 : TT} {tk tv : TE} {use : Option (Value → Sem Unit)} {Qf : Value → Shared → Prop}
    (calm : X.calm = true) (nd : X.N.Nodup) (I : Inv X pins σ H s) (hi : PI X a0 s0 wi) (ok : BlkOk X.N X.env.scope sc own) (sub : ∀ i ∈ vs1, i ∈ own.map (·.2))
    (hg : InBlk X sc fun Y => PG Y a0 g) (ht : InBlk X sc fun Y => PTs Y f0 tt) (hi1 : InBlk X sc fun Y => PI Y a1 s1 wi1) (hg1 : InBlk X sc fun Y => PG Y a1 g1) (ht1 : InBlk X sc fun Y => PTs Y f1 tt1) (hk : InBlk X sc fun Y => PE Y kx tk) (hv : InBlk X sc fun Y => PE Y vx tv)
    (hs : ∀ x, foldedSetIterable s0 X.env x = pure x) (hs1 : ∀ env x, foldedSetIterable s1 env x = pure x) (h : tDcx wi g tt wi1 g1 tt1 tk tv (own.map (·.2)) vs1 σ H Q)
    (back : ∀ D C z m H', Inv X pins σ H' z → Q (.ref D) H' → z.heap.Ns C m → FpOk X pins H' C → compPost (model X.prog X.w) X.A X.xe use Qf (.ref D) C (.ok .next) z) :
    wpAny (model X.prog X.w) X.A (comprehension (dcx kx vx a0 s0 f0 a1 s1 f1 sc ps) sc X.env pp newDict false (eval s0 X.env) use) Qf X.xe s := by
  have cells : ∀ y ∈ sc.names, y.2 = .free → ∃ c, X.env.cells.lookup y.1 = some c := fun y hy e => (ok.free y hy e).elim (fun q => I.ok.has _ (.inl q)) fun q => I.ok.has _ (.inr q)
  refine wpAny_comprehension_free (use := use) rfl hs (closure_ok cells) ok.kind (fun y hy e => by rw [ok.uniq y hy, e]) (thn (hi.run pins s σ H _ I h) fun xv z1 q1 => thn q1 fun itv z2 q2 => ?_)
  obtain ⟨it, fp, tn, J, H2, rfl, I2, T, t2, f2, q⟩ := q2
  refine wpAny_newObj_type (newEnv_comp ?_)
  -- D: the new dict; C: the block's names
  generalize eD : z2.heap.objs.size = D
  have nD : H2 D = none := I2.hok.fresh (Nat.le_of_eq eD)
  obtain ⟨W, ⟨m0, w0⟩, turn⟩ := q D nD
  generalize e3 : ({ z2 with heap := z2.heap.push { cls := .type "dict", data := .dict #[] } } : Shared) = z3
  have hp3 : z3.heap = z2.heap.push { cls := .type "dict", data := .dict #[] } := by rw [← e3]
  have I3 : Inv X pins σ (upd H2 D (.dK [])) z3 := by
    rw [← e3]
    refine I2.laid (t' := z2.toks) (fun b o e => Heap.get?_push_of_some _ e) (Nat.le_of_eq eD) ?_
    rw [← eD]
    exact dk_empty z2.heap I2.big
  have f3 : ∀ b ∈ fp, FpOk X pins (upd H2 D (.dK [])) b ∧ b < z3.heap.objs.size := fun b hb => by
    obtain ⟨o, e, _⟩ := T.obj _ _ t2 b hb
    have lt : b < z2.heap.objs.size := Heap.lt_size e
    refine ⟨⟨?_, (f2 b hb).2⟩, by rw [hp3, Heap.size_push]; exact Nat.lt_succ_of_lt lt⟩
    rw [upd_ne (by rw [← eD]; exact Nat.ne_of_lt lt)]
    exact (f2 b hb).1
  have t3 : tn 0 z3.heap := T.keep _ _ _ t2 fun b _ o e => by rw [hp3]; exact Heap.get?_push_of_some _ e
  have I4 := block_start I3 ok nd f3
  generalize eC : z3.heap.objs.size = C at I4 f3 ⊢
  generalize ecl : cellsFrom (C + 1) sc.names (cloFrom X.env.cells sc.names []) = cl at I4 ⊢
  have pg := hg z3 (upd H2 D (.dK [])) C cl fp
  have pt := ht z3 (upd H2 D (.dK [])) C cl fp
  have pi1 := hi1 z3 (upd H2 D (.dK [])) C cl fp
  have pg1 := hg1 z3 (upd H2 D (.dK [])) C cl fp
  have pt1 := ht1 z3 (upd H2 D (.dK [])) C cl fp
  have pk := hk z3 (upd H2 D (.dK [])) C cl fp
  have pv := hv z3 (upd H2 D (.dK [])) C cl fp
  have nfp : ∀ b ∈ fp, (upd H2 D (.dK [])) b = none := fun b hb => (f3 b hb).1.1
  show codeAny _ _ (.compStart (dcx kx vx a0 s0 f0 a1 s1 f1 sc ps) 0 (.ref it) (.ref D) (compEnvC sc cl C X.env)) (compPost (model X.prog X.w) X.A X.xe use Qf (.ref D) C) _
  generalize e4 : ({ z3 with heap := pushCells (z3.heap.push { cls := .type "dict", data := .dict #[] }) sc.names } : Shared) = z4 at I4 ⊢
  have t4 : tn 0 z4.heap := T.keep _ _ _ t3 fun b _ o e => by rw [← e4]; exact pushCells_keeps _ _ _ _ (Heap.get?_push_of_some _ e)
  generalize eb : compEnvC sc cl C X.env = ce at I4 pg pt pi1 pg1 pt1 pk pv ⊢
  have eL : ce.locals = C := by subst eb; rfl
  generalize eH : upd H2 D (.dK []) = H3 at I3 I4 pg pt pi1 pg1 pt1 pk pv w0 nfp f3
  generalize eV : own.map (·.2) = vs at I4 turn sub
  have held : ∀ {σ' : L2.St} {H' : Hp} {z : Shared}, Inv (X.blk z3 H3 sc ce fp) [] σ' H' z → (∀ b ∈ fp, H' b = none) → ∀ b ∈ fp, FpOk (X.blk z3 H3 sc ce fp) [] H' b := fun {σ' H' z} J hn b hb => by
    exact ⟨hn b hb, (J.ok.exf b hb).1, J.ok.exfs b hb, .inl hb, fun x c e => (J.ok.exf b hb).2 x c e, fun p hp => by simp at hp⟩
  have all : codeAny (model X.prog X.w) X.A (.compLoop (dcx kx vx a0 s0 f0 a1 s1 f1 sc ps) 0 (.ref it) (.ref D) ce) (compPost (model X.prog X.w) X.A X.xe use Qf (.ref D) C) z4 := by
    refine dcx_out (hs1 ce) (fun n z => ∃ i H', Inv (X.blk z3 H3 sc ce fp) [] (wipe σ vs) H' z ∧ tn i z.heap ∧ (∀ b ∈ fp, H' b = none) ∧ W i n H') ?_ m0 ⟨0, H3, I4, t4, nfp, w0⟩
    rintro n z5 ⟨i, H5, I5, t5, n5, w5⟩
    rcases turn i n H5 w5 with ⟨stop, fin⟩ | ⟨go, Nx, hNx, step⟩
    · have td := T.done (X.blk z3 H3 sc ce fp) rfl rfl rfl calm i [] z5 _ H5 nev I5 (held I5 n5) t5 stop
      refine nevR td fun r z6 ⟨hr, I6⟩ => ?_
      subst hr
      have I7 : Inv X pins σ H5 z6 := by
            exact I3.call' (ch := fp) I6.os I6.base I6.hok I6.bare fun b hb => ⟨(f3 b hb).1.2.2.2.1, (f3 b hb).1.2.1, (f3 b hb).1.2.2.2.2.1, (f3 b hb).1.2.2.2.2.2⟩
      have nC : H5 C = none := by
        have q : H5 ce.locals = none := I6.free
        rw [eL] at q
        exact q
      obtain ⟨m, hn, _⟩ := I6.loc
      have hn : z6.heap.Ns ce.locals m := hn
      rw [eL] at hn
      exact back D C z6 m H5 I7 fin hn (I3.fpOk (Nat.le_of_eq eC) nC)
    · have ti := T.item (X.blk z3 H3 sc ce fp) rfl rfl rfl calm i [] z5 _ H5 nev I5 (held I5 n5) t5 go
      refine nevR ti fun r z6 ⟨u, hr, h6⟩ => ?_
      subst hr
      refine nevR h6 fun _ z7 ⟨x, H7, I7, r7, y7, t7, n7⟩ => ?_
      have I7' := I7.pinned (held I7 n7) (T.obj _ _ t7)
      refine nevR (pg.run _ z7 _ H7 x u _ I7' r7 (step x H7 y7)) fun _ z8 ⟨σ8, H8, I8, w8, q8⟩ => ?_
      refine nevR (pt.run _ z8 σ8 H8 _ I8 q8) fun b z9 ⟨H9, I9, q9⟩ => ?_
      have len8 : (wipe σ vs).length = σ8.length := by rw [← w8, wipe_length]
      have keep8 : ∀ (j : Nat) v, (wipe σ vs)[j]? = some (some v) → σ8[j]? = some (some v) ∧ (wipe σ8 vs1)[j]? = some (some v) := fun j v e => by
        rw [← w8] at e
        obtain ⟨g1, g2⟩ := wipe_some e
        exact ⟨g1, by rw [L2.wipe_out fun m => g2 (sub j m)]; exact g1⟩
      have next : ∀ {τ : L2.St} {z : Shared} {H' : Hp}, Inv (X.blk z3 H3 sc ce fp) ([] ++ pinsAt fp z7.heap) τ H' z → (wipe σ vs).length = τ.length → (∀ (j : Nat) v, (wipe σ vs)[j]? = some (some v) → τ[j]? = some (some v)) → Nx H' →
          ∃ m, m < n ∧ ∃ i H', Inv (X.blk z3 H3 sc ce fp) [] (wipe σ vs) H' z ∧ tn i z.heap ∧ (∀ b ∈ fp, H' b = none) ∧ W i m H' := fun {τ z H'} J hl hk nx => by
        obtain ⟨m, hm, wm⟩ := hNx H' nx
        have pin : ∀ b ∈ fp, ∀ o, z7.heap.get? b = some o → z.heap.get? b = some o ∧ H' b = none := fun b hb o e => by
          have y := J.pin (b, o) (List.mem_append_right _ (List.mem_append_right _ (mem_pinsAt hb e)))
          exact ⟨y.1, y.2.1⟩
        refine ⟨m, hm, i + 1, H', (J.unpinned (pins := [])).weak hl hk, T.keep _ _ _ t7 fun b hb o e => (pin b hb o e).1, fun b hb => ?_, wm⟩
        obtain ⟨o, e, _⟩ := T.obj _ _ t7 b hb
        exact (pin b hb o e).2
      cases b with
      | false => exact next I9 len8 (fun j v e => (keep8 j v e).1) q9
      | true =>
        refine nevR (pi1.run _ z9 σ8 H9 _ I9 q9) fun xv1 zA qA => nevR qA fun jv zB qB => ?_
        obtain ⟨it1, fp1, tn1, J1, HB, rfl, IB, T1, tB, fB, W1, ⟨m1, w1⟩, turn1⟩ := qB
        have held1 : ∀ {H' : Hp}, (∀ b ∈ fp1, H' b = none) → ∀ b ∈ fp1, FpOk (X.blk z3 H3 sc ce fp) ([] ++ pinsAt fp z7.heap) H' b := fun hn b hb => ⟨hn b hb, (fB b hb).2⟩
        have inner : codeAny (model X.prog X.w) X.A (.compLoop (dcx kx vx a0 s0 f0 a1 s1 f1 sc ps) 1 (.ref it1) (.ref D) ce) (fun r z => match r with
            | .ok _ => ∃ m, m < n ∧ ∃ i H', Inv (X.blk z3 H3 sc ce fp) [] (wipe σ vs) H' z ∧ tn i z.heap ∧ (∀ b ∈ fp, H' b = none) ∧ W i m H'
            | .error _ => False) zB := by
          refine dcx_in (fun k z => ∃ j H', Inv (X.blk z3 H3 sc ce fp) ([] ++ pinsAt fp z7.heap) (wipe σ8 vs1) H' z ∧ tn1 j z.heap ∧ (∀ b ∈ fp1, H' b = none) ∧ W1 j k H') ?_ m1 ⟨0, HB, IB.weak (wipe_length _ _) (fun j v e => (wipe_some e).1), tB, fun b hb => (fB b hb).1, w1⟩
          rintro k zC ⟨j, HC, IC, tC, nC, wC⟩
          rcases turn1 j k HC wC with ⟨stop1, fin1⟩ | ⟨go1, Nx1, hNx1, step1⟩
          · refine nevR (T1.done (X.blk z3 H3 sc ce fp) rfl rfl rfl calm j _ zC (wipe σ8 vs1) HC nev IC (held1 nC) tC stop1) fun r zD ⟨hr, ID⟩ => ?_
            subst hr
            exact next ID (len8.trans (wipe_length σ8 vs1).symm) (fun j v e => (keep8 j v e).2) fin1
          · refine nevR (T1.item (X.blk z3 H3 sc ce fp) rfl rfl rfl calm j _ zC (wipe σ8 vs1) HC nev IC (held1 nC) tC go1) fun r zD ⟨u1, hr, hD⟩ => ?_
            subst hr
            refine nevR hD fun _ zE ⟨x1, HE, IE, rE, yE, tE, nE⟩ => ?_
            have IE' := IE.pinned (held1 nE) (T1.obj _ _ tE)
            refine nevR (pg1.run _ zE (wipe σ8 vs1) HE x1 u1 _ IE' rE (step1 x1 HE yE)) fun _ zF ⟨σF, HF, IF, wF, qF⟩ => ?_
            refine nevR (pt1.run _ zF σF HF _ IF qF) fun b1 zG ⟨HG, IG, qG⟩ => ?_
            have next1 : ∀ {z : Shared} {H' : Hp}, Inv (X.blk z3 H3 sc ce fp) (([] ++ pinsAt fp z7.heap) ++ pinsAt fp1 zE.heap) σF H' z → Nx1 H' →
                ∃ m, m < k ∧ ∃ j H', Inv (X.blk z3 H3 sc ce fp) ([] ++ pinsAt fp z7.heap) (wipe σ8 vs1) H' z ∧ tn1 j z.heap ∧ (∀ b ∈ fp1, H' b = none) ∧ W1 j m H' := fun {z H'} J nx => by
              obtain ⟨m, hm, wm⟩ := hNx1 H' nx
              have pin : ∀ b ∈ fp1, ∀ o, zE.heap.get? b = some o → z.heap.get? b = some o ∧ H' b = none := fun b hb o e => by
                have y := J.pin (b, o) (List.mem_append_right _ (List.mem_append_right _ (mem_pinsAt hb e)))
                exact ⟨y.1, y.2.1⟩
              refine ⟨m, hm, j + 1, H', J.unpinned.weak (by rw [← wF, wipe_length]) (fun j v e => by rw [← wF] at e; exact (wipe_some e).1), T1.keep _ _ _ tE fun b hb o e => (pin b hb o e).1, fun b hb => ?_, wm⟩
              obtain ⟨o, e, _⟩ := T1.obj _ _ tE b hb
              exact (pin b hb o e).2
            cases b1 with
            | false => exact next1 IG qG
            | true =>
              refine nevR (pk.run _ zG σF HG _ IG qG) fun ku zH ⟨yk, HH, IH, rH, qH⟩ => ?_
              refine nevR (pv.run _ zH σF HH _ IH qH) fun vu zI ⟨yv, HI, II, rI, kvs, kk, ek, hDI, hz, nx⟩ => ?_
              subst ek
              exact d_dictSet (X := X.blk z3 H3 sc ce fp) II hDI hz rH rI fun zJ IJ => next1 IJ nx
        exact dcx_start inner (T1.self X.A 0 _ _ _ tB inner)
  exact codeAny_compStart_dict all (T.self X.A 0 _ _ _ t4 all)
end
end Rc
namespace Rc
open PySem PySem.Spec PyProof.Rows L2
section
variable {X : Cx}
theorem swD_true {kx vx : Expr} {gs : List Comprehension} {sc : Scope} {pos py : Pos} {y : Str} {l : Nat} {env : PySem.Env} (fk : env.scope.kind = .function) (yl : env.scope.names.lookup y = some .local) (el : (py.line == pos.line) = true)
    (fr : (sc.names.any fun (n, k) => n == y && (k == .local || k == .cell)) = false) : swapsWith (.DictComp kx vx gs sc pos) (some (.Name y py)) l env = pure true := by
  have k1 : env.kindOf y = some .local := yl
  have k2 : env.blockKind = .function := by unfold PySem.Env.blockKind; rw [fk]; rfl
  unfold swapsWith
  simp only [k2, k1, fr, Expr.pos, el]
  rfl
theorem ps_setDcx {i : Nat} {y : Str} {py : Pos} {kx vx a0 s0 a1 s1 : Expr} {f0 f1 : List Expr} {sc : Scope} {own : List (Str × Nat)} {vs1 : List Nat} {ps sp : Pos} {wi wi1 : TI} {g g1 : TG} {tt tt1 : TT} {tk tv : TE}
    (calm : X.calm = true) (nd : X.N.Nodup) (hy : X.N[i]? = some y) (yl : X.env.scope.names.lookup y = some .local) (sw : swapsWith (dcx kx vx a0 s0 f0 a1 s1 f1 sc ps) (some (.Name y py)) sp.line X.env = pure true)
    (hi : PI X a0 s0 wi) (ok : BlkOk X.N X.env.scope sc own) (sub : ∀ i ∈ vs1, i ∈ own.map (·.2))
    (hg : InBlk X sc fun Y => PG Y a0 g) (ht : InBlk X sc fun Y => PTs Y f0 tt) (hi1 : InBlk X sc fun Y => PI Y a1 s1 wi1) (hg1 : InBlk X sc fun Y => PG Y a1 g1) (ht1 : InBlk X sc fun Y => PTs Y f1 tt1) (hk : InBlk X sc fun Y => PE Y kx tk) (hv : InBlk X sc fun Y => PE Y vx tv)
    (hs : ∀ x, foldedSetIterable s0 X.env x = pure x) (hs1 : ∀ env x, foldedSetIterable s1 env x = pure x) :
    PS X (.Assign [.Name y py] (dcx kx vx a0 s0 f0 a1 s1 f1 sc ps) sp) (tAsg (tDcx wi g tt wi1 g1 tt1 tk tv (own.map (·.2)) vs1) (gName i)) := by
  refine ⟨fun pins s σ H E I h => ?_⟩
  rw [exec_Assign_Name_used _ _ _ _ sw]
  refine wpAny_bind (wpAny_standAt (wpAny_bind ?_))
  show wpAny _ X.A (comprehension (dcx kx vx a0 s0 f0 a1 s1 f1 sc ps) sc X.env (firstIterPos [⟨a0, s0, f0, 0⟩, ⟨a1, s1, f1, 0⟩] ps) newDict false (eval s0 X.env) (some (assign (.Name y py) X.env)) >>= _) _ _ s
  have h : tDcx wi g tt wi1 g1 tt1 tk tv (own.map (·.2)) vs1 σ H (fun x H1 => gName i x σ H1 E.nx) := h
  refine wpAny_bind (thn (dcx_core (Qf := fun _ z => SP X pins E .next z) calm nd I hi ok sub hg ht hi1 hg1 ht1 hk hv hs hs1 h fun D C z m H' J q hn f => ?_) fun _ z hq => wpAny_pure (wpAny_pure hq))
  show wpAny _ _ (assign (.Name y py) X.env (.ref D)) _ _ _
  refine wpAny_assign_Name (store_ok2 (v := V.ref D) J nd hy (.inl yl) rfl (fun z2 J2 ⟨a, sb, ha⟩ => ?_) (.inr yl))
  obtain ⟨p0, p1, p2, p3, p4, p5⟩ := f
  have ne : C ≠ a := by
    rcases ha with e | e
    · rw [e]; exact p1
    · exact fun e2 => p4 y a e e2.symm
  exact ⟨m, hn.sameBut sb ne, fun h3 sb3 => ⟨_, H', J2.turned (t' := z2.toks) (fun b o hb e => (sb3.2 b hb).trans e) p0 p1 p3 p4 p5, q⟩⟩
end
end Rc

-- Rd7
set_option Elab.async false
set_option linter.all false
set_option maxRecDepth 100000
set_option maxHeartbeats 4000000
namespace Rc
open PySem PySem.Spec PyProof.Rows L2

/-! ### dicts of data -/
abbrev Kvs := List (L2.Key × D)
def keyD : D → Option L2.Key
  | .int i => some (.inl i)
  | .str x => some (.inr x)
  | _ => none
def putKD (a : Kvs) (k : L2.Key) (d : D) : Kvs := if (a.any fun kv => decide (kv.1 = k)) = true then a.map (fun kv => if kv.1 = k then (kv.1, d) else kv) else a ++ [(k, d)]
section
variable {K : PySem.W.Frag} {pa : Option Addr} {M M' : Ms} {H H' : Hp}
theorem RepK.any {k : L2.Key} : ∀ {a : Kvs} {ws : List (L2.Key × V)}, RepK K pa M H a ws → (a.any fun kv => decide (kv.1 = k)) = ws.any fun kv => decide (kv.1 = k)
  | [], _, h => by cases h; rfl
  | q :: a, _, ⟨v, r, e, _, h1, h2⟩ => by subst e; simp only [List.any_cons]; rw [RepK.any h2]
theorem RepK.mapv {k : L2.Key} {d : D} {v : V} (hr : Rep K pa M H d v) : ∀ {a : Kvs} {ws : List (L2.Key × V)}, RepK K pa M H a ws → RepK K pa M H (a.map fun kv => if kv.1 = k then (kv.1, d) else kv) (ws.map fun kv => if kv.1 = k then (kv.1, v) else kv)
  | [], _, h => by cases h; rfl
  | q :: a, _, ⟨u, r, e, h0, h1, h2⟩ => by
    subst e
    simp only [List.map_cons]
    by_cases z : q.1 = k
    · rw [if_pos z, if_pos z]; exact ⟨v, _, rfl, h0, hr, RepK.mapv hr h2⟩
    · rw [if_neg z, if_neg z]; exact ⟨u, _, rfl, h0, h1, RepK.mapv hr h2⟩
theorem RepK.append1 {k : L2.Key} {d : D} {v : V} (hk : keyOk k) (hr : Rep K pa M H d v) : ∀ {a : Kvs} {ws : List (L2.Key × V)}, RepK K pa M H a ws → RepK K pa M H (a ++ [(k, d)]) (ws ++ [(k, v)])
  | [], _, h => by cases h; exact ⟨v, [], rfl, hk, hr, rfl⟩
  | q :: a, _, ⟨u, r, e, h0, h1, h2⟩ => by subst e; exact ⟨u, _, rfl, h0, h1, RepK.append1 hk hr h2⟩
theorem RepK.put {k : L2.Key} {d : D} {v : V} {a : Kvs} {ws : List (L2.Key × V)} (hk : keyOk k) (hr : Rep K pa M H d v) (h : RepK K pa M H a ws) : RepK K pa M H (putKD a k d) (putK ws k v) := by
  unfold putKD putK
  rw [h.any (k := k)]
  split
  · exact h.mapv hr
  · exact h.append1 hk hr
theorem RepK.len : ∀ {a : Kvs} {ws : List (L2.Key × V)}, RepK K pa M H a ws → a.length = ws.length
  | [], _, h => by cases h; rfl
  | _ :: _, _, ⟨v, r, e, _, _, h2⟩ => by subst e; simp [RepK.len h2]
theorem keyD_ok {d : D} {v : V} {k : L2.Key} (h : keyD d = some k) (r : Rep K pa M H d v) : v = kV k ∧ keyOk k := by
  cases d with
  | int i => cases h; cases r; exact ⟨rfl, trivial⟩
  | str x => cases h; obtain ⟨rfl, o⟩ := r; exact ⟨rfl, o⟩
  | _ => cases h
end
theorem turns_of {J : It} {n : Nat} {G : Hp → Prop} {Y : Nat → Hp → V → Hp → Prop} {H0 : Hp} {Fin : Hp → Prop} {body : V → Hp → (Hp → Prop) → Prop} (wk : Walk J n G Y) (Pv : Nat → Hp → Prop) (h0 : Pv 0 H0) (hG : ∀ i H, i ≤ n → Pv i H → G H)
    (step : ∀ i x H H', i < n → Pv i H → Y i H x H' → body x H' (Pv (i + 1))) (fin : ∀ H, Pv n H → Fin H) : Turns J H0 Fin body := by
  refine ⟨fun i m H => m = n - i ∧ i ≤ n ∧ Pv i H, ⟨n, by simp, Nat.zero_le _, h0⟩, fun i m H ⟨em, hi, pv⟩ => ?_⟩
  have q := hG i H hi pv
  rcases Nat.lt_or_ge i n with lt | ge
  · exact .inr ⟨wk.goes i H lt q, Pv (i + 1), fun H' p' => ⟨n - (i + 1), by omega, rfl, lt, p'⟩, fun x H' y => step i x H H' lt pv (wk.yields i H x H' lt q y)⟩
  · have e : i = n := Nat.le_antisymm hi ge
    subst e
    exact .inl ⟨wk.stops H q, fin H pv⟩
abbrev DcIn := List D → Kvs → Pot → Option (Kvs × Pot)
def dcIn (g : D → Option Env) (c : EvT) (k v : EvF) : DcIn
  | [], a, p => some (a, p)
  | d :: ds, a, p => (g d).bind fun e => (c e p).bind fun b => if b.1 then (k e b.2).bind fun x => (v e x.2).bind fun y => (keyD x.1).bind fun q => if a.length < sizeLine then dcIn g c k v ds (putKD a q y.1) y.2 else none else dcIn g c k v ds a b.2
def dcOut (g : D → Option Env) (c : EvT) (f : EvA) (inn : Env → DcIn) : DcIn
  | [], a, p => some (a, p)
  | d :: ds, a, p => (g d).bind fun e => (c e p).bind fun b => if b.1 then (f e b.2).bind fun r => (inn e r.1 a r.2).bind fun q => dcOut g c f inn ds q.1 q.2 else dcOut g c f inn ds a b.2
def evDc (t0 : Tg) (vs : List Nat) (f : EvA) (c : EvT) (t1 : Tg) (vs1 : List Nat) (f1 : EvA) (c1 : EvT) (k v : EvF) : Env → Pot → Option (Kvs × Pot) := fun env p => (f env p).bind fun r =>
  dcOut (fun d => setT t0 d (wipeE env vs)) c f1 (fun e => dcIn (fun d => setT t1 d (wipeE e vs1)) c1 k v) r.1 [] r.2
def tDic (K : PySem.W.Frag) (f : Env → Pot → Option (Kvs × Pot)) : TE := fun σ H Q => ∃ pa M env p kvs p', EnvOk K pa M H σ env ∧ PotOk pa M H p ∧ f env p = some (kvs, p') ∧
  ∀ a ws H', Ext pa H H' → PotOk pa M H' p' → H a = none → H' a = some (.dK ws) → RepK K pa (Ins M a) H' kvs ws → Q (.ref a) H'
theorem drop_head {ds : List D} {i : Nat} {d : D} (hi : i < ds.length) (h : ds[i]? = some d) : ds.drop i = d :: ds.drop (i + 1) := by
  rw [List.drop_eq_getElem_cons hi]
  rw [List.getElem?_eq_getElem hi] at h
  rw [Option.some.inj h]
theorem dcx_of {K : PySem.W.Frag} {t0 t1 : Tg} {vs vs1 : List Nat} {f f1 : EvA} {c c1 : EvT} {k v : EvF} (sub : ∀ j ∈ slotsT t0, j ∈ vs) (sub1 : ∀ j ∈ slotsT t1, j ∈ vs1) {σ : L2.St} {H : Hp} {Q : VK} (h : tDic K (evDc t0 vs f c t1 vs1 f1 c1 k v) σ H Q) :
    tDcx (tI K f) (tG K (slotsT t0) (setT t0)) (tB K c) (tI K f1) (tG K (slotsT t1) (setT t1)) (tB K c1) (tE K k) (tE K v) vs vs1 σ H Q := by
  obtain ⟨pa, M, env, p, res, pE, hE, hP, hf, kk⟩ := h
  unfold evDc at hf
  obtain ⟨⟨ds, p1⟩, e1, e2⟩ := Option.bind_eq_some_iff.mp hf
  refine ⟨pa, M, env, p, ds, p1, hE, hP, e1, fun J H1 x1 k1 ⟨G, Y, wk, hG, hY⟩ D0 hD => ?_⟩
  have E1 := hE.ext x1 hP k1
  have nD : pa ≠ some D0 := fun z => by rw [(k1 D0 z).2] at hD; cases hD
  -- the state at a turn
  let St : DcIn → List D → Hp → (Kvs × Pot) → Prop := fun go rest H' out => ∃ a ws p', Ext pa H1 H' ∧ PotOk pa M H' p' ∧ H' D0 = some (.dK ws) ∧ RepK K pa (Ins M D0) H' a ws ∧ go rest a p' = some out
  refine turns_of wk (fun i H' => St (dcOut (fun d => setT t0 d (wipeE env vs)) c f1 (fun e => dcIn (fun d => setT t1 d (wipeE e vs1)) c1 k v)) (ds.drop i) H' (res, pE)) ?_ ?_ ?_ ?_
  · have s1 : Same H1 (upd H1 D0 (.dK [])) := Same.upd hD
    exact ⟨[], [], p1, Ext.same s1, k1.same s1, upd_same, rfl, by simpa using e2⟩
  · rintro i H' _ ⟨a, ws, p', x', k', hd, _⟩
    exact hG _ H' (up_new k1 hD x')
  · rintro i x H' H'' hi ⟨a, ws, p', x', k', hd, hr, hg⟩ y
    have EN := E1.new k1 hD x' k' (by rw [hd]; rfl)
    obtain ⟨sm, d, hdi, hR⟩ := hY _ H' i x H'' (up_new k1 hD x') EN.dom hi y
    have k2 : PotOk pa (Ins M D0) H' p' := k'.ins
    have E2 := EN.ext (Ext.same sm) k2 (k2.same sm)
    rw [drop_head hi hdi] at hg
    simp only [dcOut] at hg
    obtain ⟨env1, g1, g2⟩ := Option.bind_eq_some_iff.mp hg
    obtain ⟨⟨b1, p2⟩, g3, g4⟩ := Option.bind_eq_some_iff.mp g2
    refine ⟨pa, Ins M D0, wipeE env vs, d, env1, E2.wipe vs, hR, g1, fun σ2 s2 _ ag => ⟨wipe_agree sub ag, ?_⟩⟩
    refine ⟨pa, Ins M D0, env1, p', b1, p2, s2, k2.same sm, g3, fun H3 x3 k3 => ?_⟩
    have x3' : Ext pa H1 H3 := (x'.trans (Ext.same sm)).trans x3
    have hd3 : H3 D0 = some (.dK ws) := x3 _ _ nD (sm _ _ hd)
    have r3 : RepK K pa (Ins M D0) H3 a ws := RepK.up ((Up.same sm).trans (x3.up (k2.same sm))) hr
    have k3' : PotOk pa M H3 p2 := fun a z => ⟨(k1 a z).1, (k3 a z).2⟩
    have s3 := s2.ext x3 (k2.same sm) k3
    cases b1 with
    | false => exact ⟨a, ws, p2, x3', k3', hd3, r3, by simpa using g4⟩
    | true =>
      dsimp only at g4
      rw [if_pos rfl] at g4
      obtain ⟨⟨es, p3⟩, g5, g6⟩ := Option.bind_eq_some_iff.mp g4
      obtain ⟨⟨a2, p4⟩, g7, g8⟩ := Option.bind_eq_some_iff.mp g6
      show tI K f1 σ2 H3 _
      refine ⟨pa, Ins M D0, env1, p2, es, p3, s3, k3, g5, fun J1 H4 x4 k4 ⟨G1, Y1, wk1, hG1, hY1⟩ => ?_⟩
      have s4 := s3.ext x4 k3 k4
      refine turns_of wk1 (fun j H' => (∀ a o, pa ≠ some a → a ≠ D0 → H4 a = some o → H' a = some o) ∧ St (dcIn (fun d => setT t1 d (wipeE env1 vs1)) c1 k v) (es.drop j) H' (a2, p4)) ?_ ?_ ?_ ?_
      · exact ⟨fun _ _ _ _ q => q, a, ws, p3, x3'.trans x4, fun a z => ⟨(k1 a z).1, (k4 a z).2⟩, x4 _ _ nD hd3, RepK.up (x4.up k3) r3, by simpa using g7⟩
      · rintro j H' _ ⟨xo, b, us, q', x', k', _⟩
        refine hG1 (Ins M D0) H' fun a o n q => ⟨n, xo a o (fun z => n (k4 a z).1) (fun z => n (.inr z)) q⟩
      · rintro j y H5 H6 hj ⟨xo, b, us, q', x5, k5, hd5, r5, g9⟩ yy
        have k5i : PotOk pa (Ins M D0) H5 q' := k5.ins
        have u45 : Up (Ins M D0) H4 (Ins M D0) H5 := fun a o n q => ⟨n, xo a o (fun z => n (k4 a z).1) (fun z => n (.inr z)) q⟩
        have s5 : EnvOk K pa (Ins M D0) H5 σ2 env1 := by
          refine ⟨fun i ev q => ?_, s4.inj, fun a m => ?_, s4.len⟩
          · obtain ⟨u, q1, q2⟩ := s4.slot i ev q
            obtain ⟨u0, q3, q4⟩ := s2.slot i ev q
            rw [q1] at q3
            cases q3
            refine ⟨u, q1, ?_⟩
            cases ev with
            | dat d => exact Rep.up u45 q2
            | own ds' =>
              obtain ⟨a', xs', e', m', n', t', r'⟩ := q2
              refine ⟨a', xs', e', m', n', xo a' _ n' (fun z => ?_) t', Reps.up u45 r'⟩
              rw [z] at t'
              have := x4 _ _ nD hd3
              rw [t'] at this; cases this
            | slf c' fs' =>
              obtain ⟨a', dx', ws', e', m', n', t', r'⟩ := q2
              refine ⟨a', dx', ws', e', m', n', xo a' _ n' (fun z => ?_) t', RepF.up u45 r'⟩
              rw [z] at t'
              have := x4 _ _ nD hd3
              rw [t'] at this; cases this
          · by_cases z : a = D0
            · rw [z, hd5]; rfl
            · by_cases zp : pa = some a
              · rw [(k5 a zp).2]; rfl
              · obtain ⟨o, q⟩ := Option.isSome_iff_exists.mp (s4.dom a m)
                rw [xo a o zp z q]; rfl
        obtain ⟨sm1, d1, hdj, hR1⟩ := hY1 _ H5 j y H6 u45 s5.dom hj yy
        have s6 := s5.ext (Ext.same sm1) k5i (k5i.same sm1)
        rw [drop_head hj hdj] at g9
        simp only [dcIn] at g9
        obtain ⟨env2, h1, h2⟩ := Option.bind_eq_some_iff.mp g9
        obtain ⟨⟨b2, p5⟩, h3, h4⟩ := Option.bind_eq_some_iff.mp h2
        refine ⟨pa, Ins M D0, wipeE env1 vs1, d1, env2, s6.wipe vs1, hR1, h1, fun σ3 s7 _ ag1 => ⟨wipe_agree sub1 ag1, ?_⟩⟩
        refine ⟨pa, Ins M D0, env2, q', b2, p5, s7, k5i.same sm1, h3, fun H7 x7 k7 => ?_⟩
        have s8 := s7.ext x7 (k5i.same sm1) k7
        have xo7 : ∀ a o, pa ≠ some a → a ≠ D0 → H4 a = some o → H7 a = some o := fun a o n1 n2 q => x7 a o n1 (sm1 a o (xo a o n1 n2 q))
        have x57 : Ext pa H1 H7 := (x5.trans (Ext.same sm1)).trans x7
        have hd7 : H7 D0 = some (.dK us) := x7 _ _ nD (sm1 _ _ hd5)
        have r7 : RepK K pa (Ins M D0) H7 b us := RepK.up ((Up.same sm1).trans (x7.up (k5i.same sm1))) r5
        cases b2 with
        | false => exact ⟨xo7, b, us, p5, x57, fun a z => ⟨(k1 a z).1, (k7 a z).2⟩, hd7, r7, by simpa using h4⟩
        | true =>
          dsimp only at h4
          rw [if_pos rfl] at h4
          obtain ⟨⟨kx, p6⟩, h5, h6⟩ := Option.bind_eq_some_iff.mp h4
          obtain ⟨⟨vx, p7⟩, h7, h8⟩ := Option.bind_eq_some_iff.mp h6
          obtain ⟨key, h9, hA⟩ := Option.bind_eq_some_iff.mp h8
          dsimp only at hA
          split at hA
          rotate_left
          · cases hA
          rename_i hl
          dsimp only
          rw [if_pos rfl]
          refine ⟨pa, Ins M D0, env2, p5, kx, p6, s8, k7, h5, fun kv H8 x8 k8 r8 => ?_⟩
          refine ⟨pa, Ins M D0, env2, p6, vx, p7, s8.ext x8 k7 k8, k8, h7, fun vv H9 x9 k9 r9 => ?_⟩
          have hd9 : H9 D0 = some (.dK us) := x9 _ _ nD (x8 _ _ nD hd7)
          have rb : RepK K pa (Ins M D0) H9 b us := RepK.up ((x8.up k7).trans (x9.up k8)) r7
          have uD : Up (Ins M D0) H9 (Ins M D0) (upd H9 D0 (.dK (putK us key vv))) := fun a o n q => ⟨n, by rw [upd_ne (fun z => n (.inr z))]; exact q⟩
          refine ⟨us, key, (keyD_ok h9 r8).1, hd9, by rw [← rb.len]; exact hl, fun a o n1 n2 q => ?_, putKD b key vx, putK us key vv, p7, fun a o n1 q => ?_, fun a z => ?_, upd_same, RepK.up uD (RepK.put (keyD_ok h9 r8).2 r9 rb), hA⟩
          · rw [upd_ne n2]; exact x9 a o n1 (x8 a o n1 (xo7 a o n1 n2 q))
          · rw [upd_ne (fun z => by rw [z, hD] at q; cases q)]
            exact x9 a o n1 (x8 a o n1 (x57 a o n1 q))
          · refine ⟨(k1 a z).1, ?_⟩
            rw [upd_ne (fun (y : a = D0) => nD (by rw [← y]; exact z))]
            exact (k9 a z).2
      · rintro H' ⟨xo, b, us, q', x5, k5, hd5, r5, g9⟩
        rw [List.drop_length] at g9
        cases g9
        exact ⟨_, us, _, x5, k5, hd5, r5, g8⟩
  · rintro H' ⟨a, ws, p', x', k', hd, hr, hg⟩
    rw [List.drop_length] at hg
    cases hg
    have h0 : H D0 = none := by
      cases z : H D0 with
      | none => rfl
      | some o => rw [x1 D0 o nD z] at hD; cases hD
    exact kk D0 ws H' (x1.trans x') k' h0 hd hr
end Rc

-- Rd8
set_option Elab.async false
set_option linter.all false
set_option maxRecDepth 100000
set_option maxHeartbeats 4000000
namespace Rc
open PySem PySem.Spec PyProof.Rows L2

/-! ### sorting data: ints, texts -/
def insB {α : Type} (lt : α → α → Bool) (x : α) : List α → List α
  | [] => [x]
  | y :: r => if lt y x then y :: insB lt x r else x :: y :: r
def sortB {α : Type} (lt : α → α → Bool) : List α → List α
  | [] => []
  | x :: r => insB lt x (sortB lt r)
/-- a strict order in which two that are not apart are one -/
structure Lin {α : Type} (lt : α → α → Bool) : Prop where
  asym : ∀ x y, lt x y = true → lt y x = false
  tot : ∀ x y, lt x y = false → lt y x = false → x = y
  tr : ∀ x y z, lt y x = false → lt z y = false → lt z x = false
abbrev Up1 {α : Type} (lt : α → α → Bool) (l : List α) : Prop := l.Pairwise fun x y => lt y x = false
section
variable {α : Type} {lt : α → α → Bool}
theorem insB_perm (x : α) : ∀ l, (insB lt x l).Perm (x :: l)
  | [] => List.Perm.refl _
  | y :: r => by
    unfold insB
    split
    · exact ((insB_perm x r).cons y).trans (List.Perm.swap x y r)
    · exact List.Perm.refl _
theorem sortB_perm : ∀ l : List α, (sortB lt l).Perm l
  | [] => List.Perm.refl _
  | x :: r => (insB_perm x _).trans ((sortB_perm r).cons x)
theorem insB_up (O : Lin lt) (x : α) : ∀ {l}, Up1 lt l → Up1 lt (insB lt x l)
  | [], _ => List.pairwise_singleton _ _
  | y :: r, h => by
    unfold insB
    obtain ⟨h1, h2⟩ := List.pairwise_cons.mp h
    split
    · rename_i q
      refine List.pairwise_cons.mpr ⟨fun z hz => ?_, insB_up O x h2⟩
      rcases List.mem_cons.mp ((insB_perm x r).mem_iff.mp hz) with e | e
      · rw [e]; exact O.asym _ _ q
      · exact h1 z e
    · rename_i q
      have q' : lt y x = false := by simpa using q
      refine List.pairwise_cons.mpr ⟨fun z hz => ?_, h⟩
      rcases List.mem_cons.mp hz with e | e
      · rw [e]; exact q'
      · exact O.tr x y z q' (h1 z e)
theorem sortB_up (O : Lin lt) : ∀ l : List α, Up1 lt (sortB lt l)
  | [] => .nil
  | x :: r => insB_up O x (sortB_up O r)
theorem up_uniq (O : Lin lt) : ∀ {l m : List α}, l.Perm m → Up1 lt l → Up1 lt m → l = m
  | [], m, h, _, _ => (List.Perm.eq_nil h.symm).symm
  | x :: l, [], h, _, _ => absurd h.length_eq (by simp)
  | x :: l, y :: m, h, hl, hm => by
    have e : x = y := by
      have h1 : lt x y = false := by
        rcases List.mem_cons.mp (h.mem_iff.mp List.mem_cons_self) with e | e
        · rw [e]
          cases q : lt y y with
          | false => rfl
          | true => have := O.asym _ _ q; rw [q] at this; cases this
        · exact (List.pairwise_cons.mp hm).1 x e
      have h2 : lt y x = false := by
        rcases List.mem_cons.mp (h.symm.mem_iff.mp List.mem_cons_self) with e | e
        · rw [e]
          cases q : lt x x with
          | false => rfl
          | true => have := O.asym _ _ q; rw [q] at this; cases this
        · exact (List.pairwise_cons.mp hl).1 y e
      exact O.tot _ _ h1 h2
    subst e
    rw [up_uniq O (List.Perm.cons_inv h) (List.pairwise_cons.mp hl).2 (List.pairwise_cons.mp hm).2]
end
def ltI (x y : Int) : Bool := decide (x < y)
theorem lin_int : Lin ltI := ⟨fun x y h => by simp [ltI] at *; omega, fun x y h h' => by simp [ltI] at *; omega, fun x y z h h' => by simp [ltI] at *; omega⟩
def ltS (x y : Str) : Bool := ltCps x.cps.toList y.cps.toList
theorem cps_asym : ∀ a b : List Nat, ltCps a b = true → ltCps b a = false
  | [], [], h => by cases h
  | [], _ :: _, _ => rfl
  | _ :: _, [], h => by cases h
  | a :: r, b :: t, h => by
    simp only [ltCps, Bool.or_eq_true, decide_eq_true_eq, Bool.and_eq_true, beq_iff_eq] at h
    simp only [ltCps, Bool.or_eq_false_iff, decide_eq_false_iff_not, Bool.and_eq_false_iff]
    rcases h with h | ⟨h1, h2⟩
    · exact ⟨by omega, .inl (by simp; omega)⟩
    · exact ⟨by omega, .inr (cps_asym r t h2)⟩
theorem cps_tot : ∀ a b : List Nat, ltCps a b = false → ltCps b a = false → a = b
  | [], [], _, _ => rfl
  | [], _ :: _, h, _ => by cases h
  | _ :: _, [], _, h => by cases h
  | a :: r, b :: t, h, h' => by
    simp only [ltCps, Bool.or_eq_false_iff, decide_eq_false_iff_not, Bool.and_eq_false_iff] at h h'
    have e : a = b := by omega
    subst e
    rw [cps_tot r t (by simpa using h.2) (by simpa using h'.2)]
theorem cps_tr : ∀ a b c : List Nat, ltCps b a = false → ltCps c b = false → ltCps c a = false
  | [], b, c, h, h' => by
    cases c with
    | nil => rfl
    | cons x r => rfl
  | a :: r, [], c, h, h' => by cases h
  | a :: r, b :: t, [], h, h' => by cases h'
  | a :: r, b :: t, c :: u, h, h' => by
    simp only [ltCps, Bool.or_eq_false_iff, decide_eq_false_iff_not, Bool.and_eq_false_iff] at h h' ⊢
    refine ⟨by omega, ?_⟩
    by_cases e : c = a
    · have e1 : b = a := by omega
      have e2 : c = b := by omega
      exact .inr (cps_tr r t u (by simpa [e1] using h.2) (by simpa [e2] using h'.2))
    · exact .inl (by simpa using e)
theorem str_ext {x y : Str} (h : x.cps.toList = y.cps.toList) : x = y := by
  obtain ⟨a⟩ := x
  obtain ⟨b⟩ := y
  have : a = b := Array.toList_inj.mp h
  rw [this]
theorem lin_str : Lin ltS := ⟨fun x y => cps_asym _ _, fun x y h h' => str_ext (cps_tot _ _ h h'), fun x y z => cps_tr _ _ _⟩
theorem rising_up : ∀ {r : List Str} {p : Str}, risingS p r = true → Up1 ltS (p :: r)
  | [], p, _ => List.pairwise_singleton _ _
  | x :: r, p, h => by
    simp only [risingS, Bool.and_eq_true, Bool.not_eq_true'] at h
    have ih := rising_up h.2
    refine List.pairwise_cons.mpr ⟨fun z hz => ?_, ih⟩
    rcases List.mem_cons.mp hz with e | e
    · rw [e]; exact h.1
    · exact lin_str.tr p x z h.1 ((List.pairwise_cons.mp ih).1 z e)
theorem sortedS_up {l : List Str} (h : sortedS l = true) : Up1 ltS l := by
  cases l with
  | nil => exact .nil
  | cons x r => exact rising_up h
def intsD : List D → Option (List Int)
  | [] => some []
  | .int i :: ds => (intsD ds).map (i :: ·)
  | _ => none
def strsD : List D → Option (List Str)
  | [] => some []
  | .str x :: ds => (strsD ds).map (x :: ·)
  | _ => none
/-- sorted(a list of ints, or of texts) -/
def sortedD : List D → Option D
  | [.lst ds] => if ds.length < 64 then (match intsD ds with
    | some ns => some (.lst ((sortB ltI ns).map .int))
    | none => (strsD ds).map fun xs => .lst ((sortB ltS xs).map .str)) else none
  | _ => none
section
variable {K : PySem.W.Frag} {pa : Option Addr} {M : Ms} {H : Hp}
theorem intsD_ok : ∀ {ds : List D} {xs : List V} {ns : List Int}, Reps K pa M H ds xs → intsD ds = some ns → xs = ns.map V.int
  | [], _, _, r, e => by cases r; cases e; rfl
  | d :: ds, _, _, ⟨v, r, e1, h1, h2⟩, e => by
    cases d with
    | int i =>
      simp only [intsD] at e
      obtain ⟨ns, h3, h4⟩ := Option.map_eq_some_iff.mp e
      subst h4 e1
      cases h1
      rw [intsD_ok h2 h3]; rfl
    | _ => cases e
theorem strsD_ok : ∀ {ds : List D} {xs : List V} {ns : List Str}, Reps K pa M H ds xs → strsD ds = some ns → xs = ns.map V.str ∧ ∀ x ∈ ns, PyData.strOk x = true
  | [], _, _, r, e => by cases r; cases e; exact ⟨rfl, by simp⟩
  | d :: ds, _, _, ⟨v, r, e1, h1, h2⟩, e => by
    cases d with
    | str i =>
      simp only [strsD] at e
      obtain ⟨ns, h3, h4⟩ := Option.map_eq_some_iff.mp e
      subst h4 e1
      obtain ⟨rfl, o⟩ := h1
      obtain ⟨h5, h6⟩ := strsD_ok h2 h3
      rw [h5]
      exact ⟨rfl, fun x hx => (List.mem_cons.mp hx).elim (fun q => q ▸ o) (h6 x)⟩
    | _ => cases e
theorem reps_ints : ∀ ns : List Int, Reps K pa M H (ns.map .int) (ns.map V.int)
  | [] => rfl
  | _ :: r => .cons rfl (reps_ints r)
theorem reps_strs : ∀ {ns : List Str}, (∀ x ∈ ns, PyData.strOk x = true) → Reps K pa M H (ns.map .str) (ns.map V.str)
  | [], _ => rfl
  | x :: r, h => .cons ⟨rfl, h x List.mem_cons_self⟩ (reps_strs fun y hy => h y (List.mem_cons_of_mem _ hy))
end
section
variable {X : Cx}
theorem cr_sortedD : CallR X (.builtin "sorted") (rDA X.K sortedD) := by
  refine CallR.imp (CallR.or L2.cr_sorted L2.cr_sortedS) fun vs H Q ⟨pa, M, p, ds, d, dom, hP, r, e, k⟩ => ?_
  have fin : ∀ (es : List D) (us : List V) (p : Addr), H p = none → (∀ H', Reps X.K pa M H' es us) → d = .lst es → Q (.ref p) (upd H p (.lst us)) := fun es us q hq rr ed => by
    have s1 : Same H (upd H q (.lst us)) := Same.upd hq
    exact k _ _ s1 (by rw [ed]; exact ⟨q, us, rfl, ⟨new_not (pa := pa) dom hq, upd_same⟩, rr _⟩)
  unfold sortedD at e
  split at e
  rotate_left
  · cases e
  rename_i es
  obtain ⟨v, rfl, a, xs, rfl, n, t, r'⟩ := r.one
  split at e
  rotate_left
  · cases e
  rename_i hl
  split at e
  · rename_i ns hn
    cases e
    refine .inl ⟨a, ns, rfl, .inl (.inl (by rw [← intsD_ok r' hn]; exact t)), ?_, fun ns' q hp hs hq => ?_⟩
    · have := intsD_ok r' hn
      have h2 := r'.length
      rw [this, List.length_map] at h2
      omega
    · have e1 : ns' = sortB ltI ns := up_uniq lin_int (hp.trans (sortB_perm ns).symm) (hs.imp fun {x y} h => by simp [ltI]; omega) (sortB_up lin_int ns)
      rw [e1]
      exact fin _ _ q hq (fun _ => reps_ints _) rfl
  · obtain ⟨ns, hn, h4⟩ := Option.map_eq_some_iff.mp e
    subst h4
    obtain ⟨h5, h6⟩ := strsD_ok r' hn
    refine .inr ⟨a, ns, rfl, .inl (.inl (by rw [← h5]; exact t)), ?_, fun ns' q hp hs hq => ?_⟩
    · have h2 := r'.length
      rw [h5, List.length_map] at h2
      omega
    · have e1 : ns' = sortB ltS ns := up_uniq lin_str (hp.trans (sortB_perm ns).symm) (sortedS_up hs) (sortB_up lin_str ns)
      rw [e1]
      exact fin _ _ q hq (fun _ => reps_strs fun x hx => h6 x ((sortB_perm ns).mem_iff.mp hx)) rfl
/-! ### list(a dict) -/
def keyDat : L2.Key → D
  | .inl i => .int i
  | .inr x => .str x
theorem RepK.keys {K : PySem.W.Frag} {pa : Option Addr} {M M' : Ms} {H H' : Hp} : ∀ {a : Kvs} {ws : List (L2.Key × V)}, RepK K pa M H a ws → Reps K pa M' H' (a.map fun q => keyDat q.1) (ws.map fun kv => kV kv.1)
  | [], _, h => by cases h; rfl
  | q :: a, _, ⟨v, r, e, h0, h1, h2⟩ => by
    subst e
    refine .cons ?_ (RepK.keys h2)
    show Rep K pa M' H' (keyDat q.1) (kV q.1)
    obtain ⟨k, d⟩ := q
    cases k with
    | inl i => rfl
    | inr x => exact ⟨rfl, h0⟩
def listD2 : List D → Option D
  | [.dic kvs] => some (.lst (kvs.map fun q => keyDat q.1))
  | ds => listD ds
theorem cr_listD2 (hc : X.calm = true) : CallR X (.type "list") (rDA X.K listD2) := by
  intro pins s σ H vs us Q I ru ⟨pa, M, p, ds, d, dom, hP, r, e, k⟩
  by_cases hd : ∃ kvs, ds = [.dic kvs]
  · obtain ⟨kvs, rfl⟩ := hd
    obtain ⟨v, rfl, a, ws, rfl, t, r'⟩ := r.one
    cases e
    refine call_list_dK hc pins s σ H _ us Q I ru ⟨a, ws, rfl, t.2, fun q hq => ?_⟩
    have s1 : Same H (upd H q (.lst (ws.map fun kv => kV kv.1))) := Same.upd hq
    exact k _ _ s1 ⟨q, _, rfl, ⟨new_not (pa := pa) dom hq, upd_same⟩, r'.keys⟩
  · refine cr_list pins s σ H vs us Q I ru ⟨pa, M, p, ds, d, dom, hP, r, ?_, k⟩
    unfold listD2 at e
    split at e
    · exact absurd ⟨_, rfl⟩ hd
    · exact e
end
end Rc

-- Rd9
set_option Elab.async false
set_option linter.all false
set_option maxRecDepth 100000
set_option maxHeartbeats 4000000
namespace Rc
open PySem PySem.Spec PyProof.Rows L2

/-! ### repr of plain data, compared -/
def rRepr (K : PySem.W.Frag) : List V → Hp → VK → Prop := fun vs H Q => ∃ v pd, vs = [v] ∧ Dp K H v pd ∧ pd.showable = true ∧ pd.hasDict = false ∧ pd.depth ≤ 64 ∧ pd.shown.length ≤ sizeLine ∧ Q (.str pd.shown) H
theorem call_reprD {X : Cx} (hg : X.A.guards = some []) (hu : X.A.units + 66 < cLine) : CallR X (.builtin "repr") (rRepr X.K) := by
  intro pins s σ H vs us Q I ru ⟨v, pd, e, hd, h1, h2, h3, h4, q⟩
  subst e
  obtain ⟨u, rfl, r1⟩ := vals1 ru
  have refs : ∀ a, u = .ref a → wpAny (model X.prog X.w) X.A (call (.builtin "repr") [u]) (EP X pins σ Q) X.xe s := fun a e => by
    obtain ⟨as, rd⟩ := Dp.reads I pd v u hd r1
    subst e
    exact repr_of_reads' rd h1 (fun z => by rw [h2] at z; cases z) hg (by omega) (fun _ _ e => e) (fun h' t tk kp => ⟨.str pd.shown, H, I.kept kp, ⟨_, rfl⟩, q⟩) h4
  cases hd with
  | non => cases r1; exact PySem.P.repr_of_none ⟨.str _, H, I.tok _, ⟨_, rfl⟩, q⟩
  | bl b => cases r1; exact PySem.P.repr_of_bool ⟨.str _, H, I.tok _, ⟨_, rfl⟩, q⟩
  | int i => obtain ⟨t, rfl⟩ := r1; exact PySem.P.repr_of_int (by simpa [PyData.showable] using h1) ⟨.str _, H, I.tok _, ⟨_, rfl⟩, q⟩
  | str x => obtain ⟨t, rfl⟩ := r1; exact PySem.P.repr_of_str ⟨.str _, H, I.tok _, ⟨_, rfl⟩, q⟩ h4
  | lst _ _ => cases r1; exact refs _ rfl
  | tup _ _ => cases r1; exact refs _ rfl
mutual
theorem noDict : ∀ d : D, plainD d = true → (toPy d).hasDict = false
  | .non, _ => rfl
  | .bl _, _ => rfl
  | .int _, _ => rfl
  | .str _, _ => rfl
  | .tup ds, h => by simp only [toPy, PyData.hasDict]; exact noDicts ds (by simpa [plainD] using h)
  | .lst ds, h => by simp only [toPy, PyData.hasDict]; exact noDicts ds (by simpa [plainD] using h)
  | .dic _, h => by simp [plainD] at h
  | .obj _ _, h => by simp [plainD] at h
  | .cls _, h => by simp [plainD] at h
  | .ty _, h => by simp [plainD] at h
  | .pot, h => by simp [plainD] at h
  | .scr _, h => by simp [plainD] at h
theorem noDicts : ∀ ds : List D, plainDs ds = true → PyData.hasDictAll (toPys ds) = false
  | [], _ => rfl
  | d :: ds, h => by
    have h' : plainD d = true ∧ plainDs ds = true := by simpa [plainDs] using h
    simp only [toPys, PyData.hasDictAll, noDict d h'.1, noDicts ds h'.2, Bool.or_self]
end
def repOk (d : D) : Bool := okD d && ((toPy d).showable && decide ((toPy d).shown.length ≤ sizeLine))
/-- repr(x) == repr(y) (eq), repr(x) != repr(y) -/
def rcmpD (eq : Bool) (x y : D) : Option D := if repOk x && repOk y then some (.bl (decide ((toPy x).shown = (toPy y).shown) == eq)) else none
theorem repOk_ok {K : PySem.W.Frag} {pa : Option Addr} {M : Ms} {H : Hp} {d : D} {v : V} (h : repOk d = true) (r : RepV K pa M H d v) : Dp K H v (toPy d) ∧ (toPy d).showable = true ∧ (toPy d).hasDict = false ∧ (toPy d).depth ≤ 64 ∧ (toPy d).shown.length ≤ sizeLine := by
  obtain ⟨h1, h2⟩ := Bool.and_eq_true_iff.mp h
  obtain ⟨h3, h4⟩ := Bool.and_eq_true_iff.mp h2
  obtain ⟨h5, h6⟩ := Bool.and_eq_true_iff.mp h1
  exact ⟨(r.dp h5).1, h3, noDict d h5, by rw [depth_toPy d h5]; simpa using h6, by simpa using h4⟩
theorem pe_reprV {X : Cx} {e : Expr} {f : EvF} {px pos : Pos} (hg : X.A.guards = some []) (hu : X.A.units + 66 < cLine) (g1 : Gl X "repr") (hm : X.mg "repr" = none) (s1 : notStar e = true) (he : PV X e f) :
    PE X (.Call (.Name "repr" px) [e] [] pos) (tCB (rRepr X.K) (tCons (tV X.K f) tNil)) :=
  pe_callB (call_reprD hg hu) g1 hm (by decide +kernel) (pa_cons he pa_nil (star_of s1 [] X.env)) (by decide) (by decide) (star_of s1 [] X.env) (plain_of (by simp) pos X.env)
theorem rcmp_main {X : Cx} {eq : Bool} {f f' : EvF} {σ : L2.St} {H : Hp} {Q : VK} (h : tE X.K (op2 (rcmpD eq) f f') σ H Q) : tCB (rRepr X.K) (tCons (tV X.K f) tNil) σ H fun x H1 => tCB (rRepr X.K) (tCons (tV X.K f') tNil) σ H1 fun y H2 => scal x y = true ∧ Q (.bl (decide (x = y) == eq)) H2 := by
  obtain ⟨pp, M, env, p, d, p', hE, hP, hf, k⟩ := h
  obtain ⟨x, p1, y, h1, h2, h3⟩ := op2_some hf
  unfold rcmpD at h3
  split at h3
  rotate_left
  · cases h3
  rename_i ok
  obtain ⟨o1, o2⟩ := Bool.and_eq_true_iff.mp ok
  cases h3
  refine ⟨pp, M, env, p, x, p1, hE, hP, h1, fun v H1 x1 k1 r1 => ?_⟩
  obtain ⟨q1, q2, q3, q4, q5⟩ := repOk_ok o1 r1
  refine ⟨v, toPy x, rfl, q1, q2, q3, q4, q5, ?_⟩
  refine ⟨pp, M, env, p1, y, p', hE.ext x1 hP k1, k1, h2, fun u H2 x2 k2 r2 => ?_⟩
  obtain ⟨q1, q2, q3, q4, q5⟩ := repOk_ok o2 r2
  refine ⟨u, toPy y, rfl, q1, q2, q3, q4, q5, rfl, ?_⟩
  have e : decide (V.str (toPy x).shown = V.str (toPy y).shown) = decide ((toPy x).shown = (toPy y).shown) := by
    by_cases z : (toPy x).shown = (toPy y).shown
    · simp [z]
    · simp [z]
  rw [e]
  exact k _ H2 (x1.trans x2) k2 rfl
theorem pb_rcmp {X : Cx} {op : CmpOp} {eq : Bool} {a b : Expr} {f f' : EvF} {pa pb qa qb pos : Pos} (hop : (op = .Eq ∧ eq = true) ∨ (op = .NotEq ∧ eq = false)) (hg : X.A.guards = some []) (hu : X.A.units + 66 < cLine) (g1 : Gl X "repr") (hm : X.mg "repr" = none) (s1 : notStar a = true) (s2 : notStar b = true) (ha : PV X a f) (hb : PV X b f') :
    PB X (.Compare (.Call (.Name "repr" pa) [a] [] qa) [op] [.Call (.Name "repr" pb) [b] [] qb] pos) (evTru (op2 (rcmpD eq) f f')) := by
  have A := pe_reprV (px := pa) (pos := qa) hg hu g1 hm s1 ha
  have B := pe_reprV (px := pb) (pos := qb) hg hu g1 hm s2 hb
  have main : ∀ {σ : L2.St} {H : Hp} {Q : Bool → Hp → Prop}, tB X.K (evTru (op2 (rcmpD eq) f f')) σ H Q → tCB (rRepr X.K) (tCons (tV X.K f) tNil) σ H fun x H1 => tCB (rRepr X.K) (tCons (tV X.K f') tNil) σ H1 fun y H2 => scal x y = true ∧ ∃ k, V.bl (decide (x = y) == eq) = .bl k ∧ Q k H2 := fun {σ H Q} h => by
    obtain ⟨pp, M, env, p, b, p', hE, hP, hf, k⟩ := h
    obtain ⟨x, h1, h2⟩ := evTru_some hf
    refine rcmp_main (Q := fun v H2 => ∃ k, v = .bl k ∧ Q k H2) ⟨pp, M, env, p, x, p', hE, hP, h1, fun v H1 x1 k1 r1 => ?_⟩
    obtain ⟨_, _, _, _, _, h3⟩ := op2_some h1
    unfold rcmpD at h3
    split at h3
    · cases h3; cases h2; cases r1; exact ⟨_, rfl, k H1 x1 k1⟩
    · cases h3
  rcases hop with ⟨rfl, rfl⟩ | ⟨rfl, rfl⟩
  · refine PT.weak (pt_cmpR op_eq A B rfl) fun σ H Q h => ?_
    have m := main h
    simp only [show ∀ b : Bool, (b == true) = b from fun b => by cases b <;> rfl] at m
    exact m
  · refine PT.weak (pt_cmpR op_ne A B rfl) fun σ H Q h => ?_
    have m := main h
    simp only [show ∀ b : Bool, (b == false) = !b from fun b => by cases b <;> rfl] at m
    exact m
theorem pd_rcmp {X : Cx} {op : CmpOp} {eq : Bool} {a b : Expr} {f f' : EvF} {pa pb qa qb pos : Pos} (hop : (op = .Eq ∧ eq = true) ∨ (op = .NotEq ∧ eq = false)) (hg : X.A.guards = some []) (hu : X.A.units + 66 < cLine) (g1 : Gl X "repr") (hm : X.mg "repr" = none) (s1 : notStar a = true) (s2 : notStar b = true) (ha : PV X a f) (hb : PV X b f') :
    PD X (.Compare (.Call (.Name "repr" pa) [a] [] qa) [op] [.Call (.Name "repr" pb) [b] [] qb] pos) (op2 (rcmpD eq) f f') := by
  have A := pe_reprV (px := pa) (pos := qa) hg hu g1 hm s1 ha
  have B := pe_reprV (px := pb) (pos := qb) hg hu g1 hm s2 hb
  rcases hop with ⟨rfl, rfl⟩ | ⟨rfl, rfl⟩
  · refine PE.weak (pe_cmpR op_eq A B rfl) fun σ H Q h => ?_
    have m := rcmp_main h
    simp only [show ∀ b : Bool, (b == true) = b from fun b => by cases b <;> rfl] at m
    exact m
  · refine PE.weak (pe_cmpR op_ne A B rfl) fun σ H Q h => ?_
    have m := rcmp_main h
    simp only [show ∀ b : Bool, (b == false) = !b from fun b => by cases b <;> rfl] at m
    exact m
/-! ### bool(an instance) -/
theorem bool_inst {X : Cx} {pins : List (Addr × Obj)} {σ : L2.St} {H : Hp} {s : Shared} {x C f : Addr} {ox : Obj} {od : Option Obj} {Q : Value → Shared → Prop} {E : Value → Shared → Prop} (I : Inv X pins σ H s) (J : PySem.W.InstAt s.heap x ox C od) (hs : PySem.W.findIn X.K (.ref C) "__bool__" = some (some (.ref f))) (hf : PySem.W.isFn X.K (.ref f) = true)
    (h : wpAny (model X.prog X.w) X.A.in1.in1 (call (.ref f) [.ref x]) (PySem.W.BoolBack fun b z => Q (.bool b) z) E s) : wpAny (model X.prog X.w) X.A (call (.type "bool") [.ref x]) Q E s := by
  refine callType_newIn (S := fun A R z => z = s ∧ A = X.A.in1 ∧ wpAny (model X.prog X.w) X.A.in1.in1 (call (.ref f) [.ref x]) (PySem.W.BoolBack fun b z => R (.ok (.ret (.bool b))) z) (fun e z => R (.error e) z) s) PySem.F.called_bool PySem.F.newNe_bool (PySem.F.typeCall_bool_1 (.ref x)) (PySem.F.newCall_bool_1 (.ref x)) (fun obj => PySem.F.args_object_init_2 obj (.ref x)) PySem.F.entry_bool_new ?_ ⟨rfl, rfl, ?_⟩
  · intro A R z ⟨ez, eA, hz⟩
    subst ez eA
    obtain ⟨m, hF⟩ := I.fr
    have f1 := PySem.F.conv_sub_bool
    have go : wpAny (model X.prog X.w) X.A.in1.in1 (truthy (.ref x)) (fun b z => R (.ok (.ret (.bool b))) z) (fun e z => R (.error e) z) z := PySem.W.truthy_K hF I.ok.mod.kin J hs hf hz
    unfold Builtin.«bool.__new__»
    show wpAny _ _ (isType (.type "bool") >>= _) _ _ _
    refine wpAny_bind (wpAny_of_eq (a := true) (by rfl) ?_)
    show wpAny _ _ (isSubtype (.type "bool") (.type "bool") >>= _) _ _ _
    refine wpAny_bind (wpAny_of_eq f1 ?_)
    show wpAny _ _ (someArgs "bool" 0 1 _ >>= _) _ _ _
    refine wpAny_bind (wpAny_of_eq (a := [.ref x]) (by rfl) ?_)
    exact wpAny_bind (wpAny_mono go (fun b z hb => wpAny_pure hb) fun _ _ e => e)
  · refine wpAny_mono h (fun v z hv => ?_) fun _ _ e => e
    cases v <;> first | exact hv.elim | exact ⟨PySem.typeIs_bool _ _, hv⟩
end Rc

-- Re1
set_option Elab.async false
set_option linter.all false
set_option maxRecDepth 100000
set_option maxHeartbeats 4000000
namespace Rc
open PySem PySem.Spec PyProof.Rows L2 PySem.W

/-! ### rows of data in order, looked at as far as need be -/
def lexP : List PyData → List PyData → Option Bool
  | [], ys => some (decide (0 < ys.length))
  | _ :: _, [] => some false
  | x :: xs, y :: ys => if alike x y = true then (if PyData.eqv x y = true then lexP xs ys else some (dataLt x y)) else none
abbrev toksLt (xs ys : List PyData) : Bool := PyProof.Rows.lexLt itemOrd (keyToksAll xs) (keyToksAll ys)
theorem lexP_toks : ∀ (xs ys : List PyData) (c : Bool), lexP xs ys = some c → toksLt xs ys = c
  | [], [], c, h => by
    cases h
    exact lex_irrefl _
  | [], y :: ys, c, h => by
    have e : c = true := by simpa [lexP] using h.symm
    subst e
    unfold toksLt
    rw [toks_all_cons]
    simp only [keyToksAll]
    rw [lex_diff (O := itemOrd) (by simp)]
    simp [itemLt]
  | x :: xs, [], c, h => by
    have e : c = false := by simpa [lexP] using h.symm
    subst e
    unfold toksLt
    rw [toks_all_cons]
    simp only [keyToksAll]
    rw [lex_diff (O := itemOrd) (by simp)]
    simp [itemLt]
  | x :: xs, y :: ys, c, h => by
    unfold lexP at h
    split at h
    · rename_i ha
      split at h
      · rename_i he
        unfold toksLt
        rw [dataLt_all_yes ha he]
        exact lexP_toks xs ys c h
      · rename_i he
        cases h
        unfold toksLt
        rw [dataLt_all_no ha (by simpa using he)]
    · cases h
section
variable {prog : Program} {w : World} {A : Around} {E : Value → Shared → Prop} {s : Shared}
theorem katLex_lazy {fin : Bool} {Q : Bool → Shared → Prop} : ∀ (xs ys : List PyData) (c : Bool) (i : Nat) (vs ws : List Value) (as bs : List Addr), ReadsAll s.heap vs xs as → ReadsAll s.heap ws ys bs → lexP xs ys = some c →
    A.units + min (PyData.depthAll xs) (PyData.depthAll ys) < cLine → fin = decide (xs.length < ys.length) → Q c s → KatLex prog w A false fin Q (vs.zip ws) i s
  | [], [], c, i, _, _, _, _, ra, rb, h, _, hf, hq => by
    cases ra
    cases rb
    cases h
    have e : fin = false := by rw [hf]; rfl
    subst e
    exact kat_nil hq
  | [], y :: ys, c, i, _, _, _, _, ra, rb, h, _, hf, hq => by
    cases ra
    have e : c = true := by simpa [lexP] using h.symm
    have e2 : fin = true := by rw [hf]; exact decide_eq_true (Nat.succ_pos _)
    subst e e2
    rw [List.zip_nil_left]
    exact kat_nil hq
  | x :: xs, [], c, i, _, _, _, _, ra, rb, h, _, hf, hq => by
    cases rb
    have e : c = false := by simpa [lexP] using h.symm
    have e2 : fin = false := by rw [hf]; exact decide_eq_false (Nat.not_lt_zero _)
    subst e e2
    rw [List.zip_nil_right]
    exact kat_nil hq
  | x :: xs, y :: ys, c, i, _, _, _, _, ra, rb, h, hu, hf, hq => by
    have hf' : fin = decide (xs.length < ys.length) := by
      rw [hf]
      simp only [List.length_cons, Nat.add_lt_add_iff_right]
    unfold lexP at h
    split at h
    · rename_i ha
      cases ra with
      | cons r rs =>
        cases rb with
        | cons r' rs' =>
          rw [List.zip_cons_cons]
          refine kat_cons (eqAt_alike x y A s _ _ _ _ r r' ha (SeqAt.room_head hu) prog w _ _ ?_)
          cases hx : PyData.eqv x y with
          | true =>
            rw [hx, if_pos rfl] at h
            exact kat_yes (katLex_lazy xs ys c (i + 1) _ _ _ _ rs rs' h (SeqAt.room_tail hu) hf' hq)
          | false =>
            rw [hx, if_neg (by simp)] at h
            cases h
            exact kat_no (oneLt_alike (fun z => by cases z) r r' ha (ne_none_of ha hx) (SeqAt.room_head hu) hq)
    · cases h
/-- the row of a tuple's value -/
noncomputable def rowOf (h : Heap) (v : Value) : List (Int ⊕ List Nat) := open Classical in if q : ∃ xs as, Reads h v (.tuple xs) as then keyToksAll q.choose else []
theorem rowOf_eq {h : Heap} {v : Value} {xs : List PyData} {as : List Addr} (r : Reads h v (.tuple xs) as) : rowOf h v = keyToksAll xs := by
  have q : ∃ xs as, Reads h v (.tuple xs) as := ⟨xs, as, r⟩
  have e : rowOf h v = keyToksAll q.choose := by
    unfold rowOf
    rw [dif_pos q]
  obtain ⟨as', h2⟩ := q.choose_spec
  have u := (Reads.unique h2 _ _ r).1
  rw [e]
  exact congrArg keyToksAll (PyData.tuple.inj u)
noncomputable def ltVal (h : Heap) (v u : Value) : Bool := PyProof.Rows.lexLt itemOrd (rowOf h v) (rowOf h u)
theorem swo_val (h : Heap) : SrtO.Swo (ltVal h) := by
  refine ⟨fun x y e => ?_, fun x y z h1 h2 => ?_⟩
  · exact KeyOrd.klt_asymm (O := listOrd itemOrd) e
  · exact KeyOrd.kle_trans (O := listOrd itemOrd) h1 h2
/-- tuples that can be sorted: each begins with a tuple, any two can be compared -/
structure Tups (T : List PyData → Prop) : Prop where
  first : ∀ xs, T xs → ∃ t r, xs = .tuple t :: r
  cmp : ∀ xs ys, T xs → T ys → ∃ c, lexP xs ys = some c
  dep : ∀ xs, T xs → PyData.depthAll xs ≤ 64
theorem tups_first {T : List PyData → Prop} (C : Tups T) {h : Heap} : ∀ (vs : List Value), (∀ v ∈ vs, ∃ xs as, Reads h v (.tuple xs) as ∧ T xs) → ∃ fs, KatTups h vs fs ∧ fs.length = vs.length ∧ ∀ f ∈ fs, ∃ t as, Reads h f (.tuple t) as
  | [], _ => ⟨[], KatTups.nil, rfl, fun f hf => by cases hf⟩
  | v :: vs, hv => by
    obtain ⟨fs, h1, h2, h3⟩ := tups_first C vs fun u hu => hv u (List.mem_cons_of_mem _ hu)
    obtain ⟨xs, as, r, hT⟩ := hv v List.mem_cons_self
    obtain ⟨t, rest, rfl⟩ := C.first xs hT
    cases r with
    | @tuple a o xs n _ _ ho hc hd hr =>
      cases q : xs.toList with
      | nil =>
        rw [q] at hr
        cases hr
      | cons f fr =>
        rw [q] at hr
        cases hr with
        | cons r1 r2 =>
          have hf : xs[0]? = some f := by rw [← Array.getElem?_toList, q]; rfl
          refine ⟨f :: fs, KatTups.cons ho hc hd hf h1, by rw [List.length_cons, List.length_cons, h2], fun g hg => ?_⟩
          rcases List.mem_cons.mp hg with rfl | hg
          · exact ⟨_, _, r1⟩
          · exact h3 g hg
theorem tups_sortable {T : List PyData → Prop} (C : Tups T) {h0 : Heap} {a : Addr} {vs : List Value} (h0l : 0 < vs.length) (hu : A.units + 65 < cLine) (hv : ∀ v ∈ vs, ∃ xs as, Reads h0 v (.tuple xs) as ∧ T xs)
    (keep : ∀ b o, h0.get? b = some o → b ≠ a ∧ s.heap.get? b = some o) : SrtO.SortableO prog w A s a vs (ltVal h0) := by
  intro h' kp
  have up : ∀ b o, h0.get? b = some o → h'.get? b = some o := fun b o e => kp b o (keep b o e).1 (keep b o e).2
  have hv' : ∀ v ∈ vs, ∃ xs as, Reads h' v (.tuple xs) as ∧ T xs := fun v m => by
    obtain ⟨xs, as, r, t⟩ := hv v m
    exact ⟨xs, as, Reads.keeps up r, t⟩
  refine ⟨tuples' false, fun Q E hq => ?_, ?_⟩
  · obtain ⟨fs, h1, h2, h3⟩ := tups_first C vs hv'
    refine kat_kind (T := .type "tuple") h1 (by omega) (fun f hm => ?_) (by rfl) ?_
    · obtain ⟨t, as, r⟩ := h3 f hm
      exact looks_reads r
    · have e : (Value.type "tuple" != Value.type "tuple") = false := by rfl
      rw [e]
      exact hq
  · intro p q hm hm'
    obtain ⟨xs, as, r, t⟩ := hv p.1 hm
    obtain ⟨ys, bs, r', t'⟩ := hv q.1 hm'
    obtain ⟨c, hc⟩ := C.cmp xs ys t t'
    have e : SrtO.lt2 (ltVal h0) p q = c := by
      show ltVal h0 p.1 q.1 = c
      unfold ltVal
      rw [rowOf_eq r, rowOf_eq r']
      exact lexP_toks xs ys c hc
    have R := Reads.keeps up r
    have R' := Reads.keeps up r'
    have d1 := C.dep xs t
    have d2 := C.dep ys t'
    show wpAny (model prog w) A (keyLt' (tuples' false) p.1 q.1) _ _ { s with heap := h' }
    generalize p.1 = v at R
    generalize q.1 = u at R'
    cases R with
    | @tuple l o zs n _ _ h1 h2 h3 h4 =>
      cases R' with
      | @tuple l' o' zs' n' _ _ k1 k2 k3 k4 =>
        have n1 : zs.size = xs.length := by simpa using SeqAt.ReadsAll.length _ _ _ h4
        have n2 : zs'.size = ys.length := by simpa using SeqAt.ReadsAll.length _ _ _ k4
        exact kat_lt (s := { s with heap := h' }) h1 h3 k1 k3 (katLex_lazy xs ys c 0 _ _ _ _ h4 k4 hc (by omega) (by rw [n1, n2]) ⟨rfl, e.symm⟩)
theorem sorted_tups {T : List PyData → Prop} (C : Tups T) {l : Addr} {vs : List Value} {Q : Value → Shared → Prop} (hl : s.heap.IsList l vs.toArray) (hz : vs.length ≤ sizeLine) (hu : A.units + 70 < cLine) (hv : ∀ v ∈ vs, ∃ xs as, Reads s.heap v (.tuple xs) as ∧ T xs)
    (h : ∀ (h' : Heap) (d : Addr) (out : List Value), SrtO.Srtd (ltVal s.heap) out → SrtO.Stb (ltVal s.heap) out vs → (∀ b o, s.heap.get? b = some o → h'.get? b = some o) → s.heap.objs.size ≤ d → (∃ n, h'.get? d = some (seqObj "list" out.toArray n)) → Q (.ref d) { s with heap := h' }) :
    wpAny (model prog w) A (call (.builtin "sorted") [.ref l]) Q E s := by
  refine SrtO.sorted_ord (swo_val s.heap) hl hz (fun h2 h₁ a ha kk => ?_) fun out hs hb => ?_
  · exact tups_sortable (s := { s with heap := h₁ }) C (by omega) (by show A.in1.in1.units + 65 < cLine; have : A.in1.in1.units = A.units + 1 + 1 := rfl; omega) hv kk
  · exact h _ _ out hs hb (fun b o e => sortedAll_old e) (Nat.le_succ _) (sortedAll_at s.heap vs out.toArray)
end
end Rc

-- Re2
set_option Elab.async false
set_option linter.all false
set_option maxRecDepth 100000
set_option maxHeartbeats 4000000
namespace Rc
open PySem PySem.Spec PyProof.Rows L2 PySem.W

/-! ### data that are alike and equal are one -/
mutual
theorem alike_eq : ∀ (x y : PyData), alike x y = true → PyData.eqv x y = true → x = y
  | .none, y, h, e => by cases y <;> first | rfl | (exact absurd h (by simp [alike]))
  | .bool a, y, h, e => by
    cases y <;> first | (simp [alike] at h; done) | skip
    rename_i b
    have : a = b := by simpa [PyData.eqv] using e
    rw [this]
  | .int a, y, h, e => by
    cases y <;> first | (simp [alike] at h; done) | skip
    rename_i b
    have : a = b := by simpa [PyData.eqv] using e
    rw [this]
  | .str a, y, h, e => by
    cases y <;> first | (simp [alike] at h; done) | skip
    rename_i b
    have : a = b := by simpa [PyData.eqv] using e
    rw [this]
  | .list xs, y, h, e => by
    cases y <;> first | (simp [alike] at h; done) | skip
    rw [alikes_eq xs _ (by simpa [alike] using h) (by simpa [PyData.eqv] using e)]
  | .tuple xs, y, h, e => by
    cases y <;> first | (simp [alike] at h; done) | skip
    rw [alikes_eq xs _ (by simpa [alike] using h) (by simpa [PyData.eqv] using e)]
  | .dict _, y, h, e => by cases y <;> exact absurd h (by simp [alike])
theorem alikes_eq : ∀ (xs ys : List PyData), alikeAll xs ys = true → PyData.eqvAll xs ys = true → xs = ys
  | [], [], _, _ => rfl
  | [], _ :: _, _, e => by simp [PyData.eqvAll] at e
  | _ :: _, [], _, e => by simp [PyData.eqvAll] at e
  | x :: xs, y :: ys, h, e => by
    obtain ⟨h1, h2⟩ := alike_all_cons h
    rw [eqv_all_cons, Bool.and_eq_true] at e
    rw [alike_eq x y h1 e.1, alikes_eq xs ys h2 e.2]
end
theorem toks_ne {x y : PyData} (h : alike x y = true) (e : PyData.eqv x y = false) (h1 : dataLt x y = false) : dataLt y x = true := by
  cases q : dataLt y x with
  | true => rfl
  | false =>
    have t : keyToks x = keyToks y := (listOrd itemOrd).total _ _ h1 q
    have z := (toks_eqv x y h).2 e [] [.inl 0]
    rw [t] at z
    have w : PyProof.Rows.lexLt itemOrd (keyToks y) (keyToks y) = false := lex_irrefl _
    rw [w, List.append_nil] at z
    have l := lex_pre (keyToks y) [] [.inl 0]
    rw [List.append_nil] at l
    rw [l] at z
    cases z
theorem alike_symm_lt : ∀ (xs ys : List PyData), lexP xs ys = some false → toksLt ys xs = false → xs = ys
  | [], [], _, _ => rfl
  | [], y :: ys, h, _ => by simp [lexP] at h
  | x :: xs, [], h, h2 => by
    have : toksLt [] (x :: xs) = true := lexP_toks [] (x :: xs) true (by simp [lexP])
    rw [this] at h2; cases h2
  | x :: xs, y :: ys, h, h2 => by
    unfold lexP at h
    split at h
    · rename_i ha
      split at h
      · rename_i he
        have exy := alike_eq x y ha he
        subst exy
        have h3 : toksLt ys xs = false := by
          unfold toksLt at h2 ⊢
          rw [dataLt_all_yes ha he] at h2
          exact h2
        rw [alike_symm_lt xs ys h h3]
      · rename_i he
        have he' : PyData.eqv x y = false := by simpa using he
        have h4 : dataLt x y = false := Option.some.inj h
        have h5 := toks_ne ha he' h4
        exfalso
        have z : toksLt (x :: xs) (y :: ys) = dataLt x y := dataLt_all_no ha he'
        rw [h4] at z
        have eq : keyToksAll (x :: xs) = keyToksAll (y :: ys) := (listOrd itemOrd).total _ _ z h2
        rw [toks_all_cons, toks_all_cons] at eq
        have eq2 := (List.cons.inj eq).2
        have q := (toks_eqv x y ha).2 he'
        have q1 := q (keyToksAll xs) (keyToksAll ys ++ [.inl 0])
        rw [← List.append_assoc, ← eq2] at q1
        have l := lex_pre (keyToks x ++ keyToksAll xs) [] [.inl 0]
        rw [List.append_nil] at l
        rw [l] at q1
        have q2 := q (keyToksAll xs) (keyToksAll ys)
        rw [eq2, lex_irrefl] at q2
        rw [← q2] at q1
        cases q1
    · cases h
mutual
theorem toPy_inj : ∀ (d e : D), plainD d = true → plainD e = true → toPy d = toPy e → d = e
  | .non, e, _, h, q => by cases e <;> first | rfl | (simp [plainD] at h; done) | (simp [toPy] at q; done)
  | .bl _, e, _, h, q => by cases e <;> first | (simp [plainD] at h; done) | (simp [toPy] at q; done) | (simp [toPy] at q; rw [q])
  | .int _, e, _, h, q => by cases e <;> first | (simp [plainD] at h; done) | (simp [toPy] at q; done) | (simp [toPy] at q; rw [q])
  | .str _, e, _, h, q => by cases e <;> first | (simp [plainD] at h; done) | (simp [toPy] at q; done) | (simp [toPy] at q; rw [q])
  | .tup ds, e, hd, h, q => by
    cases e <;> first | (simp [plainD] at h; done) | (simp [toPy] at q; done) | skip
    rename_i es
    rw [toPys_inj ds es (by simpa [plainD] using hd) (by simpa [plainD] using h) (by simpa [toPy] using q)]
  | .lst ds, e, hd, h, q => by
    cases e <;> first | (simp [plainD] at h; done) | (simp [toPy] at q; done) | skip
    rename_i es
    rw [toPys_inj ds es (by simpa [plainD] using hd) (by simpa [plainD] using h) (by simpa [toPy] using q)]
  | .dic _, _, hd, _, _ => by simp [plainD] at hd
  | .obj _ _, _, hd, _, _ => by simp [plainD] at hd
  | .cls _, _, hd, _, _ => by simp [plainD] at hd
  | .ty _, _, hd, _, _ => by simp [plainD] at hd
  | .pot, _, hd, _, _ => by simp [plainD] at hd
  | .scr _, _, hd, _, _ => by simp [plainD] at hd
theorem toPys_inj : ∀ (ds es : List D), plainDs ds = true → plainDs es = true → toPys ds = toPys es → ds = es
  | [], [], _, _, _ => rfl
  | [], _ :: _, _, _, q => by simp [toPys] at q
  | _ :: _, [], _, _, q => by simp [toPys] at q
  | d :: ds, e :: es, hd, he, q => by
    have hd' : plainD d = true ∧ plainDs ds = true := by simpa [plainDs] using hd
    have he' : plainD e = true ∧ plainDs es = true := by simpa [plainDs] using he
    have q' : toPy d = toPy e ∧ toPys ds = toPys es := by simpa [toPys] using q
    rw [toPy_inj d e hd'.1 he'.1 q'.1, toPys_inj ds es hd'.2 he'.2 q'.2]
end
/-! ### sorted(a list of tuples) -/
def rowD : D → List PyData
  | .tup ds => toPys ds
  | _ => []
def tupFirst : D → Bool
  | .tup (.tup _ :: _) => true
  | _ => false
def ltDD (d e : D) : Bool := toksLt (rowD d) (rowD e)
def sortOk (es : List D) : Bool := es.all (fun d => okD d && tupFirst d) && es.all fun d => es.all fun e => (lexP (rowD d) (rowD e)).isSome
def sortedTD : List D → Option D
  | [.lst es] => if sortOk es then some (.lst (sortB ltDD es)) else none
  | _ => none
section
variable {α : Type} {lt : α → α → Bool}
theorem insB_up2 (asym : ∀ x y, lt x y = true → lt y x = false) (tr : ∀ x y z, lt y x = false → lt z y = false → lt z x = false) (x : α) : ∀ {l}, Up1 lt l → Up1 lt (insB lt x l)
  | [], _ => List.pairwise_singleton _ _
  | y :: r, h => by
    unfold insB
    obtain ⟨h1, h2⟩ := List.pairwise_cons.mp h
    split
    · rename_i q
      refine List.pairwise_cons.mpr ⟨fun z hz => ?_, insB_up2 asym tr x h2⟩
      rcases List.mem_cons.mp ((insB_perm x r).mem_iff.mp hz) with e | e
      · rw [e]; exact asym _ _ q
      · exact h1 z e
    · rename_i q
      have q' : lt y x = false := by simpa using q
      refine List.pairwise_cons.mpr ⟨fun z hz => ?_, h⟩
      rcases List.mem_cons.mp hz with e | e
      · rw [e]; exact q'
      · exact tr x y z q' (h1 z e)
theorem sortB_up2 (asym : ∀ x y, lt x y = true → lt y x = false) (tr : ∀ x y z, lt y x = false → lt z y = false → lt z x = false) : ∀ l : List α, Up1 lt (sortB lt l)
  | [] => .nil
  | x :: r => insB_up2 asym tr x (sortB_up2 asym tr r)
theorem up_uniq2 {P : α → Prop} (asym : ∀ x y, lt x y = true → lt y x = false) (tot : ∀ x y, P x → P y → lt x y = false → lt y x = false → x = y) : ∀ {l m : List α}, l.Perm m → (∀ x ∈ l, P x) → Up1 lt l → Up1 lt m → l = m
  | [], m, h, _, _, _ => (List.Perm.eq_nil h.symm).symm
  | x :: l, [], h, _, _, _ => absurd h.length_eq (by simp)
  | x :: l, y :: m, h, hP, hl, hm => by
    have irr : ∀ x, lt x x = false := fun x => by
      cases q : lt x x with
      | false => rfl
      | true => have := asym _ _ q; rw [q] at this; cases this
    have e : x = y := by
      have h1 : lt x y = false := by
        rcases List.mem_cons.mp (h.mem_iff.mp List.mem_cons_self) with e | e
        · rw [e]; exact irr y
        · exact (List.pairwise_cons.mp hm).1 x e
      have h2 : lt y x = false := by
        rcases List.mem_cons.mp (h.symm.mem_iff.mp List.mem_cons_self) with e | e
        · rw [e]; exact irr x
        · exact (List.pairwise_cons.mp hl).1 y e
      exact tot _ _ (hP x List.mem_cons_self) (hP y (h.symm.mem_iff.mp List.mem_cons_self)) h1 h2
    subst e
    rw [up_uniq2 asym tot (List.Perm.cons_inv h) (fun z hz => hP z (List.mem_cons_of_mem _ hz)) (List.pairwise_cons.mp hl).2 (List.pairwise_cons.mp hm).2]
end
theorem ltDD_asym (x y : D) (h : ltDD x y = true) : ltDD y x = false := KeyOrd.klt_asymm (O := listOrd itemOrd) h
theorem ltDD_tr (x y z : D) (h1 : ltDD y x = false) (h2 : ltDD z y = false) : ltDD z x = false := KeyOrd.kle_trans (O := listOrd itemOrd) h1 h2
theorem sortOk_inv {es : List D} (h : sortOk es = true) : (∀ d ∈ es, okD d = true ∧ ∃ t r, d = .tup (.tup t :: r)) ∧ ∀ d ∈ es, ∀ e ∈ es, ∃ c, lexP (rowD d) (rowD e) = some c := by
  unfold sortOk at h
  simp only [Bool.and_eq_true, List.all_eq_true] at h
  refine ⟨fun d hd => ⟨(h.1 d hd).1, ?_⟩, fun d hd e he => Option.isSome_iff_exists.mp (h.2 d hd e he)⟩
  have := (h.1 d hd).2
  unfold tupFirst at this
  split at this
  · exact ⟨_, _, rfl⟩
  · cases this
theorem ltDD_tot {es : List D} (h : sortOk es = true) (x y : D) (hx : x ∈ es) (hy : y ∈ es) (h1 : ltDD x y = false) (h2 : ltDD y x = false) : x = y := by
  obtain ⟨k1, k2⟩ := sortOk_inv h
  obtain ⟨o1, t, r, rfl⟩ := k1 x hx
  obtain ⟨o2, t', r', rfl⟩ := k1 y hy
  obtain ⟨c, hc⟩ := k2 _ hx _ hy
  have e := lexP_toks _ _ _ hc
  have e2 : c = false := by rw [← e]; exact h1
  subst e2
  have q := alike_symm_lt _ _ hc h2
  exact congrArg D.tup (toPys_inj _ _ (by simpa [plainD] using plainOf o1) (by simpa [plainD] using plainOf o2) q)
where plainOf {d : D} (h : okD d = true) : plainD d = true := (Bool.and_eq_true_iff.mp h).1
section
variable {X : Cx}
theorem cr_sortedTD (hu : X.A.units + 70 < cLine) : CallR X (.builtin "sorted") (rDA X.K sortedTD) := by
  intro pins s σ H vs us Q I ru ⟨pa, M, p, ds, d, dom, hP, r, e, k⟩
  unfold sortedTD at e
  split at e
  rotate_left
  · cases e
  rename_i es
  split at e
  rotate_left
  · cases e
  rename_i hok
  cases e
  obtain ⟨v, rfl, a, xs, rfl, n, t, r'⟩ := r.one
  obtain ⟨k1, k2⟩ := sortOk_inv hok
  obtain ⟨its, rv, hl, hz⟩ := I.list (a := a) (xs := xs) (.inl (.inl t))
  obtain ⟨u, rfl, ru1⟩ := vals1 ru
  cases ru1
  have repX : ∀ x ∈ xs, ∃ d ∈ es, Rep X.K pa M H d x := fun x hx => by
    obtain ⟨i, hi⟩ := List.mem_iff_getElem?.mp hx
    obtain ⟨d, hd, hr⟩ := Reps.getV r' hi
    exact ⟨d, List.mem_iff_getElem?.mpr ⟨i, hd⟩, hr⟩
  obtain ⟨e1, e2⟩ := refs_back rv fun x m => by
    obtain ⟨d, hd, hr⟩ := repX x m
    obtain ⟨_, t, r, rfl⟩ := k1 d hd
    obtain ⟨a, ys, e, _⟩ := hr
    exact ⟨a, e⟩
  have relB : ∀ u ∈ its, RelV (backV u) u := fun u hu => by
    obtain ⟨a, rfl⟩ := e2 u hu
    rfl
  have memB : ∀ u ∈ its, backV u ∈ xs := fun u hu => by rw [e1]; exact List.mem_map.mpr ⟨u, hu, rfl⟩
  have reads : ∀ (d : D) (u : Value), d ∈ es → u ∈ its → Rep X.K pa M H d (backV u) → ∃ as, Reads s.heap u (toPy d) as := fun d u hd hu hr => Dp.reads I _ _ u (hr.dp (Bool.and_eq_true_iff.mp (k1 d hd).1).1).1 (relB u hu)
  have uniq : ∀ (d d' : D) (u : Value), d ∈ es → d' ∈ es → u ∈ its → Rep X.K pa M H d (backV u) → Rep X.K pa M H d' (backV u) → d = d' := fun d d' u hd hd' hu h h' => by
    obtain ⟨as, q⟩ := reads d u hd hu h
    obtain ⟨bs, q'⟩ := reads d' u hd' hu h'
    exact toPy_inj d d' (Bool.and_eq_true_iff.mp (k1 d hd).1).1 (Bool.and_eq_true_iff.mp (k1 d' hd').1).1 (Reads.unique q _ _ q').1
  have ex : ∀ u, ∃ d, u ∈ its → d ∈ es ∧ Rep X.K pa M H d (backV u) := fun u => by
    by_cases hu : u ∈ its
    · obtain ⟨d, hd, hr⟩ := repX _ (memB u hu)
      exact ⟨d, fun _ => ⟨hd, hr⟩⟩
    · exact ⟨.non, fun z => absurd z hu⟩
  obtain ⟨f, hf⟩ := Classical.axiomOfChoice ex
  have mapf : its.map f = es := by
    refine List.ext_getElem? fun i => ?_
    rw [List.getElem?_map]
    cases q : its[i]? with
    | none =>
      have : its.length ≤ i := List.getElem?_eq_none_iff.mp q
      have l1 := r'.length
      rw [e1, List.length_map] at l1
      exact (List.getElem?_eq_none_iff.mpr (by omega)).symm
    | some u =>
      have hu : u ∈ its := List.mem_iff_getElem?.mpr ⟨i, q⟩
      have hx : xs[i]? = some (backV u) := by rw [e1, List.getElem?_map, q]; rfl
      obtain ⟨d, hd, hr⟩ := Reps.getV r' hx
      rw [hd]
      have hm : d ∈ es := List.mem_iff_getElem?.mpr ⟨i, hd⟩
      exact congrArg some (uniq _ _ u (hf u hu).1 hm hu (hf u hu).2 hr)
  have C : Tups (fun zs => ∃ d ∈ es, zs = rowD d) := by
    refine ⟨?_, ?_, ?_⟩
    · rintro _ ⟨d, hd, rfl⟩
      obtain ⟨_, t, r, rfl⟩ := k1 d hd
      exact ⟨_, _, rfl⟩
    · rintro _ _ ⟨d, hd, rfl⟩ ⟨e, he, rfl⟩
      exact k2 d hd e he
    · rintro _ ⟨d, hd, rfl⟩
      obtain ⟨o, t, r, rfl⟩ := k1 d hd
      obtain ⟨o1, o2⟩ := Bool.and_eq_true_iff.mp o
      have e := depth_toPy _ o1
      have o3 : depD (.tup (.tup t :: r)) ≤ 64 := by simpa using o2
      rw [← e] at o3
      have : (toPy (.tup (.tup t :: r))).depth = PyData.depthAll (toPys (.tup t :: r)) + 1 := by simp only [toPy, PyData.depth]
      show PyData.depthAll (toPys (.tup t :: r)) ≤ 64
      omega
  have rd : ∀ u ∈ its, ∃ as, Reads s.heap u (.tuple (rowD (f u))) as := fun u hu => by
    obtain ⟨as, q⟩ := reads (f u) u (hf u hu).1 hu (hf u hu).2
    obtain ⟨_, t, r, e⟩ := k1 _ (hf u hu).1
    rw [e] at q ⊢
    exact ⟨as, q⟩
  refine sorted_tups C hl.isList (by rw [← rv.length]; exact hz) hu (fun u hu => ?_) fun h' dd out h1 h2 kp hd hn => ?_
  · obtain ⟨as, q⟩ := rd u hu
    exact ⟨_, as, q, f u, (hf u hu).1, rfl⟩
  · have hin : ∀ u ∈ out, u ∈ its := fun u hu => h2.perm.mem_iff.mp hu
    have h3 : ∀ u ∈ out, ∃ a, u = Value.ref a := fun u hu => e2 u (hin u hu)
    obtain ⟨n, hn⟩ := hn
    have hlen : out.length = xs.length := by rw [h2.len, rv.length]
    have hrow : ∀ u ∈ its, rowOf s.heap u = keyToksAll (rowD (f u)) := fun u hu => by
      obtain ⟨as, q⟩ := rd u hu
      exact rowOf_eq q
    have hs : out.map f = sortB ltDD es := by
      refine up_uniq2 (P := fun d => d ∈ es) ltDD_asym (ltDD_tot hok) ?_ ?_ ?_ (sortB_up2 ltDD_asym ltDD_tr es)
      · have := h2.perm.map f
        rw [mapf] at this
        exact this.trans (sortB_perm es).symm
      · intro d hd
        obtain ⟨u, hu, rfl⟩ := List.mem_map.mp hd
        exact (hf u (hin u hu)).1
      · refine List.pairwise_map.mpr (List.Pairwise.imp_of_mem (fun {x y} hx hy h => ?_) h1)
        have h' : ltVal s.heap y x = false := h
        unfold ltVal at h'
        rw [hrow _ (hin _ hx), hrow _ (hin _ hy)] at h'
        exact h'
    have hfresh : H dd = none := I.hok.fresh hd
    have same : Same H (upd H dd (.lst (out.map backV))) := Same.upd hfresh
    have reps : ∀ l : List Value, (∀ u ∈ l, u ∈ its) → Reps X.K pa M (upd H dd (.lst (out.map backV))) (l.map f) (l.map backV) := by
      intro l
      induction l with
      | nil => intro _; exact .nil
      | cons u l ih => intro hl; exact .cons ((hf u (hl u List.mem_cons_self)).2.up (Up.same same)) (ih fun z hz => hl z (List.mem_cons_of_mem _ hz))
    refine ⟨.ref dd, upd H dd (.lst (out.map backV)), I.laid (t' := s.toks) kp hd ⟨?_, out, n, vals_back h3, hn⟩, rfl, ?_⟩
    · rw [List.length_map, hlen]
      exact hz
    · refine k _ _ same ?_
      rw [← hs]
      exact ⟨dd, _, rfl, ⟨new_not (pa := pa) dom hfresh, upd_same⟩, reps out hin⟩
end
end Rc

-- Re3
set_option Elab.async false
set_option linter.all false
set_option maxRecDepth 100000
set_option maxHeartbeats 4000000
namespace PySem.AutoSeq1
open PySem PySem.MeetsSeq PySem.MeetsSeq2
theorem extend_tuple (l : Addr) (items : Array Value) (n : Nat) (b : Addr) (items2 : Array Value) (n2 : Nat) (dd : Option Addr) (sl : Array (Option Value)) (hs0 : ¬(!items.isEmpty && Builtin.List.listTooLong (items.size + items2.size)) = true) (hs1 : items.size ≤ sizeLine) (hs2 : items.size + items2.size ≤ sizeLine + 1) :
    Meets (Builtin.«list.extend» ⟨[.ref l, .ref b], []⟩) (fun _ R s => s.heap.get? l = some { cls := .type "list", dict := none, data := .seq items n, slots := #[] } ∧ s.heap.get? b = some { cls := .type "tuple", dict := dd, data := .seq items2 n2, slots := sl } ∧ R (.ok (.ret Value.none)) { s with heap := s.heap.update l (Obj.mapSeq fun x => x ++ items2), toks := s.toks }) :=
  .of_wp fun prog w A R s h => by
    obtain ⟨hp, g, d, tk, os⟩ := s; obtain ⟨hl, hb, h⟩ := h; have f1 := idx_int; have f2 := sub_tuple_tuple; have f3 := sub_list_list; have f4 := sub_tuple_list; have f5 := sub_list_tuple;
    have hz' : (items ++ items2).size ≤ sizeLine + 1 := by rw [Array.size_append]; exact hs2
    wp_walk using (wpAny_updateSeq hl rfl (hz := hs1) (_hz' := hz')), wpAny_loadPart' hl, wpAny_loadPart' hb; exact ⟨_, rfl, h⟩
end PySem.AutoSeq1
namespace Rc
open PySem PySem.Spec PyProof.Rows L2
/-! ### xs.extend(t) -/
def rExtT (K : PySem.W.Frag) : V → List V → Hp → VK → Prop := fun x vs H Q => ∃ l b xs zs, x = .ref l ∧ vs = [.ref b] ∧ H l = some (.lst xs) ∧ SqT K H b zs ∧ xs.length + zs.length ≤ sizeLine ∧ Q .non (upd H l (.lst (xs ++ zs)))
theorem mt_extT {X : Cx} : MtM X "list.extend" (rExtT X.K) := by
  intro pins s σ H x vs v us Q I rx rv h
  obtain ⟨l, b, xs, zs, rfl, rfl, hH, hB, hz, q⟩ := h
  cases rx
  obtain ⟨u, rfl, ru⟩ := rv.one
  cases ru
  obtain ⟨z, its, n, r, hl, e⟩ := I.lstM hH
  obtain ⟨its2, r2, ⟨⟨cls, dd, data, sl⟩, e2, hc, n2, hd⟩, z2⟩ := I.tuple hB
  simp only at hc hd
  subst hc hd
  have hl2 := r2.length
  have hsz : its.toArray.size + its2.toArray.size ≤ sizeLine := by rw [List.size_toArray, List.size_toArray]; omega
  have hlong : ¬ (!its.toArray.isEmpty && Builtin.List.listTooLong (its.toArray.size + its2.toArray.size)) = true := by
    rw [notLongL hsz, Bool.and_false]
    exact Bool.false_ne_true
  refine call_meets F.slot_list_extend ⟨_, e, rfl⟩ F.entry_list_extend (F.args_list_extend_2 _ _)
    (AutoSeq1.extend_tuple l its.toArray n b its2.toArray n2 dd sl hlong (by rw [List.size_toArray]; omega) (by omega)) ⟨e, e2, ?_⟩
  refine ⟨.non, _, I.lset (its' := its ++ its2) hH e (by simp) (r.append r2) ?_, rfl, q⟩
  rw [List.length_append]
  omega
theorem MtM.or {X : Cx} {id : String} {r r' : V → List V → Hp → VK → Prop} (h : MtM X id r) (h' : MtM X id r') : MtM X id (fun x xs H Q => r x xs H Q ∨ r' x xs H Q) := fun pins s σ H x xs v us Q I rx rv q => q.elim (h pins s σ H x xs v us Q I rx rv) (h' pins s σ H x xs v us Q I rx rv)
/-- what is put behind an own list -/
def sExtend (i : Nat) (f : EvF) : StF := fun env p => (f env p).bind fun r => match env[i]? with
  | some (some (.own ds)) => (match r.1 with
    | .tup es => if ds.length + es.length ≤ sizeLine then some (.nx (env.set i (some (.own (ds ++ es)))) r.2) else none
    | .lst es => if ds.length + es.length ≤ sizeLine then some (.nx (env.set i (some (.own (ds ++ es)))) r.2) else none
    | _ => none)
  | _ => none
section
variable {X : Cx} {pa : Option Addr} {M0 : Ms} {H0 : Hp} {e : Expr} {f : EvF} {i : Nat} {x : Str} {px apos cpos pos : Pos} {sts : List Stmt} {g : StF}
theorem px_extend (hN : X.N[i]? = some x) (hv : Vis X.env.scope x) (hd : (x == ("__debug__" : Str)) = false) (hcd : (x == ("__classdict__" : Str)) = false) (he : PD X e f)
    (hbase : attributeBase (.Name x px) "extend" X.env (eval (.Name x px) X.env) = eval (.Name x px) X.env)
    (hfew : ((backTo cpos (starEach [e] X.env)).all (fun x => !x.1) && (backToKw cpos (keywordEach [] X.env)).all (fun x => x.1.isSome) && decide ([e].length + ([] : List Keyword).length + (if ([] : List Keyword).isEmpty then 0 else 1) < 30)) = true)
    (hline : (apos.endLine == cpos.line) = true) (hs : starEach [e] X.env = (false, eval e X.env) :: starEach [] X.env) (hplain : (backTo cpos (starEach [] X.env)).any (·.1) = false)
    (hsw : swapsWith (.Call (.Attribute (.Name x px) "extend" apos) [e] [] cpos) none pos.line X.env = pure false) :
    PX X pa M0 H0 (.Expr (.Call (.Attribute (.Name x px) "extend" apos) [e] [] cpos) pos) (sExtend i f) :=
  PS.weak (ps_expr (pe_bm PySem.F.plainAttrs_list PySem.F.slot_list_extend PySem.F.type_list_extend (MtM.or mt_extend mt_extT) (pe_var hN hv hd hcd) (pa_cons he pa_nil hs) hbase hfew hline hs hplain) hsw) fun E σ H ⟨M, env, p, fl, s, q, k⟩ => by
    unfold sExtend at q
    obtain ⟨⟨d, p1⟩, q1, q2⟩ := Option.bind_eq_some_iff.mp q
    dsimp only at q2
    split at q2
    rotate_left
    · cases q2
    rename_i ds hi
    split at q2
    · rename_i es hd
      split at q2
      rotate_left
      · cases q2
      rename_i hl
      cases q2
      obtain ⟨v, h1, a, xs, rfl, m, na, t, r⟩ := s.en.slot i _ hi
      refine ⟨.ref a, h1, .inl ⟨rfl, xs, .inl (.inl t)⟩, ?_⟩
      refine ⟨pa, M, env, p, _, p1, s.en, s.pot, q1, fun v H1 x1 k1 r1 => ?_⟩
      have s1 := s.ext x1 k1
      have t1 : H1 a = some (.lst xs) := x1 a _ na t
      have r1' : Reps X.K pa M H1 ds xs := Reps.up (s.up x1) r
      obtain ⟨b, zs, rfl, tb, rz⟩ := r1
      refine .inr ⟨a, b, xs, zs, rfl, rfl, t1, ?_, by rw [← r.length, ← rz.length]; exact hl, ?_⟩
      · exact tb.sq
      · obtain ⟨s2, u2⟩ := s1.store hi h1 m na (r1'.append rz)
        exact k σ _ M s2 ((s.up x1).trans u2)
    · rename_i es hd
      split at q2
      rotate_left
      · cases q2
      rename_i hl
      cases q2
      obtain ⟨v, h1, a, xs, rfl, m, na, t, r⟩ := s.en.slot i _ hi
      refine ⟨.ref a, h1, .inl ⟨rfl, xs, .inl (.inl t)⟩, ?_⟩
      refine ⟨pa, M, env, p, _, p1, s.en, s.pot, q1, fun v H1 x1 k1 r1 => ?_⟩
      have s1 := s.ext x1 k1
      have t1 : H1 a = some (.lst xs) := x1 a _ na t
      have r1' : Reps X.K pa M H1 ds xs := Reps.up (s.up x1) r
      obtain ⟨b, zs, rfl, tb, rz⟩ := r1
      refine .inl ⟨a, b, xs, zs, rfl, rfl, t1, tb.2, by rw [← r.length, ← rz.length]; exact hl, ?_⟩
      obtain ⟨s2, u2⟩ := s1.store hi h1 m na (r1'.append rz)
      exact k σ _ M s2 ((s.up x1).trans u2)
    · cases q2
end
end Rc

-- Re4
set_option Elab.async false
set_option linter.all false
set_option maxRecDepth 100000
set_option maxHeartbeats 4000000
namespace Rc
open PySem PySem.Spec PyProof.Rows L2
/-! ### a < b < c -/
def evChain (g g' : D → D → Option D) (f1 f2 f3 : EvF) : EvF := fun env p => (f1 env p).bind fun x => (f2 env x.2).bind fun y => (g x.1 y.1).bind fun d => match d with
  | .bl true => (f3 env y.2).bind fun z => (g' y.1 z.1).map fun d => (d, z.2)
  | .bl false => some (.bl false, y.2)
  | _ => none
section
variable {X : Cx} {a b c : Expr} {f1 f2 f3 : EvF} {g g' : D → D → Option D} {pos : Pos}
theorem pd_chain {op op' : CmpOp} (ho : OpR X (compareOp op) (rD2 X.K g)) (ho' : OpR X (compareOp op') (rD2 X.K g')) (ha : PV X a f1) (hb : PV X b f2) (hc : PV X c f3) (hm : lastMarks [op, op'] [b, c] = false) : PD X (.Compare a [op, op'] [b, c] pos) (evChain g g' f1 f2 f3) :=
  PE.weak (pe_chain ho ho' ha hb hc (hm := hm)) fun σ H Q ⟨pa, M, env, p, d, p', hE, hP, hf, k⟩ => by
    unfold evChain at hf
    obtain ⟨⟨x, p1⟩, h1, h2⟩ := Option.bind_eq_some_iff.mp hf
    obtain ⟨⟨y, p2⟩, h3, h4⟩ := Option.bind_eq_some_iff.mp h2
    obtain ⟨e, h5, h6⟩ := Option.bind_eq_some_iff.mp h4
    refine ⟨pa, M, env, p, x, p1, hE, hP, h1, fun v H1 x1 k1 r1 => ?_⟩
    have E1 := hE.ext x1 hP k1
    refine ⟨pa, M, env, p1, y, p2, E1, k1, h3, fun u H2 x2 k2 r2 => ?_⟩
    have E2 := E1.ext x2 k1 k2
    refine ⟨pa, M, p2, x, y, e, E2.dom, k2, r1.ext x2 k1, r2, h5, fun w H3 s3 r3 => ?_⟩
    have x3 : Ext pa H2 H3 := Ext.same s3
    have k3 : PotOk pa M H3 p2 := k2.same s3
    have E3 := E2.ext x3 k2 k3
    split at h6
    · cases r3
      refine ⟨true, rfl, ?_⟩
      rw [if_pos rfl]
      obtain ⟨⟨z, p3⟩, h7, h8⟩ := Option.bind_eq_some_iff.mp h6
      obtain ⟨d', h9, h10⟩ := Option.map_eq_some_iff.mp h8
      cases h10
      refine ⟨pa, M, env, p2, z, p3, E3, k3, h7, fun t H4 x4 k4 r4 => ?_⟩
      refine ⟨pa, M, p3, y, z, d, (E3.ext x4 k3 k4).dom, k4, (r2.ext x3 k2).ext x4 k3, r4, h9, fun w' H5 s5 r5 => ?_⟩
      exact k w' H5 (((x1.trans x2).trans x3).trans (x4.trans (Ext.same s5))) (k4.same s5) r5
    · cases r3
      cases h6
      refine ⟨false, rfl, ?_⟩
      rw [if_neg (by simp)]
      exact k _ H3 ((x1.trans x2).trans x3) k3 rfl
    · cases h6
end
/-! ### f"{x}" -/
def evFmt (f : EvF) : EvF := fun env p => (f env p).bind fun r => (fmtD r.1).map fun y => (.str y, r.2)
theorem pd_fs1 {X : Cx} {e : Expr} {f : EvF} {p1 pos : Pos} (h : PD X e f) : PD X (.JoinedStr [.FormattedValue e (-1) none p1] pos) (evFmt f) :=
  PE.weak (pe_joined1 (pe_fmt h)) fun σ H Q ⟨pa, M, env, p, d, p', hE, hP, hf, k⟩ => by
    unfold evFmt at hf
    obtain ⟨⟨x, q⟩, h1, h2⟩ := Option.bind_eq_some_iff.mp hf
    obtain ⟨y, h3, h4⟩ := Option.map_eq_some_iff.mp h2
    cases h4
    refine ⟨pa, M, env, p, x, q, hE, hP, h1, fun v H1 x1 k1 r1 => ?_⟩
    cases x with
    | str z =>
      obtain ⟨rfl, oz⟩ := r1
      simp only [fmtD] at h3
      split at h3
      · cases h3; exact .inl ⟨_, rfl, by assumption, k _ H1 x1 k1 ⟨rfl, oz⟩⟩
      · cases h3
    | int i =>
      cases r1
      simp only [fmtD] at h3
      split at h3
      · cases h3; exact .inr ⟨_, rfl, by assumption, k _ H1 x1 k1 ⟨rfl, strOk_int _⟩⟩
      · cases h3
    | _ => simp [fmtD] at h3
/-! ### while, at most so often -/
def whileF (c : EvT) (b : StF) : Nat → StF
  | 0 => fun _ _ => none
  | n + 1 => fun env p => (c env p).bind fun r => if r.1 then (b env r.2).bind fun fl => match fl with
      | .nx e q => whileF c b n e q
      | .ct e q => whileF c b n e q
      | .bk e q => some (.nx e q)
      | .rt d q => some (.rt d q)
    else some (.nx env r.2)
theorem px_while {X : Cx} {pa : Option Addr} {M0 : Ms} {H0 : Hp} {c : Expr} {body : List Stmt} {t : EvT} {b : StF} {pos : Pos} {n : Nat} (hp : PassesOwn (model X.prog X.w) X.A X.env X.xe) (hc : PB X c t) (hb : PXs X pa M0 H0 body b) :
    PX X pa M0 H0 (.While c body [] pos) (whileF t b n) := PS.weak (ps_while hp hc hb) fun E σ H ⟨M, env, p, fl, s, e, k⟩ => by
  refine ⟨fun m σ' H' => ∃ M' env' p', StOk X.K pa M0 H0 M' H' σ' env' p' ∧ whileF t b m env' p' = some fl ∧ Up M H M' H', ⟨n, M, env, p, s, e, Up.refl⟩, ?_⟩
  rintro m σ' H' ⟨M', env', p', s', hw, u⟩
  cases m with
  | zero => cases hw
  | succ m =>
    unfold whileF at hw
    obtain ⟨⟨r, q⟩, h1, h2⟩ := Option.bind_eq_some_iff.mp hw
    refine ⟨pa, M', env', p', r, q, s'.en, s'.pot, h1, fun H1 x1 k1 => ?_⟩
    have s1 := s'.ext x1 k1
    have u1 : Up M H M' H1 := u.trans (s'.up x1)
    cases r with
    | false =>
      dsimp only at h2 ⊢
      rw [if_neg (by simp)] at h2 ⊢
      cases h2
      exact k σ' H1 M' s1 u1
    | true =>
      dsimp only at h2 ⊢
      rw [if_pos rfl] at h2 ⊢
      obtain ⟨f1, h3, h4⟩ := Option.bind_eq_some_iff.mp h2
      refine ⟨fun σ2 H2 => ∃ M2 env2 p2, StOk X.K pa M0 H0 M2 H2 σ2 env2 p2 ∧ whileF t b m env2 p2 = some fl ∧ Up M H M2 H2, fun σ2 H2 h => ⟨m, Nat.lt_succ_self m, h⟩, ?_⟩
      refine ⟨M', env', q, f1, s1, h3, ?_⟩
      cases f1 with
      | nx e q => exact fun σ4 H4 M4 s4 u4 => ⟨M4, e, q, s4, h4, u1.trans u4⟩
      | ct e q => exact fun σ4 H4 M4 s4 u4 => ⟨M4, e, q, s4, h4, u1.trans u4⟩
      | bk e q =>
        cases h4
        exact fun σ4 H4 M4 s4 u4 => k σ4 H4 M4 s4 (u1.trans u4)
      | rt r q =>
        cases h4
        exact k
end Rc

-- Re5
set_option Elab.async false
set_option linter.all false
set_option maxRecDepth 100000
set_option maxHeartbeats 4000000
namespace HT
open PySem PySem.Spec PyProof.Rows
section
variable {prog : Program} {w : World} {A : Around} {E : Value → Shared → Prop} {s : Shared}
theorem sliceApplied_rev {sl : Addr} {u : Tok} {n : Nat} {Q : Int × Int × Nat → Shared → Prop} (hs : s.heap.IsSliceOf sl .none .none (.int (-1) u))
    (h : Q ((n : Int) - 1, -1, n) s) : wpAny (model prog w) A (Builtin.Slice.sliceApplied (.ref sl) (pure (n : Int))) Q E s := by
  obtain ⟨os, hos, hcs, hds⟩ := id hs
  unfold Builtin.Slice.sliceApplied Builtin.Slice.sliceFields
  refine wpAny_bind (wpAny_bind (wpAny_field hos hds (x := .none) rfl (wpAny_bind (wpAny_field hos hds (x := .none) rfl (wpAny_bind (wpAny_field hos hds (x := .int (-1) u) rfl (wpAny_pure ?_)))))))
  refine wpAny_bind (slicePart_int ?_)
  show wpAny _ _ (if ((-1 : Int) == 0) = true then _ else _) _ _ s
  rw [if_neg (by decide)]
  refine wpAny_bind (slicePart_none (wpAny_bind (slicePart_none (wpAny_bind (wpAny_pure ?_)))))
  show wpAny _ _ (match Builtin.Slice.sliceAdjust none none (-1) (n : Int) with | (lo, hi) => pure (lo, (-1 : Int), Builtin.Slice.slicePlaces lo hi (-1))) _ _ s
  have e1 : Builtin.Slice.sliceAdjust none none (-1) (n : Int) = ((n : Int) - 1, -1) := rfl
  rw [e1]
  have e2 : Builtin.Slice.slicePlaces ((n : Int) - 1) (-1) (-1) = n := by
    unfold Builtin.Slice.slicePlaces
    rw [if_neg (by decide)]
    split
    · have : ((n : Int) - 1 - -1 - 1) / (- -1) + 1 = n := by
        have : (- -1 : Int) = 1 := rfl
        rw [this, Int.ediv_one]
        omega
      rw [this]
      rfl
    · have : n = 0 := by omega
      subst this
      rfl
  show wpAny _ _ (pure ((n : Int) - 1, (-1 : Int), Builtin.Slice.slicePlaces ((n : Int) - 1) (-1) (-1))) _ _ s
  rw [e2]
  exact wpAny_pure h
theorem pick_rev (xs : Array Value) : ((List.range xs.size).filterMap fun (m : Nat) => xs[(((xs.size : Int) - 1) + (m : Int) * (-1)).toNat]?).toArray = xs.toList.reverse.toArray := by
  congr 1
  have e : ∀ m ∈ List.range xs.size, xs[(((xs.size : Int) - 1) + (m : Int) * (-1)).toNat]? = some (xs.toList.reverse.getD m .none) := by
    intro m hm
    have hm' : m < xs.size := List.mem_range.mp hm
    have e1 : (((xs.size : Int) - 1) + (m : Int) * (-1)).toNat = xs.size - 1 - m := by omega
    rw [e1, Array.getElem?_eq_getElem (by omega)]
    rw [List.getD_eq_getElem?_getD, List.getElem?_reverse (by simpa using hm')]
    simp [Array.getElem?_eq_getElem (show xs.size - 1 - m < xs.size by omega)]
  have e2 : ∀ (l : List Nat), (∀ m ∈ l, xs[(((xs.size : Int) - 1) + (m : Int) * (-1)).toNat]? = some (xs.toList.reverse.getD m .none)) → (l.filterMap fun (m : Nat) => xs[(((xs.size : Int) - 1) + (m : Int) * (-1)).toNat]?) = l.map fun m => xs.toList.reverse.getD m .none := by
    intro l
    induction l with
    | nil => intro _; rfl
    | cons m l ih => intro h; rw [List.filterMap_cons, h m List.mem_cons_self, List.map_cons, ih fun x hx => h x (List.mem_cons_of_mem _ hx)]
  rw [e2 _ e]
  refine List.ext_getElem (by simp) fun i h1 h2 => ?_
  have hi : i < xs.size := by simpa using h1
  rw [List.getElem_map, List.getElem_range, List.getD_eq_getElem?_getD, List.getElem?_eq_getElem h2]
  rfl
theorem getItem_tuple_rev {t sl : Addr} {items : Array Value} {u : Tok} {Q : Value → Shared → Prop} (ht : IsTup s.heap t items) (hs : s.heap.IsSliceOf sl .none .none (.int (-1) u))
    (h : Q (.ref s.heap.objs.size) { s with heap := s.heap.push { cls := .type "tuple", data := .seq items.toList.reverse.toArray } })
    (hsz : items.size ≤ sizeLine) : wpAny (model prog w) A (getItem (.ref t) (.ref sl)) Q E s := by
  have htake : sizeOk (.seq items.toList.reverse.toArray) := by
    show items.toList.reverse.toArray.size ≤ sizeLine
    rw [List.size_toArray, List.length_reverse, Array.length_toList]
    exact hsz
  obtain ⟨os, hos, hcs, hds⟩ := id hs
  have hTs : s.TypeIs (.ref sl) "slice" := ⟨os, hos, hcs⟩
  unfold getItem
  try with_reducible refine wpAny_holding ?_
  first | refine wpAny_bind (wpAny_pure ?_) | skip
  refine wpAny_bind (wpAny_sequenceKey ht.typeIs (by decide) ?_)
  refine wpAny_bind (wpAny_callSpecial?_slot (name := Str.ofString "__getitem__") ht.typeIs PyProof.Rows.slot_tuple_getitem
    (wpAny_call_entry PyProof.Rows.slot_tuple_getitem ht.typeIs entry_tuple_getitem ?_ (args_tuple_getitem _ _)))
  show wpAny _ _ (Builtin.Tuple.tupleItemsOf (.ref t) >>= _) _ _ s
  refine wpAny_bind (tupleItemsOf_ ht ?_)
  refine wpAny_bind (wpAny_typeOf hTs ?_)
  rw [if_pos (by decide)]
  refine wpAny_bind (sliceApplied_rev hs ?_)
  have hno : ¬ (((((items.size : Int) - 1) == 0) && (-1 : Int) == 1 && items.size == items.size) = true) := by
    intro q
    rw [Bool.and_eq_true, Bool.and_eq_true] at q
    exact absurd q.1.2 (by decide)
  show wpAny _ _ (if ((((items.size : Int) - 1) == 0) && (-1 : Int) == 1 && items.size == items.size) = true then _ else _) _ _ s
  rw [if_neg hno, pick_rev]
  first
    | exact wpAny_bind (m := Builtin.Tuple.tupleExact _) (wpAny_newObj_type (wpAny_pure ⟨_, rfl, wpAny_pure h⟩) htake)
    | exact wpAny_bind (m := Builtin.Tuple.tupleExact _) (wpAny_newObj_type (wpAny_bind (wpAny_pure (wpAny_pure ⟨_, rfl, wpAny_pure h⟩))) htake)
    | exact wpAny_bind (wpAny_bind (m := Builtin.Tuple.tupleExact _) (wpAny_newObj_type (wpAny_pure (wpAny_pure ⟨_, rfl, wpAny_pure h⟩)) htake))
    | exact wpAny_bind (wpAny_bind (m := Builtin.Tuple.tupleExact _) (wpAny_newObj_type (wpAny_pure ⟨_, rfl, wpAny_pure h⟩) htake))
end
end HT
namespace Rc
open PySem PySem.Spec PyProof.Rows L2
/-! ### t[::-1] -/
def revD : D → Option D
  | .tup ds => some (.tup ds.reverse)
  | _ => none
theorem Reps.reverse {K : PySem.W.Frag} {pa : Option Addr} {M : Ms} {H : Hp} : ∀ {ds : List D} {vs : List V}, Reps K pa M H ds vs → Reps K pa M H ds.reverse vs.reverse
  | [], _, h => by cases h; exact .nil
  | d :: ds, _, ⟨v, r, rfl, h1, h2⟩ => by
    rw [List.reverse_cons, List.reverse_cons]
    exact h2.reverse.append (.cons h1 .nil)
def tRevT (K : PySem.W.Frag) (te : TE) : TE := fun σ H Q => te σ H fun x H1 => ∃ a xs, x = .ref a ∧ SqT K H1 a xs ∧ ∀ p, H1 p = none → Q (.ref p) (upd H1 p (.tup xs.reverse))
theorem pe_revT {X : Cx} {e : Expr} {te : TE} {k : Nat} {p1 p2 p3 pos : Pos} (he : PE X e te) : PE X (.Subscript e (.Slice none none (some (.UnaryOp .USub (.Constant (.int 1) k p1) p2)) p3) pos) (tRevT X.K te) := by
  refine ⟨fun pins s σ H Q I h => ?_⟩
  refine Subscript_ (thn (he.run pins s σ H _ I h) fun v s1 ⟨x, H1, I1, r1, q1⟩ => ?_)
  obtain ⟨a, xs, ex, hx, q⟩ := q1
  subst ex
  cases r1
  have hst : PO X (some (.UnaryOp .USub (.Constant (.int 1) k p1) p2)) (tPart (tUn (rU fun i => .int (-i)) (tC (.int 1)))) := po_some (pe_un un_neg pe_int)
  refine wpAny_Slice (thn (po_none.run pins s1 σ H1 (fun o H2 => o = none ∧ H2 = H1) I1 ⟨rfl, rfl⟩) fun vl s2 ⟨l, H2, I2, pl, el, e2⟩ => ?_)
  subst el e2
  refine thn (po_none.run pins s2 σ H2 (fun o H3 => o = none ∧ H3 = H2) I2 ⟨rfl, rfl⟩) fun vu s3 ⟨u, H3, I3, pu, eu, e3⟩ => ?_
  subst eu e3
  refine thn (hst.run pins s3 σ H3 (fun o H4 => o = some (-1) ∧ H4 = H3) I3 ⟨1, rfl, -1, rfl, rfl, rfl⟩) fun vs s4 ⟨o, H4, I4, ps, eo, e4⟩ => ?_
  subst eo e4
  have I5 : Inv X pins σ H4 { s4 with heap := s4.heap.push { cls := .type "slice", data := .fields #[vl, vu, vs] } } := I4.kept (t' := s4.toks) fun b ob q => Heap.get?_push_of_some _ q
  obtain ⟨its, r, ht, hz⟩ := I5.tuple hx
  have hlen := r.length
  cases pl
  cases pu
  obtain ⟨tk, rfl⟩ : ∃ tk, vs = .int (-1) tk := by cases ps; exact ⟨_, rfl⟩
  show wpAny (model X.prog X.w) X.A (subscriptTail e (.Slice none none (some (.UnaryOp .USub (.Constant (.int 1) k p1) p2)) p3) (.ref a) (.ref s4.heap.objs.size)) (EP X pins σ Q) X.xe { s4 with heap := s4.heap.push { cls := .type "slice", data := .fields #[.none, .none, .int (-1) tk] } }
  refine tail_any (ops := [.ref a, .ref s4.heap.objs.size]) ht.typeIs (PyProof.Rows.slot_tuple_getitem.lookup) ?_ (by with_unfolding_all rfl)
  refine HT.getItem_tuple_rev ht (Heap.IsSliceOf.new _ .none .none (.int (-1) tk)) ?_ (by rw [List.size_toArray]; omega)
  refine ⟨.ref _, _, I5.laid (t' := s4.toks) (o := .tup xs.reverse) (fun b ob q => Heap.get?_push_of_some _ q) (Nat.le_refl _) ?_, rfl, q _ (I5.hok.fresh (Nat.le_refl _))⟩
  exact ⟨by rw [List.length_reverse]; exact hz, _, r.reverse, IsTup.new _ _⟩
theorem pd_rev {X : Cx} {e : Expr} {f : EvF} {k : Nat} {p1 p2 p3 pos : Pos} (he : PD X e f) : PD X (.Subscript e (.Slice none none (some (.UnaryOp .USub (.Constant (.int 1) k p1) p2)) p3) pos) (op1 revD f) :=
  PE.weak (pe_revT he) fun σ H Q ⟨pa, M, env, p, d, p', hE, hP, hf, kk⟩ => by
    unfold op1 at hf
    obtain ⟨⟨x, q⟩, h1, h2⟩ := Option.bind_eq_some_iff.mp hf
    obtain ⟨d', h3, h4⟩ := Option.map_eq_some_iff.mp h2
    cases h4
    refine ⟨pa, M, env, p, x, q, hE, hP, h1, fun v H1 x1 k1 r1 => ?_⟩
    cases x with
    | tup es =>
      cases h3
      obtain ⟨a, xs, rfl, t, r⟩ := r1
      refine ⟨a, xs, rfl, t.sq, fun b hb => ?_⟩
      have s1 : Same H1 (upd H1 b (.tup xs.reverse)) := Same.upd hb
      have dom := (hE.ext x1 hP k1).dom
      exact kk _ _ (x1.trans (Ext.same s1)) (k1.same s1) ⟨b, _, rfl, .inl ⟨new_not (pa := pa) dom hb, upd_same⟩, Reps.up (Up.same s1) r.reverse⟩
    | _ => cases h3
/-! ### str(an instance) -/
open Builtin Builtin.Str PySem.W PySem.Calls in
theorem str_inst {prog : Program} {w : World} {A : Around} {E : Value → Shared → Prop} {s : Shared} {K : PySem.W.Frag} {x C f : Addr} {ox : Obj} {od : Option Obj} {Q : Value → Shared → Prop} (hu : A.in1.in1.units < cLine) (KX : K.In s.heap) (I : InstAt s.heap x ox C od)
    (hs : findIn K (.ref C) "__str__" = some (some (.ref f))) (hf : isFn K (.ref f) = true) (h : wpAny (model prog w) A.in1.in1 (call (.ref f) [.ref x]) (StrBack Q) E s) : wpAny (model prog w) A (call (.type "str") [.ref x]) Q E s := by
  refine callType_codes (T := "str") (Bi := Builtin.«object.__init__») (Q₁ := fun r s₁ => ∃ y u, r = .str y u ∧ Q r s₁) PySem.F.called_str (PySem.F.typeCall_str_1 _) PySem.F.entry_object_init ?_ ?_
  · refine codeAny_of_tree ?_
    show wpAny _ A.in1.in1 (do checkBuiltinCall "str.__new__" ⟨[.type "str", .ref x], []⟩; again (.builtin "str.__new__" ⟨[.type "str", .ref x], []⟩)) _ _ s
    refine wpAny_bind (wpAny_of_eq (PySem.F.newCall_str_1 _) (wpAny_pure ⟨plainId_quiet (by decide +kernel) _, codeAny_builtin PySem.F.entry_str_new ?_⟩))
    rw [Around.under_plainId (by decide +kernel) _]
    rw [str_new_tree]
    refine wpAny_bind (wpAny_pure ?_)
    refine wpAny_bind (wpAny_of_eq isSubtype_str_str ?_)
    have key : wpAny (model prog w) A.in1.in1 (PySem.Builtin.Str.strOf (.ref x)) (fun r s₁ => ∃ y u, r = .str y u ∧ Q r s₁) E s := by
      unfold PySem.Builtin.Str.strOf
      rw [show isExactStr (.ref x) = false from rfl]
      refine wpAny_bind (m := cRoomFor _ _) (wpAny_cRoomFor hu ?_)
      refine wpAny_bind (m := callSpecial? (.ref x) (Str.ofString "__str__")) (special_fn KX I hs (beq_iff_eq.mp hf) (wpAny_mono h (fun r s' z => ?_) fun _ _ y => y))
      cases r <;> first | exact z.elim | exact wpAny_pure ⟨_, _, rfl, z⟩
    exact wpAny_bind (wpAny_mono key (fun r s₁ hr => wpAny_pure hr) fun _ _ y => y)
  · rintro obj s₁ ⟨y, u, rfl, hq⟩
    exact ⟨typeIs_str _ _ _, PySem.F.args_object_init_2 _ _, object_init_meets PySem.F.called_str.init.lookup PySem.F.called_str.made (by decide) prog w A.in1 _ s₁ ⟨typeIs_str _ _ _, rfl, hq⟩⟩
end Rc

-- Re6
set_option Elab.async false
set_option linter.all false
set_option maxRecDepth 100000
set_option maxHeartbeats 4000000
namespace Rc
open PySem PySem.Spec PyProof.Rows L2
/-! ### list(range(i, j)) -/
def intsV (i : Int) (n : Nat) : List V := (List.range n).map fun (k : Nat) => V.int (i + k)
def rListR : List V → Hp → VK → Prop := fun vs H Q => ∃ a i j, vs = [.ref a] ∧ H a = some (.rng i j) ∧ -1000000 ≤ i ∧ i ≤ 1000000 ∧ -1000000 ≤ j ∧ j ≤ 1000000 ∧ ∀ p, H p = none → Q (.ref p) (upd H p (.lst (intsV i (j - i).toNat)))
theorem size_rng (i j : Int) : Builtin.Range.rangeSize i j 1 = ((j - i).toNat : Int) := by
  unfold Builtin.Range.rangeSize
  rw [if_pos (by decide), Int.ediv_one]
  split <;> omega
theorem cr_listR {X : Cx} (hc : X.calm = true) : CallR X (.type "list") rListR := by
  intro pins s σ H vs us Q I r h
  obtain ⟨a, i, j, rfl, ha, h1, h2, h3, h4, q⟩ := h
  obtain ⟨u, rfl, ru⟩ := vals1 r
  cases ru
  obtain ⟨t, u, v, e⟩ := (show ObjOk X.prog X.w H s.heap a (.rng i j) from I.hok a _ ha)
  refine call_list_range (n := (j - i).toNat) (I.ok.hd hc) e ?_ (size_rng i j) (by omega) fun h' tk acc' c' hk hS hacc => ?_
  · exact small_one (by omega) (by omega) (by omega) (by omega)
  · refine ⟨.ref s.heap.objs.size, upd H s.heap.objs.size (.lst (intsV i (j - i).toNat)), I.laid hk (Nat.le_refl _) (show ObjOk X.prog X.w _ _ _ (.lst (intsV i (j - i).toNat)) from ⟨?_, acc'.toList, c', ?_, ?_⟩), rfl, q _ (I.hok.fresh (Nat.le_refl _))⟩
    · have z : (intsV i (j - i).toNat).length = (j - i).toNat := by simp [intsV]
      rw [z]
      have : (j - i).toNat ≤ 2000000 := by omega
      exact Nat.le_trans this (by decide)
    · have el : acc'.toList.length = acc'.size := by simp
      refine vals_of_at (by simp [intsV, hacc.1]) fun m x y g1 g2 => ?_
      obtain ⟨t, rfl⟩ := hacc.2 m y (by rw [← Array.getElem?_toList]; exact g2)
      unfold intsV at g1
      rw [List.getElem?_map] at g1
      obtain ⟨m', g3, g4⟩ := Option.map_eq_some_iff.mp g1
      have g5 : m' = m := by
        have := List.getElem?_eq_some_iff.mp g3
        obtain ⟨l, q⟩ := this
        simpa using q.symm
      subst g5 g4
      exact ⟨t, by rw [Int.mul_one]⟩
    · rw [Array.toArray_toList]
      exact hS
def lrngD : D → D → Option D
  | .int i, .int j => if -1000000 ≤ i ∧ i ≤ 1000000 ∧ -1000000 ≤ j ∧ j ≤ 1000000 then some (.lst ((List.range (j - i).toNat).map fun (k : Nat) => .int (i + k))) else none
  | _, _ => none
theorem reps_intsV {K : PySem.W.Frag} {pa : Option Addr} {M : Ms} {H : Hp} (i : Int) : ∀ l : List Nat, Reps K pa M H (l.map fun (k : Nat) => D.int (i + k)) (l.map fun (k : Nat) => V.int (i + k))
  | [] => .nil
  | _ :: l => .cons rfl (reps_intsV i l)
theorem pd_lrng {X : Cx} {a b : Expr} {f : EvA} {px py p1 pos : Pos} (hc : X.calm = true) (g1 : Gl X "list") (m1 : X.mg "list" = none) (g2 : Gl X "range") (m2 : X.mg "range" = none) (ha : PL X [a, b] f)
    (hs : starEach [a, b] X.env = (false, eval a X.env) :: starEach [b] X.env) (hp : (backTo p1 (starEach [b] X.env)).any (·.1) = false) :
    PD X (.Call (.Name "list" px) [.Call (.Name "range" py) [a, b] [] p1] [] pos) (fun env p => (f env p).bind fun r => match r.1 with | [x, y] => (lrngD x y).map fun d => (d, r.2) | _ => none) :=
  PE.weak (pe_callTy (cr_listR hc) g1 m1 rfl (pa_cons (pe_callTy cr_range2 g2 m2 rfl ha (he := hs) (hpl := hp)) pa_nil rfl)) fun σ H Q ⟨pa, M, env, p, d, p', hE, hP, hf, k⟩ => by
    obtain ⟨⟨ds, q⟩, h1, h2⟩ := Option.bind_eq_some_iff.mp hf
    dsimp only at h2
    split at h2
    rotate_left
    · cases h2
    rename_i x y
    obtain ⟨d', h3, h4⟩ := Option.map_eq_some_iff.mp h2
    cases h4
    refine ⟨pa, M, env, p, _, _, hE, hP, h1, fun vs H1 x1 k1 r1 => ?_⟩
    obtain ⟨v1, r2, rfl, ra, v2, r3, rfl, rb, r4⟩ := r1
    cases r4
    unfold lrngD at h3
    split at h3
    rotate_left
    · cases h3
    rename_i i j
    split at h3
    rotate_left
    · cases h3
    rename_i hb
    cases h3
    cases ra
    cases rb
    refine ⟨i, j, rfl, fun b hb1 => ?_⟩
    have s1 : Same H1 (upd H1 b (.rng i j)) := Same.upd hb1
    have dom := (hE.ext x1 hP k1).dom
    refine ⟨b, i, j, rfl, upd_same, hb.1, hb.2.1, hb.2.2.1, hb.2.2.2, fun c hc1 => ?_⟩
    have s2 : Same (upd H1 b (.rng i j)) (upd (upd H1 b (.rng i j)) c (.lst (intsV i (j - i).toNat))) := Same.upd hc1
    have kk1 : PotOk pa M (upd H1 b (.rng i j)) p' := k1.same s1
    have x12 : Ext pa H1 (upd H1 b (.rng i j)) := Ext.same s1
    refine k _ _ ((x1.trans x12).trans (Ext.same s2)) (kk1.same s2) ⟨c, _, rfl, ⟨new_not (pa := pa) (((hE.ext x1 hP k1).ext x12 k1 kk1).dom) hc1, upd_same⟩, reps_intsV i _⟩
end Rc

-- Rd10
set_option Elab.async false
set_option linter.all false
set_option maxRecDepth 100000
set_option maxHeartbeats 4000000
namespace Rc
open PySem PySem.Spec PyProof.Rows L2

/-! ### the program's text without places -/
inductive Bif where
  | len | int | abs | bool | max | min | tuple | list | all | any | sorted
  deriving DecidableEq
def Bif.name : Bif → Str
  | .len => "len" | .int => "int" | .abs => "abs" | .bool => "bool" | .max => "max" | .min => "min" | .tuple => "tuple" | .list => "list" | .all => "all" | .any => "any" | .sorted => "sorted"
mutual
inductive IE where
  | var (i : Nat) | own (i : Nat) | con (d : D) | glo (x : Str)
  | un (op : UnaryOp) (a : IE) | not (a : IE) | bin (op : Operator) (a b : IE) | cmp (op : CmpOp) (a b : IE)
  | and (a b : IE) | or (a b : IE) | ite (c : IT) (a b : IE)
  | tup (as : List IE) | lst (as : List IX)
  | ix (a i : IE) | tab (x : Str) (i : IE)
  | sl (a : IE) (lo hi : IO)
  | call (x : Str) (as : List IE)
  | mk (c : Str) (as : List IE)
  | mkL (i : Nat) (as : List IE)
  | bi (f : Bif) (as : List IE)
  | isi (a c : IE)
  | attr (f : Str) (a : IE)
  | slf (c : Str) (i : Nat) (f : Str)
  | meth (a : IE) (m : Str) (as : List IE)
  | cmeth (c m : Str) (as : List IE)
  | lc (t : Tg) (own : List (Str × Nat)) (it : II) (c : IC) (e : IE)
  | fs (ps : List IF)
  | rcmp (eq : Bool) (a b : IE)
  | pix (i j : Nat)
  | chain (o p : CmpOp) (a b c : IE)
  | rev (a : IE) | lrng (as : List IE) | str1 (a : IE) | fs1 (a : IE)
/-- an item of a display -/
inductive IX where
  | one (a : IE) | star (a : IE)
/-- a part of an f-string -/
inductive IF where
  | txt (z : Str) | val (a : IE)
inductive IT where
  | val (a : IE) | not (t : IT) | and (s t : IT) | or (s t : IT) | cmp (op : CmpOp) (a b : IE) | rcmp (eq : Bool) (a b : IE)
inductive IO where
  | no | yes (a : IE)
inductive IC where
  | no | yes (a : IT)
inductive II where
  | items (a : IE) | rng1 (a : IE) | rng2 (a b : IE) | zip (a b : IE) | enum (a : IE)
end

/-! ### what it is worth: trees -/
def mVar (i : Nat) : Env → Tr D := fun env => match env[i]? with
  | some (some (.dat d)) => .ret d
  | _ => .fail
def mOwn (i : Nat) : Env → Tr D := fun env => match env[i]? with
  | some (some (.own ds)) => .ret (.lst ds)
  | _ => .fail
def potJ (p : Pot) : Nat → Option Int
  | 0 => some p.o
  | 1 => some p.m
  | 2 => some p.c
  | _ => none
def setJ (p : Pot) (v : Int) : Nat → Option Pot
  | 0 => some { p with o := v }
  | 1 => some { p with m := v }
  | 2 => some { p with c := v }
  | _ => none
def mPix (i j : Nat) : Env → Tr D := fun env => match env[i]? with
  | some (some (.dat .pot)) => .get fun p => Tr.of ((potJ p j).map .int)
  | _ => .fail
def mSelf (c0 : Str) (i : Nat) (f : Str) : Env → Tr D := fun env => match env[i]? with
  | some (some (.slf c fs)) => if c = c0 then Tr.of (fs.lookup f) else .fail
  | _ => .fail
def mMkL (mak : Str → Option FnI) (i : Nat) (ds : List D) : Env → Tr D := fun env => match env[i]? with
  | some (some (.dat (.cls c))) => mkT c (mak c) ds
  | _ => .fail
def truT (d : D) : Tr Bool := Tr.of (truD d)
def tabD (kvs : List (Str × D)) : D → Option D
  | .str z => kvs.lookup z
  | _ => none
def sorted2D (ds : List D) : Option D := match sortedD ds with
  | some d => some d
  | none => sortedTD ds
def stT : D → Tr D
  | .str x => .ret (.str x)
  | _ => .fail
/-- str(an instance) -/
def strT (G : Gs) : D → Tr D
  | .obj c fs => (callT (G.met c "__str__") [.obj c fs]).bind stT
  | _ => .fail
def chainT (o p : CmpOp) (x y : D) (z : Tr D) : Tr D := (Tr.of (cmpD o x y)).bind fun d => match d with
  | .bl true => z.bind fun z => Tr.of (cmpD p y z)
  | .bl false => .ret (.bl false)
  | _ => .fail
def lrngT : List D → Tr D
  | [x, y] => Tr.of (lrngD x y)
  | _ => .fail
def bifT (G : Gs) : Bif → List D → Tr D
  | .len, ds => Tr.of (lenD ds)
  | .int, ds => Tr.of (intD ds)
  | .abs, ds => Tr.of (absD ds)
  | .bool, ds => (match ds with
    | [.obj c fs] => (callT (G.met c "__bool__") [.obj c fs]).bind blT
    | ds => Tr.of (boolD ds))
  | .max, ds => Tr.of (maxD ds)
  | .min, ds => Tr.of (minD ds)
  | .tuple, ds => Tr.of (tupleD ds)
  | .list, ds => Tr.of (listD2 ds)
  | .all, ds => Tr.of (allD ds)
  | .any, ds => Tr.of (anyD ds)
  | .sorted, ds => Tr.of (sorted2D ds)
def lcT (g : D → Option Env) (c : Env → Tr Bool) (e : Env → Tr D) : List D → Tr (List D)
  | [] => .ret []
  | d :: ds => (Tr.of (g d)).bind fun env1 => (c env1).bind fun b => if b then (e env1).bind fun r => (lcT g c e ds).bind fun q => .ret (r :: q) else lcT g c e ds
def optT {α : Type} (b : Bool) (a : α) : Tr α := if b then .ret a else .fail
def itemsT (d : D) : Tr (List D) := Tr.of (itemsD d)
def starD : D → Option (List D)
  | .tup ds => some ds
  | .lst ds => some ds
  | _ => none
def intT : D → Tr (Option Int)
  | .int i => .ret (some i)
  | _ => .fail
section
variable (G : Gs)
mutual
def em : IE → Env → Tr D
  | .var i => mVar i
  | .own i => mOwn i
  | .con d => fun _ => .ret d
  | .glo x => fun _ => Tr.of (G.glo x)
  | .un op a => fun env => (em a env).bind fun x => unT G op x
  | .not a => fun env => (em a env).bind fun x => (truT x).bind fun b => .ret (.bl (!b))
  | .bin op a b => fun env => (em a env).bind fun x => (em b env).bind fun y => binT G op x y
  | .cmp op a b => fun env => (em a env).bind fun x => (em b env).bind fun y => cmpT G op x y
  | .and a b => fun env => (em a env).bind fun x => (truT x).bind fun t => if t then em b env else .ret x
  | .or a b => fun env => (em a env).bind fun x => (truT x).bind fun t => if t then .ret x else em b env
  | .ite c a b => fun env => (emT c env).bind fun t => if t then em a env else em b env
  | .tup as => fun env => (ems as env).bind fun ds => optT (decide (ds.length ≤ sizeLine)) (.tup ds)
  | .lst as => fun env => (emX as env).bind fun ds => optT (decide (ds.length ≤ sizeLine)) (.lst ds)
  | .ix a i => fun env => (em a env).bind fun x => (em i env).bind fun y => Tr.of (ixD x y)
  | .tab x i => fun env => (em i env).bind fun y => Tr.of ((G.tab x).bind fun kvs => tabD kvs y)
  | .sl a lo hi => fun env => (em a env).bind fun x => (emO lo env).bind fun l => (emO hi env).bind fun h => Tr.of (slD x l h)
  | .call x as => fun env => (ems as env).bind fun ds => callT (G.fn x) ds
  | .mk c as => fun env => (ems as env).bind fun ds => mkT c (G.mak c) ds
  | .mkL i as => fun env => (ems as env).bind fun ds => mMkL G.mak i ds env
  | .bi f as => fun env => (ems as env).bind fun ds => bifT G f ds
  | .isi a c => fun env => (em a env).bind fun x => (em c env).bind fun y => Tr.of (isiD G.known [x, y])
  | .attr f a => fun env => (em a env).bind fun x => attT G.att f x
  | .slf c i f => mSelf c i f
  | .meth a m as => fun env => (em a env).bind fun x => (ems as env).bind fun ds => metT G.met m x ds
  | .cmeth c m as => fun env => (ems as env).bind fun ds => callT (G.cme c m) (.cls c :: ds)
  | .lc t own it c e => fun env => (emI it env).bind fun ds => (optT (decide (ds.length ≤ sizeLine)) ()).bind fun _ => (lcT (fun d => setT t d (wipeE env (own.map (·.2)))) (emC c) (em e) ds).bind fun r => .ret (.lst r)
  | .fs ps => fun env => (emF ps Str.empty env).bind fun z => .ret (.str z)
  | .rcmp eq a b => fun env => (em a env).bind fun x => (em b env).bind fun y => Tr.of (rcmpD eq x y)
  | .pix i j => mPix i j
  | .chain o p a b c => fun env => (em a env).bind fun x => (em b env).bind fun y => chainT o p x y (em c env)
  | .rev a => fun env => (em a env).bind fun x => Tr.of (revD x)
  | .lrng as => fun env => (ems as env).bind lrngT
  | .str1 a => fun env => (em a env).bind fun x => strT G x
  | .fs1 a => fun env => (em a env).bind fun x => Tr.of ((fmtD x).map .str)
def ems : List IE → Env → Tr (List D)
  | [] => fun _ => .ret []
  | a :: as => fun env => (em a env).bind fun x => (ems as env).bind fun r => .ret (x :: r)
def emX : List IX → Env → Tr (List D)
  | [] => fun _ => .ret []
  | .one a :: as => fun env => (em a env).bind fun x => (emX as env).bind fun r => .ret (x :: r)
  | .star a :: as => fun env => (em a env).bind fun x => (Tr.of (starD x)).bind fun xs => (emX as env).bind fun r => .ret (xs ++ r)
def emF : List IF → Str → Env → Tr Str
  | [], acc => fun _ => .ret acc
  | .txt z :: r, acc => fun env => (optT (decide ((acc ++ z).length ≤ sizeLine)) ()).bind fun _ => emF r (acc ++ z) env
  | .val a :: r, acc => fun env => (em a env).bind fun x => (Tr.of (fmtD x)).bind fun y => (optT (decide ((acc ++ y).length ≤ sizeLine)) ()).bind fun _ => emF r (acc ++ y) env
def emT : IT → Env → Tr Bool
  | .val a => fun env => (em a env).bind truT
  | .not t => fun env => (emT t env).bind fun b => .ret (!b)
  | .and s t => fun env => (emT s env).bind fun b => if b then emT t env else .ret false
  | .or s t => fun env => (emT s env).bind fun b => if b then .ret true else emT t env
  | .cmp op a b => fun env => (em a env).bind fun x => (em b env).bind fun y => (cmpT G op x y).bind truT
  | .rcmp eq a b => fun env => (em a env).bind fun x => (em b env).bind fun y => (Tr.of (rcmpD eq x y)).bind truT
def emO : IO → Env → Tr (Option Int)
  | .no => fun _ => .ret none
  | .yes a => fun env => (em a env).bind intT
def emC : IC → Env → Tr Bool
  | .no => fun _ => .ret true
  | .yes t => emT t
def emI : II → Env → Tr (List D)
  | .items a => fun env => (em a env).bind itemsT
  | .rng1 a => fun env => (em a env).bind fun x => Tr.of (rngD [x])
  | .rng2 a b => fun env => (em a env).bind fun x => (em b env).bind fun y => Tr.of (rngD [x, y])
  | .zip a b => fun env => (em a env).bind fun x => (em b env).bind fun y => Tr.of (zipsD [x, y])
  | .enum a => fun env => (em a env).bind fun x => Tr.of (enumsD [x])
end
end

/-! ### looks at a text, each with its one way in -/
def onName (e : Expr) (f : Str → Bool) : Bool := match e with
  | .Name x _ => f x
  | _ => false
theorem onName_inv {e : Expr} {f : Str → Bool} (h : onName e f = true) : ∃ x p, e = .Name x p ∧ f x = true := by
  unfold onName at h; split at h
  · exact ⟨_, _, rfl, h⟩
  · cases h
def onCon (e : Expr) (f : Const → Bool) : Bool := match e with
  | .Constant c _ _ => f c
  | _ => false
theorem onCon_inv {e : Expr} {f : Const → Bool} (h : onCon e f = true) : ∃ c j p, e = .Constant c j p ∧ f c = true := by
  unfold onCon at h; split at h
  · exact ⟨_, _, _, rfl, h⟩
  · cases h
def onUn (e : Expr) (f : UnaryOp → Expr → Bool) : Bool := match e with
  | .UnaryOp op x _ => f op x
  | _ => false
theorem onUn_inv {e : Expr} {f : UnaryOp → Expr → Bool} (h : onUn e f = true) : ∃ op x p, e = .UnaryOp op x p ∧ f op x = true := by
  unfold onUn at h; split at h
  · exact ⟨_, _, _, rfl, h⟩
  · cases h
def onBin (e : Expr) (f : Expr → Operator → Expr → Bool) : Bool := match e with
  | .BinOp x o y _ => f x o y
  | _ => false
theorem onBin_inv {e : Expr} {f : Expr → Operator → Expr → Bool} (h : onBin e f = true) : ∃ x o y p, e = .BinOp x o y p ∧ f x o y = true := by
  unfold onBin at h; split at h
  · exact ⟨_, _, _, _, rfl, h⟩
  · cases h
def onCmp (e : Expr) (f : Expr → CmpOp → Expr → Bool) : Bool := match e with
  | .Compare x [o] [y] _ => f x o y
  | _ => false
theorem onCmp_inv {e : Expr} {f : Expr → CmpOp → Expr → Bool} (h : onCmp e f = true) : ∃ x o y p, e = .Compare x [o] [y] p ∧ f x o y = true := by
  unfold onCmp at h; split at h
  · exact ⟨_, _, _, _, rfl, h⟩
  · cases h
def onChain (e : Expr) (f : Expr → CmpOp → Expr → CmpOp → Expr → Bool) : Bool := match e with
  | .Compare x [o, q] [y, z] _ => f x o y q z
  | _ => false
theorem onChain_inv {e : Expr} {f : Expr → CmpOp → Expr → CmpOp → Expr → Bool} (h : onChain e f = true) : ∃ x o y q z p, e = .Compare x [o, q] [y, z] p ∧ f x o y q z = true := by
  unfold onChain at h; split at h
  · exact ⟨_, _, _, _, _, _, rfl, h⟩
  · cases h
def onRev (e : Expr) (f : Expr → Bool) : Bool := match e with
  | .Subscript x (.Slice none none (some (.UnaryOp .USub (.Constant (.int z) _ _) _)) _) _ => decide (z = 1) && f x
  | _ => false
theorem onRev_inv {e : Expr} {f : Expr → Bool} (h : onRev e f = true) : ∃ x k p1 p2 p3 p, e = .Subscript x (.Slice none none (some (.UnaryOp .USub (.Constant (.int 1) k p1) p2)) p3) p ∧ f x = true := by
  unfold onRev at h; split at h
  · simp only [Bool.and_eq_true, decide_eq_true_eq] at h
    obtain ⟨rfl, h⟩ := h
    exact ⟨_, _, _, _, _, _, rfl, h⟩
  · cases h
def onFs1 (e : Expr) (f : Expr → Bool) : Bool := match e with
  | .JoinedStr [a] _ => f a
  | _ => false
theorem onFs1_inv {e : Expr} {f : Expr → Bool} (h : onFs1 e f = true) : ∃ a p, e = .JoinedStr [a] p ∧ f a = true := by
  unfold onFs1 at h; split at h
  · exact ⟨_, _, rfl, h⟩
  · cases h
def onBool (e : Expr) (f : BoolOp → Expr → Expr → List Expr → Pos → Bool) : Bool := match e with
  | .BoolOp o (x :: y :: r) p => f o x y r p
  | _ => false
theorem onBool_inv {e : Expr} {f : BoolOp → Expr → Expr → List Expr → Pos → Bool} (h : onBool e f = true) : ∃ o x y r p, e = .BoolOp o (x :: y :: r) p ∧ f o x y r p = true := by
  unfold onBool at h; split at h
  · exact ⟨_, _, _, _, _, rfl, h⟩
  · cases h
def onIfE (e : Expr) (f : Expr → Expr → Expr → Bool) : Bool := match e with
  | .IfExp t x y _ => f t x y
  | _ => false
theorem onIfE_inv {e : Expr} {f : Expr → Expr → Expr → Bool} (h : onIfE e f = true) : ∃ t x y p, e = .IfExp t x y p ∧ f t x y = true := by
  unfold onIfE at h; split at h
  · exact ⟨_, _, _, _, rfl, h⟩
  · cases h
def onTup (e : Expr) (f : List Expr → Bool) : Bool := match e with
  | .Tuple es _ _ => f es
  | _ => false
theorem onTup_inv {e : Expr} {f : List Expr → Bool} (h : onTup e f = true) : ∃ es j p, e = .Tuple es j p ∧ f es = true := by
  unfold onTup at h; split at h
  · exact ⟨_, _, _, rfl, h⟩
  · cases h
def onLst (e : Expr) (f : List Expr → Bool) : Bool := match e with
  | .List es _ => f es
  | _ => false
theorem onLst_inv {e : Expr} {f : List Expr → Bool} (h : onLst e f = true) : ∃ es p, e = .List es p ∧ f es = true := by
  unfold onLst at h; split at h
  · exact ⟨_, _, rfl, h⟩
  · cases h
def onSub (e : Expr) (f : Expr → Expr → Bool) : Bool := match e with
  | .Subscript x y _ => f x y
  | _ => false
theorem onSub_inv {e : Expr} {f : Expr → Expr → Bool} (h : onSub e f = true) : ∃ x y p, e = .Subscript x y p ∧ f x y = true := by
  unfold onSub at h; split at h
  · exact ⟨_, _, _, rfl, h⟩
  · cases h
def onSlice (e : Expr) (f : Option Expr → Option Expr → Bool) : Bool := match e with
  | .Slice l u none _ => f l u
  | _ => false
theorem onSlice_inv {e : Expr} {f : Option Expr → Option Expr → Bool} (h : onSlice e f = true) : ∃ l u p, e = .Slice l u none p ∧ f l u = true := by
  unfold onSlice at h; split at h
  · exact ⟨_, _, _, rfl, h⟩
  · cases h
def onCall (e : Expr) (f : Expr → List Expr → Pos → Bool) : Bool := match e with
  | .Call g es [] p => f g es p
  | _ => false
theorem onCall_inv {e : Expr} {f : Expr → List Expr → Pos → Bool} (h : onCall e f = true) : ∃ g es p, e = .Call g es [] p ∧ f g es p = true := by
  unfold onCall at h; split at h
  · exact ⟨_, _, _, rfl, h⟩
  · cases h
def onOne (es : List Expr) (f : Expr → Bool) : Bool := match es with
  | [a] => f a
  | _ => false
theorem onOne_inv {es : List Expr} {f : Expr → Bool} (h : onOne es f = true) : ∃ a, es = [a] ∧ f a = true := by
  unfold onOne at h; split at h
  · exact ⟨_, rfl, h⟩
  · cases h
def onTwo (es : List Expr) (f : Expr → Expr → Bool) : Bool := match es with
  | [a, b] => f a b
  | _ => false
theorem onTwo_inv {es : List Expr} {f : Expr → Expr → Bool} (h : onTwo es f = true) : ∃ a b, es = [a, b] ∧ f a b = true := by
  unfold onTwo at h; split at h
  · exact ⟨_, _, rfl, h⟩
  · cases h
def onSome (es : List Expr) (f : Expr → List Expr → Bool) : Bool := match es with
  | a :: r => f a r
  | _ => false
theorem onSome_inv {es : List Expr} {f : Expr → List Expr → Bool} (h : onSome es f = true) : ∃ a r, es = a :: r ∧ f a r = true := by
  unfold onSome at h; split at h
  · exact ⟨_, _, rfl, h⟩
  · cases h
def onAttr (e : Expr) (f : Expr → Str → Pos → Bool) : Bool := match e with
  | .Attribute o m p => f o m p
  | _ => false
theorem onAttr_inv {e : Expr} {f : Expr → Str → Pos → Bool} (h : onAttr e f = true) : ∃ o m p, e = .Attribute o m p ∧ f o m p = true := by
  unfold onAttr at h; split at h
  · exact ⟨_, _, _, rfl, h⟩
  · cases h
def onLc (e : Expr) (f : Expr → Expr → Expr → List Expr → Scope → Pos → Bool) : Bool := match e with
  | .ListComp elt [⟨tg, iter, ifs, 0⟩] scope pos => f elt tg iter ifs scope pos
  | _ => false
theorem onLc_inv {e : Expr} {f : Expr → Expr → Expr → List Expr → Scope → Pos → Bool} (h : onLc e f = true) : ∃ elt tg iter ifs scope pos, e = .ListComp elt [⟨tg, iter, ifs, 0⟩] scope pos ∧ f elt tg iter ifs scope pos = true := by
  unfold onLc at h; split at h
  · exact ⟨_, _, _, _, _, _, rfl, h⟩
  · cases h
def onFs (e : Expr) (f : Expr → Expr → List Expr → Bool) : Bool := match e with
  | .JoinedStr (a :: b :: r) _ => f a b r
  | _ => false
theorem onFs_inv {e : Expr} {f : Expr → Expr → List Expr → Bool} (h : onFs e f = true) : ∃ a b r p, e = .JoinedStr (a :: b :: r) p ∧ f a b r = true := by
  unfold onFs at h; split at h
  · exact ⟨_, _, _, _, rfl, h⟩
  · cases h
def onStar (e : Expr) (f : Expr → Bool) : Bool := match e with
  | .Starred x _ => f x
  | _ => false
theorem onStar_inv {e : Expr} {f : Expr → Bool} (h : onStar e f = true) : ∃ x p, e = .Starred x p ∧ f x = true := by
  unfold onStar at h; split at h
  · exact ⟨_, _, rfl, h⟩
  · cases h
def onFv (e : Expr) (f : Expr → Bool) : Bool := match e with
  | .FormattedValue x (-1) none _ => f x
  | _ => false
theorem onFv_inv {e : Expr} {f : Expr → Bool} (h : onFv e f = true) : ∃ x p, e = .FormattedValue x (-1) none p ∧ f x = true := by
  unfold onFv at h; split at h
  · exact ⟨_, _, rfl, h⟩
  · cases h
end Rc

-- Rd11
set_option Elab.async false
set_option linter.all false
set_option maxRecDepth 100000
set_option maxHeartbeats 4000000
namespace Rc
open PySem PySem.Spec PyProof.Rows L2

/-! ### names, constants, targets of a text -/
def kindB (k : Option NameKind) : Bool := match k with
  | some .local => true
  | some .cell => true
  | some .free => true
  | _ => false
def oddB (x : Str) : Bool := !(x == ("__debug__" : Str)) && !(x == ("__classdict__" : Str)) && !(x == ("__name__" : Str))
def varB (N : List Str) (sc : Scope) (i : Nat) (x : Str) : Bool := decide (N[i]? = some x) && kindB (sc.names.lookup x) && oddB x
def gloB (sc : Scope) (x : Str) : Bool := decide (sc.names.lookup x = some .globalImplicit) && oddB x
def strB (x : Str) : Bool := x.cps.toList.all (fun c => decide (c < 0x110000))
def conB : D → Const → Bool
  | .non, .none => true
  | .bl a, .bool b => a == b
  | .int a, .int b => decide (a = b)
  | .str a, .str b => decide (a = b) && strB b
  | _, _ => false
mutual
def tgB (N : List Str) (sc : Scope) (lo : Bool) : Tg → Expr → Bool
  | .name i, .Name x _ => decide (N[i]? = some x) && (decide (sc.names.lookup x = some .local) || (!lo && decide (sc.names.lookup x = some .cell)))
  | .tup ts, .Tuple es _ _ => tgsB N sc lo ts es && es.all notStar
  | .lst ts, .Tuple es _ _ => tgsB N sc lo ts es && es.all notStar
  | _, _ => false
def tgsB (N : List Str) (sc : Scope) (lo : Bool) : List Tg → List Expr → Bool
  | [], [] => true
  | t :: ts, e :: es => tgB N sc lo t e && tgsB N sc lo ts es
  | _, _ => false
end
structure InX (T : Th) (k : Nat) (N : List Str) (sc : Scope) (X : Cx) : Prop where
  F : Fits T k X
  hN : X.N = N
  sc : X.env.scope = sc
  nd : N.Nodup
section
variable {T : Th} {k : Nat} {N : List Str} {sc : Scope} {X : Cx}
theorem oddB_of {x : Str} (h : oddB x = true) : (x == ("__debug__" : Str)) = false ∧ (x == ("__classdict__" : Str)) = false ∧ x ≠ "__name__" := by
  unfold oddB at h
  simp only [Bool.and_eq_true, Bool.not_eq_true'] at h
  exact ⟨h.1.1, h.1.2, fun e => by rw [e] at h; simp at h⟩
theorem varB_of (I : InX T k N sc X) {i : Nat} {x : Str} (h : varB N sc i x = true) : X.N[i]? = some x ∧ Vis X.env.scope x ∧ (x == ("__debug__" : Str)) = false ∧ (x == ("__classdict__" : Str)) = false := by
  unfold varB at h
  simp only [Bool.and_eq_true, decide_eq_true_eq] at h
  obtain ⟨⟨h1, h2⟩, h3⟩ := h
  obtain ⟨o1, o2, _⟩ := oddB_of h3
  refine ⟨by rw [I.hN]; exact h1, ?_, o1, o2⟩
  rw [I.sc]
  unfold kindB at h2
  split at h2
  · exact .inl (by assumption)
  · exact .inr (.inl (by assumption))
  · exact .inr (.inr (by assumption))
  · cases h2
theorem gloB_of (I : InX T k N sc X) {x : Str} (h : gloB sc x = true) : Gl X x ∧ (x == ("__debug__" : Str)) = false ∧ x ≠ "__name__" := by
  unfold gloB at h
  simp only [Bool.and_eq_true, decide_eq_true_eq] at h
  obtain ⟨o1, _, o3⟩ := oddB_of h.2
  exact ⟨by unfold Gl PySem.Env.kindOf; rw [I.sc]; exact h.1, o1, o3⟩
theorem strB_of {x : Str} (h : strB x = true) : PyData.strOk x = true := by
  unfold strB at h
  unfold PyData.strOk
  rw [Array.all_eq_true_iff_forall_mem]
  intro c hc
  exact List.all_eq_true.mp h c (Array.mem_toList_iff.mpr hc)
theorem conB_of {d : D} {c : Const} {j : Nat} {pos : Pos} (h : conB d c = true) : PD X (.Constant c j pos) (evC d) := by
  cases d with
  | non => cases c <;> first | exact pd_const pe_non (fun _ _ _ => rfl) | cases h
  | bl b =>
    cases c with
    | bool b' =>
      have e : b = b' := by simpa [conB] using h
      subst e
      exact pd_const pe_bl fun _ _ _ => rfl
    | _ => cases h
  | int i =>
    cases c with
    | int i' =>
      have e : i = i' := by simpa [conB] using h
      subst e
      exact pd_const pe_int fun _ _ _ => rfl
    | _ => cases h
  | str x =>
    cases c with
    | str x' =>
      have e : x = x' ∧ strB x' = true := by simpa [conB] using h
      obtain ⟨rfl, e⟩ := e
      exact pd_const pe_str fun _ _ _ => ⟨rfl, strB_of e⟩
    | _ => cases h
  | _ => cases h
theorem pd_glo (I : InX T k N sc X) {x : Str} {d : D} {pos : Pos} (h : gloB sc x = true) (g : GloH T x d) : PD X (.Name x pos) (evC d) := by
  obtain ⟨u, v, hu, r, rep⟩ := g
  obtain ⟨h1, h2, h3⟩ := gloB_of I h
  rw [← I.F.mg] at hu
  rw [← I.F.K] at rep
  rcases hu with hu | ⟨hu, hb⟩
  · exact pd_const (pe_glob h1 hu r h2) rep
  · exact pd_const (pe_bltn h1 hu hb r h3 h2) rep
mutual
theorem tgB_of (hc : X.calm = true) (hN : X.N = N) (hs : X.env.scope = sc) (nd : N.Nodup) {lo : Bool} (hf : lo = true ∨ ∀ y, X.fn y = true) : ∀ (t : Tg) {e : Expr}, tgB N sc lo t e = true → PGt X e t
  | .name i, e, h => by
    cases e with
    | Name x pos =>
      simp only [tgB, Bool.and_eq_true, decide_eq_true_eq, Bool.or_eq_true, Bool.not_eq_true'] at h
      obtain ⟨h1, h2⟩ := h
      refine pgt_name (by rw [hN]; exact nd) (by rw [hN]; exact h1) ?_ ?_
      · rw [hs]; exact h2.imp id fun q => q.2
      · rw [hs]
        rcases h2 with q | q
        · exact .inr q
        · rcases hf with z | z
          · rw [z] at q; cases q.1
          · exact .inl (z x)
    | _ => simp [tgB] at h
  | .tup ts, e, h => by
    cases e with
    | Tuple es kk pos =>
      simp only [tgB, Bool.and_eq_true] at h
      obtain ⟨g, l⟩ := tgsB_of hc hN hs nd hf ts h.1 h.2
      exact pgt_tup hc g (by rw [each_len, l]) (each_idx h.2 _)
    | _ => simp [tgB] at h
  | .lst ts, e, h => by
    cases e with
    | Tuple es kk pos =>
      simp only [tgB, Bool.and_eq_true] at h
      obtain ⟨g, l⟩ := tgsB_of hc hN hs nd hf ts h.1 h.2
      exact pgt_lst hc g (by rw [each_len, l]) (each_idx h.2 _)
    | _ => simp [tgB] at h
theorem tgsB_of (hc : X.calm = true) (hN : X.N = N) (hs : X.env.scope = sc) (nd : N.Nodup) {lo : Bool} (hf : lo = true ∨ ∀ y, X.fn y = true) : ∀ (ts : List Tg) {es : List Expr}, tgsB N sc lo ts es = true → es.all notStar = true → PGts X es ts ∧ es.length = ts.length
  | [], [], _, _ => ⟨pgts_nil, rfl⟩
  | t :: ts, e :: es, h, hn => by
    simp only [tgsB, Bool.and_eq_true] at h
    have hn' : notStar e = true ∧ es.all notStar = true := by simpa using hn
    obtain ⟨g, l⟩ := tgsB_of hc hN hs nd hf ts h.2 hn'.2
    exact ⟨pgts_cons (tgB_of hc hN hs nd hf t h.1) g (by rw [each_of hn'.1]; rfl), by simp [l]⟩
  | [], _ :: _, h, _ => by simp [tgsB] at h
  | _ :: _, [], h, _ => by simp [tgsB] at h
end
theorem InX.blk (I : InX T k N sc X) (s : Shared) (H : Hp) (scope : Scope) (C : Addr) (cl : List (Str × Addr)) (fp : List Addr) : InX T k N (relS scope sc) (X.blk s H scope (compEnvC scope cl C X.env) fp) :=
  ⟨⟨I.F.prog, I.F.w, I.F.K, I.F.mg, I.F.base, I.F.calm, I.F.rm, rfl⟩, I.hN, by rw [← I.sc]; rfl, I.nd⟩
end
def isAnd : IT → Bool
  | .and _ _ => true
  | _ => false
def isOr : IT → Bool
  | .or _ _ => true
  | _ => false

/-! ### whether a text is what the IR says -/
mutual
def chk (N : List Str) (sc : Scope) : Bool → IE → Expr → Bool
  | _, .var i, e => onName e fun x => varB N sc i x
  | v, .own i, e => onName e fun x => v && varB N sc i x
  | _, .con d, e => onCon e fun c => conB d c
  | _, .glo y, e => onName e fun x => decide (y = x) && gloB sc x
  | _, .un op a, e => onUn e fun o x => decide (op = o) && decide (op ≠ .Not) && chk N sc true a x
  | _, .not a, e => onUn e fun o x => decide (o = .Not) && chk N sc true a x
  | _, .bin op a b, e => onBin e fun x o y => decide (op = o) && (chk N sc true a x && chk N sc true b y)
  | _, .cmp op a b, e => onCmp e fun x o y => decide (op = o) && notSet y && (chk N sc true a x && chk N sc true b y)
  | _, .and a b, e => onBool e fun o x y r p => decide (o = .And) && (chk N sc false a x && (match r with
      | [] => chk N sc false b y
      | z :: r => chk N sc false b (.BoolOp .And (y :: z :: r) p)))
  | _, .or a b, e => onBool e fun o x y r p => decide (o = .Or) && (chk N sc false a x && (match r with
      | [] => chk N sc false b y
      | z :: r => chk N sc false b (.BoolOp .Or (y :: z :: r) p)))
  | _, .ite c a b, e => onIfE e fun t x y => chkT N sc c t && (chk N sc false a x && chk N sc false b y)
  | _, .tup as, e => onTup e fun es => chks N sc false as es
  | _, .lst as, e => onLst e fun es => chkX N sc as es
  | _, .ix a i, e => onSub e fun x y => plainIx y && (chk N sc true a x && chk N sc true i y)
  | _, .tab t i, e => onSub e fun x y => onName x fun x => decide (t = x) && gloB sc x && plainIx y && chk N sc false i y
  | _, .sl a lo hi, e => onSub e fun x y => onSlice y fun l h => chk N sc true a x && (chkO N sc lo l && chkO N sc hi h)
  | _, .call f as, e => onCall e fun g es _ => onName g fun x => decide (f = x) && gloB sc x && chks N sc false as es
  | _, .mk c as, e => onCall e fun g es _ => onName g fun x => onSome es fun e1 er => decide (c = x) && gloB sc x && chks N sc false as (e1 :: er)
  | _, .mkL i as, e => onCall e fun g es _ => onName g fun x => onSome es fun e1 er => varB N sc i x && chks N sc false as (e1 :: er)
  | _, .bi f as, e => onCall e fun g es _ => onName g fun x => onSome es fun e1 er => decide (f.name = x) && gloB sc x && chks N sc true as (e1 :: er)
  | _, .isi a c, e => onCall e fun g es _ => onName g fun x => onTwo es fun e1 e2 => decide (x = "isinstance") && gloB sc x && notStar e1 && notStar e2 && (chk N sc true a e1 && chk N sc false c e2)
  | _, .attr f a, e => onAttr e fun o g _ => decide (f = g) && attrBase o && chk N sc false a o
  | _, .slf _ i f, e => onAttr e fun o g _ => onName o fun x => decide (f = g) && varB N sc i x
  | _, .meth a m as, e => onCall e fun g es p => onAttr g fun o n ap => decide (m = n) && attrBase o && decide (es.length < 30) && (ap.endLine == p.line) && chk N sc false a o && chks N sc false as es
  | _, .cmeth c m as, e => onCall e fun g es p => onAttr g fun o n ap => onName o fun x => onSome es fun e1 er => decide (m = n) && decide (c = x) && gloB sc x && decide ((e1 :: er).length < 30) && (ap.endLine == p.line) && chks N sc false as (e1 :: er)
  | _, .lc t own it c el, e => onLc e fun elt tg iter ifs scope _ => notSet iter && blkC N sc scope own && (slotsT t).all (fun j => (own.map (·.2)).contains j) && chkI N sc it tg iter && tgB N (relS scope sc) true t tg && chkC N (relS scope sc) c ifs && chk N (relS scope sc) false el elt
  | _, .fs ps, e => onFs e fun a b r => chkF N sc ps (a :: b :: r)
  | _, .rcmp eq a b, e => onCmp e fun x o y => onCall x fun f1 es1 _ => onCall y fun f2 es2 _ => onName f1 fun n1 => onName f2 fun n2 => onOne es1 fun e1 => onOne es2 fun e2 =>
      (match eq with | true => decide (o = .Eq) | false => decide (o = .NotEq)) && decide (n1 = "repr") && decide (n2 = "repr") && gloB sc n1 && notStar e1 && notStar e2 && (chk N sc true a e1 && chk N sc true b e2)
  | _, .chain o q a b c, e => onChain e fun x o' y q' z => decide (o = o') && decide (q = q') && notSet z && (chk N sc true a x && (chk N sc true b y && chk N sc true c z))
  | _, .rev a, e => onRev e fun x => chk N sc false a x
  | _, .lrng as, e => onCall e fun g es _ => onName g fun x => onOne es fun e1 => onCall e1 fun g2 es2 _ => onName g2 fun y => onTwo es2 fun a1 b1 => decide (x = "list") && decide (y = "range") && gloB sc x && gloB sc y && chks N sc false as [a1, b1]
  | _, .str1 a, e => onCall e fun g es _ => onName g fun x => onOne es fun e1 => decide (x = "str") && gloB sc x && notStar e1 && chk N sc true a e1
  | _, .fs1 a, e => onFs1 e fun x => onFv x fun y => chk N sc false a y
  | _, .pix i j, e => onSub e fun x y => onName x fun x => onCon y fun c => varB N sc i x && (match c with | .int z => decide (z = (j : Int)) | _ => false)
def chks (N : List Str) (sc : Scope) : Bool → List IE → List Expr → Bool
  | _, [], es => es.isEmpty
  | v, a :: as, es => onSome es fun e er => notStar e && chk N sc v a e && chks N sc v as er
def chkX (N : List Str) (sc : Scope) : List IX → List Expr → Bool
  | [], es => es.isEmpty
  | .one a :: as, es => onSome es fun e er => notStar e && chk N sc false a e && chkX N sc as er
  | .star a :: as, es => onSome es fun e er => onStar e fun x => chk N sc true a x && chkX N sc as er
def chkF (N : List Str) (sc : Scope) : List IF → List Expr → Bool
  | [], es => es.isEmpty
  | .txt z :: ps, es => onSome es fun e er => onCon e fun c => (match c with | .str y => decide (y = z) && strB z | _ => false) && chkF N sc ps er
  | .val a :: ps, es => onSome es fun e er => onFv e fun x => chk N sc false a x && chkF N sc ps er
def chkT (N : List Str) (sc : Scope) : IT → Expr → Bool
  | .val a, e => plainTest e && chk N sc true a e
  | .not t, e => onUn e fun o x => decide (o = .Not) && chkT N sc t x
  | .and s t, e => onBool e fun o x y r p => decide (o = .And) && (chkT N sc s x && (match r with
      | [] => chkT N sc t y
      | z :: r => chkT N sc t (.BoolOp .And (y :: z :: r) p) && isAnd t))
  | .or s t, e => onBool e fun o x y r p => decide (o = .Or) && (chkT N sc s x && (match r with
      | [] => chkT N sc t y
      | z :: r => chkT N sc t (.BoolOp .Or (y :: z :: r) p) && isOr t))
  | .cmp op a b, e => onCmp e fun x o y => decide (op = o) && notSet y && (chk N sc true a x && chk N sc true b y)
  | .rcmp eq a b, e => onCmp e fun x o y => onCall x fun f1 es1 _ => onCall y fun f2 es2 _ => onName f1 fun n1 => onName f2 fun n2 => onOne es1 fun e1 => onOne es2 fun e2 =>
      (match eq with | true => decide (o = .Eq) | false => decide (o = .NotEq)) && decide (n1 = "repr") && decide (n2 = "repr") && gloB sc n1 && notStar e1 && notStar e2 && (chk N sc true a e1 && chk N sc true b e2)
def chkO (N : List Str) (sc : Scope) : IO → Option Expr → Bool
  | .no, o => o.isNone
  | .yes a, o => (match o with | some e => chk N sc false a e | none => false)
def chkC (N : List Str) (sc : Scope) : IC → List Expr → Bool
  | .no, es => es.isEmpty
  | .yes t, es => onOne es fun e => chkT N sc t e
def chkI (N : List Str) (sc : Scope) : II → Expr → Expr → Bool
  | .items a, _, e => chk N sc false a e
  | .rng1 a, _, e => onCall e fun g es _ => onName g fun x => onOne es fun e1 => decide (x = "range") && gloB sc x && notStar e1 && chk N sc false a e1
  | .rng2 a b, _, e => onCall e fun g es _ => onName g fun x => onTwo es fun e1 e2 => decide (x = "range") && gloB sc x && notStar e1 && notStar e2 && (chk N sc false a e1 && chk N sc false b e2)
  | .zip a b, t, e => onTup t fun _ => onCall e fun g es _ => onName g fun x => onTwo es fun e1 e2 => decide (x = "zip") && gloB sc x && notStar e1 && notStar e2 && (chk N sc false a e1 && chk N sc false b e2)
  | .enum a, t, e => onTup t fun _ => onCall e fun g es _ => onName g fun x => onOne es fun e1 => decide (x = "enumerate") && gloB sc x && notStar e1 && chk N sc false a e1
end
end Rc

-- Rd12
set_option Elab.async false
set_option linter.all false
set_option maxRecDepth 100000
set_option maxHeartbeats 4000000
namespace Rc
open PySem PySem.Spec PyProof.Rows L2

/-! ### trees as evaluators -/
def rn {α : Type} (f : Env → Tr α) : Env → Pot → Option (α × Pot) := fun env p => (f env).run p
section
variable {f g : Env → Tr D} {fb gb : Env → Tr Bool} {fl : Env → Tr (List D)}
theorem rn_ret {d : D} : rn (fun _ => Tr.ret d) = evC d := rfl
theorem rn_op1 {h : D → Tr D} : rn (fun env => (f env).bind h) = opS1 (fun x p => (h x).run p) (rn f) := by
  funext env p; simp only [rn, opS1, Tr.run_bind]
theorem rn_op2 {h : D → D → Tr D} : rn (fun env => (f env).bind fun x => (g env).bind fun y => h x y) = opS2 (fun x y p => (h x y).run p) (rn f) (rn g) := by
  funext env p; simp only [rn, opS2, Tr.run_bind]
theorem rn_of1 {h : D → Option D} : rn (fun env => (f env).bind fun x => Tr.of (h x)) = op1 h (rn f) := by
  funext env p; simp only [rn, op1, Tr.run_bind, Tr.run_of]
theorem rn_of2 {h : D → D → Option D} : rn (fun env => (f env).bind fun x => (g env).bind fun y => Tr.of (h x y)) = op2 h (rn f) (rn g) := by
  funext env p; simp only [rn, op2, Tr.run_bind, Tr.run_of]
theorem run_tru (x : D) (p : Pot) : (truT x).run p = (truD x).map fun b => (b, p) := Tr.run_of _ _
theorem rn_not : rn (fun env => (f env).bind fun x => (truT x).bind fun b => Tr.ret (.bl (!b))) = evNot (rn f) := by
  funext env p
  simp only [rn, evNot, evTru, Tr.run_bind, run_tru]
  cases (f env).run p with
  | none => rfl
  | some r => simp only [Option.bind_some]; cases truD r.1 <;> rfl
theorem rn_and : rn (fun env => (f env).bind fun x => (truT x).bind fun t => if t then g env else Tr.ret x) = evAnd (rn f) (rn g) := by
  funext env p
  simp only [rn, evAnd, Tr.run_bind, run_tru]
  cases (f env).run p with
  | none => rfl
  | some r =>
    simp only [Option.bind_some]
    cases truD r.1 with
    | none => rfl
    | some b => cases b <;> rfl
theorem rn_or : rn (fun env => (f env).bind fun x => (truT x).bind fun t => if t then Tr.ret x else g env) = evOr (rn f) (rn g) := by
  funext env p
  simp only [rn, evOr, Tr.run_bind, run_tru]
  cases (f env).run p with
  | none => rfl
  | some r =>
    simp only [Option.bind_some]
    cases truD r.1 with
    | none => rfl
    | some b => cases b <;> rfl
theorem rn_ite : rn (fun env => (fb env).bind fun t => if t then f env else g env) = evIf (rn fb) (rn f) (rn g) := by
  funext env p
  simp only [rn, evIf, Tr.run_bind]
  cases (fb env).run p with
  | none => rfl
  | some r => obtain ⟨b, q⟩ := r; cases b <;> rfl
theorem rn_tru : rn (fun env => (f env).bind truT) = evTru (rn f) := by
  funext env p; simp only [rn, evTru, Tr.run_bind, run_tru]
theorem rn_notT : rn (fun env => (fb env).bind fun b => Tr.ret (!b)) = evNotT (rn fb) := by
  funext env p
  simp only [rn, evNotT, Tr.run_bind]
  cases (fb env).run p <;> rfl
theorem rn_andT : rn (fun env => (fb env).bind fun b => if b then gb env else Tr.ret false) = evAndT (rn fb) (rn gb) := by
  funext env p
  simp only [rn, evAndT, Tr.run_bind]
  cases (fb env).run p with
  | none => rfl
  | some r => obtain ⟨b, q⟩ := r; cases b <;> rfl
theorem rn_orT : rn (fun env => (fb env).bind fun b => if b then Tr.ret true else gb env) = evOrT (rn fb) (rn gb) := by
  funext env p
  simp only [rn, evOrT, Tr.run_bind]
  cases (fb env).run p with
  | none => rfl
  | some r => obtain ⟨b, q⟩ := r; cases b <;> rfl
theorem rn_nil : rn (fun _ => Tr.ret ([] : List D)) = evNil := rfl
theorem rn_cons : rn (fun env => (f env).bind fun x => (fl env).bind fun r => Tr.ret (x :: r)) = evCons (rn f) (rn fl) := by
  funext env p
  simp only [rn, evCons, Tr.run_bind]
  cases (f env).run p with
  | none => rfl
  | some r => simp only [Option.bind_some]; cases (fl env).run r.2 <;> rfl
theorem run_opt {α : Type} (b : Bool) (a : α) (p : Pot) : (optT b a).run p = if b then some (a, p) else none := by cases b <;> rfl
theorem rn_tup : rn (fun env => (fl env).bind fun ds => optT (decide (ds.length ≤ sizeLine)) (D.tup ds)) = evTup (rn fl) := by
  funext env p
  simp only [rn, evTup, Tr.run_bind, run_opt, decide_eq_true_eq]
theorem rn_lst : rn (fun env => (fl env).bind fun ds => optT (decide (ds.length ≤ sizeLine)) (D.lst ds)) = evList (evLstA (rn fl)) := by
  funext env p
  simp only [rn, evList, evLstA, Tr.run_bind, run_opt, decide_eq_true_eq]
  cases (fl env).run p with
  | none => rfl
  | some r => simp only [Option.bind_some]; split <;> rfl
theorem rn_var {i : Nat} : rn (mVar i) = evVar i := by
  funext env p
  simp only [rn, mVar, evVar]
  cases env[i]? with
  | none => rfl
  | some o =>
    cases o with
    | none => rfl
    | some e => cases e <;> rfl
theorem rn_own {i : Nat} : rn (mOwn i) = evOwn i := by
  funext env p
  simp only [rn, mOwn, evOwn]
  cases env[i]? with
  | none => rfl
  | some o =>
    cases o with
    | none => rfl
    | some e => cases e <;> rfl
theorem rn_self {c : Str} {i : Nat} {x : Str} : rn (mSelf c i x) = evSelf c i x := by
  funext env p
  simp only [rn, mSelf, evSelf]
  cases env[i]? with
  | none => rfl
  | some o =>
    cases o with
    | none => rfl
    | some e =>
      cases e with
      | slf c' fs => dsimp only; split <;> first | exact Tr.run_of _ _ | rfl
      | _ => rfl
theorem rn_call {h : List D → Tr D} : rn (fun env => (fl env).bind h) = fun env p => (rn fl env p).bind fun r => (h r.1).run r.2 := by
  funext env p; simp only [rn, Tr.run_bind]
theorem rn_mkL {mak : Str → Option FnI} {i : Nat} : rn (fun env => (fl env).bind fun ds => mMkL mak i ds env) = fun env p => match env[i]? with
    | some (some (.dat (.cls c))) => evMkT c (mak c) (rn fl) env p
    | _ => none := by
  funext env p
  simp only [rn, Tr.run_bind, mMkL, evMkT]
  cases env[i]? with
  | none => simp only [Tr.run]; cases (fl env).run p <;> rfl
  | some o =>
    cases o with
    | none => simp only [Tr.run]; cases (fl env).run p <;> rfl
    | some e =>
      cases e with
      | dat d => cases d <;> first | rfl | (simp only [Tr.run]; cases (fl env).run p <;> rfl)
      | _ => simp only [Tr.run]; cases (fl env).run p <;> rfl
theorem rn_lc {gE : Env → D → Option Env} {c : Env → Tr Bool} {e : Env → Tr D} : rn (fun env => (fl env).bind fun ds => (optT (decide (ds.length ≤ sizeLine)) ()).bind fun _ => (lcT (gE env) c e ds).bind fun r => Tr.ret (D.lst r)) =
    evList (fun env p => (rn fl env p).bind fun r => if r.1.length ≤ sizeLine then lcGo (gE env) (rn c) (rn e) r.1 r.2 else none) := by
  have go : ∀ (g : D → Option Env) (ds : List D) (p : Pot), (lcT g c e ds).run p = lcGo g (rn c) (rn e) ds p := fun g ds => by
    induction ds with
    | nil => intro p; rfl
    | cons d ds ih =>
      intro p
      simp only [lcT, lcGo, Tr.run_bind, Tr.run_of]
      cases g d with
      | none => rfl
      | some env1 =>
        simp only [Option.map_some, Option.bind_some]
        show ((c env1).run p).bind _ = ((c env1).run p).bind _
        refine congrArg _ (funext fun b => ?_)
        obtain ⟨b, q⟩ := b
        cases b with
        | false => exact ih q
        | true =>
          simp only [if_true, Tr.run_bind]
          show ((e env1).run q).bind _ = ((e env1).run q).bind _
          refine congrArg _ (funext fun r => ?_)
          rw [ih r.2]
          cases lcGo g (rn c) (rn e) ds r.2 <;> rfl
  funext env p
  simp only [rn, evList, Tr.run_bind]
  cases (fl env).run p with
  | none => rfl
  | some r =>
    simp only [Option.bind_some, run_opt, decide_eq_true_eq]
    split
    · simp only [Option.bind_some]
      rw [go]
      cases lcGo (gE env) _ _ r.1 r.2 <;> rfl
    · rfl
end

/-! ### the pot's items -/
def evPix (i j : Nat) : EvF := fun env p => match env[i]? with
  | some (some (.dat .pot)) => (potJ p j).map fun v => (.int v, p)
  | _ => none
theorem rn_pix {i j : Nat} : rn (mPix i j) = evPix i j := by
  funext env p
  simp only [rn, mPix, evPix]
  cases env[i]? with
  | none => rfl
  | some o =>
    cases o with
    | none => rfl
    | some e =>
      cases e with
      | dat d =>
        cases d with
        | pot =>
          show (Tr.of ((potJ p j).map D.int)).run p = _
          rw [Tr.run_of]
          cases potJ p j <;> rfl
        | _ => rfl
      | _ => rfl
theorem potJ_at {p : Pot} {j : Nat} {v : Int} (h : potJ p j = some v) : ([p.o, p.m, p.c].map V.int)[j]? = some (.int v) ∧ j < 3 := by
  match j, h with
  | 0, h => cases h; exact ⟨rfl, by decide⟩
  | 1, h => cases h; exact ⟨rfl, by decide⟩
  | 2, h => cases h; exact ⟨rfl, by decide⟩
theorem pd_pix {X : Cx} {i j : Nat} {x : Str} {px pc pos : Pos} {kk : Nat} (hN : X.N[i]? = some x) (hv : Vis X.env.scope x) (hd : (x == ("__debug__" : Str)) = false) (hcd : (x == ("__classdict__" : Str)) = false) :
    PD X (.Subscript (.Name x px) (.Constant (.int (j : Int)) kk pc) pos) (evPix i j) :=
  PE.weak (pe_ix ix_seq (pe_var hN hv hd hcd) (pe_int (i := (j : Int))) (plainIx_of rfl)) fun σ H Q ⟨pa, M, env, p, d, p', hE, hP, hf, k⟩ => by
    unfold evPix at hf
    split at hf
    rotate_left
    · cases hf
    rename_i hi
    obtain ⟨v, h1, h2⟩ := Option.map_eq_some_iff.mp hf
    cases h2
    obtain ⟨u, g1, a, g2, g3⟩ := hE.slot i _ hi
    subst g3
    obtain ⟨q1, q2⟩ := potJ_at h1
    refine ⟨.ref a, g1, .inl ⟨a, _, (j : Int), .int v, rfl, rfl, .inl (.inl (hP a g2).2), ?_, k _ H Ext.refl hP rfl⟩⟩
    have e : ixN 3 (j : Int) = some j := by
      unfold ixN
      rw [if_pos (by omega), if_pos (by omega)]
      simp
    show (ixN 3 (j : Int)).bind _ = _
    rw [e]
    exact q1

/-! ### star displays -/
def evStar (f : EvF) (g : EvA) : EvA := fun env p => (f env p).bind fun r => (starD r.1).bind fun xs => (g env r.2).map fun q => (xs ++ q.1, q.2)
theorem rn_star {f : Env → Tr D} {fl : Env → Tr (List D)} : rn (fun env => (f env).bind fun x => (Tr.of (starD x)).bind fun xs => (fl env).bind fun r => Tr.ret (xs ++ r)) = evStar (rn f) (rn fl) := by
  funext env p
  simp only [rn, evStar, Tr.run_bind, Tr.run_of]
  cases (f env).run p with
  | none => rfl
  | some r =>
    simp only [Option.bind_some]
    cases starD r.1 with
    | none => rfl
    | some xs => simp only [Option.map_some, Option.bind_some]; cases (fl env).run r.2 <;> rfl
theorem pl_star {X : Cx} {e : Expr} {es : List Expr} {f : EvF} {g : EvA} {p : Pos} (ha : PV X e f) (hr : PL X es g) : PL X (.Starred e p :: es) (evStar f g) :=
  PA.weak (StX.pa_star ha hr rfl) fun σ H Q ⟨pa, M, env, p, ds, p', hE, hP, hf, k⟩ => by
    unfold evStar at hf
    obtain ⟨⟨x, p1⟩, h1, h2⟩ := Option.bind_eq_some_iff.mp hf
    obtain ⟨xs, h3, h4⟩ := Option.bind_eq_some_iff.mp h2
    obtain ⟨⟨ys, p2⟩, h5, h6⟩ := Option.map_eq_some_iff.mp h4
    cases h6
    refine ⟨pa, M, env, p, x, p1, hE, hP, h1, fun v H1 x1 k1 r1 => ?_⟩
    cases x with
    | tup zs =>
      cases h3
      obtain ⟨a, us, rfl, t, r⟩ := r1
      exact ⟨a, us, rfl, .inl t.sq, pa, M, env, p1, ys, p2, hE.ext x1 hP k1, k1, h5, fun vs H2 x2 k2 r2 => k _ H2 (x1.trans x2) k2 ((Reps.up (x2.up k1) r).append r2)⟩
    | lst zs =>
      cases h3
      obtain ⟨a, us, rfl, n, t, r⟩ := r1
      exact ⟨a, us, rfl, .inr (.inl (.inl t)), pa, M, env, p1, ys, p2, hE.ext x1 hP k1, k1, h5, fun vs H2 x2 k2 r2 => k _ H2 (x1.trans x2) k2 ((Reps.up (x2.up k1) r).append r2)⟩
    | _ => cases h3

/-! ### methods: the text's own form -/
theorem meth_eval {o : Expr} {m : Str} {apos pos : Pos} {es : List Expr} {env : PySem.Env} (hb : attrBase o = true) (hs : es.all notStar = true) (hn : es.length < 30) (hl : (apos.endLine == pos.line) = true) :
    eval (.Call (.Attribute o m apos) es [] pos) env = (do
      let ov ← eval o env
      standAt apos.atName
      let (f, first) ← holding [ov] (getMethod ov m (do return (← importBound o env).getD true))
      callWith pos f first (backTo pos (starEach es env)) (backToKw pos (keywordEach [] env))) := by
  have few : methodCallForm (es.length + ([] : List Keyword).length) (backTo pos (starEach es env)) (backToKw pos (keywordEach [] env)) = true := by
    have h1 : (backTo pos (starEach es env)).all (fun x => !x.1) = true := by
      have := plain_of hs pos env
      rw [List.all_eq_true]
      intro x hx
      rw [List.any_eq_false] at this
      simpa using this x hx
    have h2 : backToKw pos (keywordEach [] env) = [] := rfl
    unfold methodCallForm
    rw [h1, h2]
    simpa using hn
  show (attributeBase o m env (eval o env) >>= fun ov => standAt apos.atName >>= fun _ => methodCall o m apos pos env ov (es.length + ([] : List Keyword).length) (backTo pos (starEach es env)) (backToKw pos (keywordEach [] env))) = _
  rw [attrBase_of hb]
  refine congrArg _ (funext fun ov => congrArg _ (funext fun _ => ?_))
  unfold methodCall calleeOf methodCallPos
  rw [few]
  simp only [hl, Bool.not_true, Bool.false_or, if_true]
  rfl
end Rc

-- Rd13
set_option Elab.async false
set_option linter.all false
set_option maxRecDepth 100000
set_option maxHeartbeats 4000000
namespace Rc
open PySem PySem.Spec PyProof.Rows L2

/-! ### built-in functions -/
def rSA (K : PySem.W.Frag) (g : List D → Pot → Option (D × Pot)) : List V → Hp → VK → Prop := fun vs H Q => ∃ pa M p ds d p', (∀ a, M a → (H a).isSome = true) ∧ PotOk pa M H p ∧ RepsV K pa M H ds vs ∧ g ds p = some (d, p') ∧ ∀ v H', Ext pa H H' → PotOk pa M H' p' → Rep K pa M H' d v → Q v H'
def evSB (g : List D → Pot → Option (D × Pot)) (f : EvA) : EvF := fun env p => (f env p).bind fun r => g r.1 r.2
theorem CallR.pure {X : Cx} {f : Value} {g : List D → Option D} (h : CallR X f (rDA X.K g)) : CallR X f (rSA X.K fun ds p => (Tr.of (g ds)).run p) := CallR.imp h fun vs H Q ⟨pa, M, p, ds, d, p', dom, hP, r, e, k⟩ => by
  obtain ⟨e1, e2⟩ := Tr.of_some e
  subst e2
  exact ⟨pa, M, p', ds, d, dom, hP, r, e1, fun v H' s r => k v H' (Ext.same s) (hP.same s) r⟩
theorem tSB_of {X : Cx} {g : List D → Pot → Option (D × Pot)} {f : EvA} {σ : L2.St} {H : Hp} {Q : VK} (h : tE X.K (evSB g f) σ H Q) : tCB (rSA X.K g) (tLV X.K f) σ H Q := by
  obtain ⟨pa, M, env, p, d, p', hE, hP, hf, k⟩ := h
  unfold evSB at hf
  obtain ⟨⟨ds, p1⟩, h1, h2⟩ := Option.bind_eq_some_iff.mp hf
  refine ⟨pa, M, env, p, ds, _, hE, hP, h1, fun vs H1 x1 k1 r1 => ?_⟩
  exact ⟨pa, M, _, ds, d, p', x1.dom k1 hE.dom, k1, r1, h2, fun w H3 x3 k3 r3 => k w H3 (x1.trans x3) k3 r3⟩
section
variable {T : Th} {k : Nat} {G : Gs} {X : Cx}
theorem cr_boolT (F : Fits T (k + 3) X) (ok : GOk T k G) : CallR X (.type "bool") (rSA X.K fun ds p => (bifT G .bool ds).run p) := by
  intro pins s σ H vs us Q I ru h
  have h0 := h
  obtain ⟨pa, M, p, ds, d, p', dom, hP, r, e, kk⟩ := h
  by_cases ho : ∃ c fs, ds = [.obj c fs]
  · obtain ⟨c, fs, rfl⟩ := ho
    obtain ⟨v, rfl, r1⟩ := r.one
    obtain ⟨b, rfl, e'⟩ := blT_some e
    have r1' := r1
    obtain ⟨a, dx, ws, rfl, t, rf⟩ := r1
    obtain ⟨ox, od, J⟩ := inst_of I t.2
    obtain rfl := Vals.ref1 ru
    obtain ⟨g, q1, q2, q3⟩ := own_call (k := k) (f0 := G.met c "__bool__") (us := []) (Q := fun v H' => v = .bl b ∧ Q (.bl b) H') (F.mono (by omega)) (fun f1 e1 => ok.met c _ f1 e1) I dom hP (Reps.cons r1' Reps.nil) .nil e' (fun w H' x1 k1 r3 => by cases r3; exact ⟨rfl, kk _ H' x1 k1 rfl⟩)
    have Fin : Rm k X.A.in1.in1 := ((F.rm.mono (show k + 2 ≤ k + 3 by omega)).in1).in1
    refine bool_inst I J q1 q2 ?_
    have z := q3 X.A.in1.in1 Fin I.env0.in1.in1
    refine thn (own_ans I z F.nx) fun w s' hz => ?_
    obtain ⟨y, H', I', rz, rfl, qz⟩ := hz
    cases rz
    exact ⟨.bl b, H', I', rfl, qz⟩
  · refine CallR.pure cr_bool pins s σ H vs us Q I ru ⟨pa, M, p, ds, d, p', dom, hP, r, ?_, kk⟩
    have : bifT G .bool ds = Tr.of (boolD ds) := by
      cases ds with
      | nil => rfl
      | cons d0 dr =>
        cases dr with
        | nil => cases d0 <;> first | rfl | exact absurd ⟨_, _, rfl⟩ ho
        | cons _ _ => cases d0 <;> rfl
    have e' : (bifT G .bool ds).run p = some (d, p') := e
    rw [this] at e'
    exact e'
theorem cr_sorted2D {X : Cx} (hu : X.A.units + 70 < cLine) : CallR X (.builtin "sorted") (rDA X.K sorted2D) := by
  refine CallR.imp (CallR.or cr_sortedD (cr_sortedTD hu)) fun vs H Q ⟨pa, M, p, ds, d, dom, hP, r, e, k⟩ => ?_
  unfold sorted2D at e
  split at e
  · rename_i d' e'
    cases e
    exact .inl ⟨pa, M, p, ds, _, dom, hP, r, e', k⟩
  · exact .inr ⟨pa, M, p, ds, d, dom, hP, r, e, k⟩
theorem cr_str1 (F : Fits T (k + 3) X) (ok : GOk T k G) : CallR X (.type "str") (rSA X.K fun ds p => (match ds with | [d] => strT G d | _ => .fail).run p) := by
  intro pins s σ H vs us Q I ru h
  obtain ⟨pa, M, p, ds, d, p', dom, hP, r, e, kk⟩ := h
  dsimp only at e
  split at e
  rotate_left
  · cases e
  rename_i d0
  unfold strT at e
  split at e
  rotate_left
  · cases e
  rename_i c fs
  obtain ⟨v, rfl, r1⟩ := r.one
  obtain ⟨z, p1, e1, e2⟩ := Tr.bind_some e
  obtain ⟨x, rfl, rfl, rfl⟩ : ∃ x, z = .str x ∧ d = .str x ∧ p' = p1 := by
    cases z <;> first | (cases e2; exact ⟨_, rfl, rfl, rfl⟩) | cases e2
  have r1' := r1
  obtain ⟨a, dx, ws, rfl, t, rf⟩ := r1
  obtain ⟨ox, od, J⟩ := inst_of I t.2
  obtain rfl := Vals.ref1 ru
  obtain ⟨g, q1, q2, q3⟩ := own_call (k := k) (f0 := G.met c "__str__") (us := []) (Q := fun v H' => v = .str x ∧ Q (.str x) H') (F.mono (by omega)) (fun f1 e1 => ok.met c _ f1 e1) I dom hP (Reps.cons r1' Reps.nil) .nil e1 (fun w H' x1 k1 r3 => by obtain ⟨rfl, o⟩ := r3; exact ⟨rfl, kk _ H' x1 k1 ⟨rfl, o⟩⟩)
  have Fin : Rm k X.A.in1.in1 := ((F.rm.mono (show k + 2 ≤ k + 3 by omega)).in1).in1
  have hu : X.A.in1.in1.units < cLine := by
    have := F.rm.r.un
    have : X.A.in1.in1.units = X.A.units + 1 + 1 := rfl
    omega
  refine str_inst hu I.kIn J q1 q2 ?_
  have z := q3 X.A.in1.in1 Fin I.env0.in1.in1
  refine thn (own_ans I z F.nx) fun w s' hz => ?_
  obtain ⟨y, H', I', rz, rfl, qz⟩ := hz
  obtain ⟨t, rfl⟩ := rz
  exact ⟨.str x, H', I', ⟨_, rfl⟩, qz⟩
theorem cr_bif (F : Fits T (k + 3) X) (ok : GOk T k G) (f : Bif) : (∃ id, bootBuiltins f.name = some (.builtin id) ∧ CallR X (.builtin id) (rSA X.K fun ds p => (bifT G f ds).run p)) ∨ ∃ t, bootBuiltins f.name = some (.type t) ∧ CallR X (.type t) (rSA X.K fun ds p => (bifT G f ds).run p) := by
  cases f with
  | len => exact .inl ⟨"len", by decide +kernel, CallR.pure cr_len⟩
  | int => exact .inr ⟨"int", by decide +kernel, CallR.pure cr_int⟩
  | abs => exact .inl ⟨"abs", by decide +kernel, CallR.pure cr_abs⟩
  | bool => exact .inr ⟨"bool", by decide +kernel, cr_boolT F ok⟩
  | max => exact .inl ⟨"max", by decide +kernel, CallR.pure (Rc.cr_max F.calm)⟩
  | min => exact .inl ⟨"min", by decide +kernel, CallR.pure (Rc.cr_min F.calm)⟩
  | tuple => exact .inr ⟨"tuple", by decide +kernel, CallR.pure cr_tuple⟩
  | list => exact .inr ⟨"list", by decide +kernel, CallR.pure (cr_listD2 F.calm)⟩
  | all => exact .inl ⟨"all", by decide +kernel, CallR.pure (cr_allR F.calm)⟩
  | any => exact .inl ⟨"any", by decide +kernel, CallR.pure (cr_anyR F.calm)⟩
  | sorted => exact .inl ⟨"sorted", by decide +kernel, CallR.pure (cr_sorted2D (by have := F.rm.r.un; omega))⟩
theorem free_of (ok : GOk T k G) (f : Bif) : T.mg f.name = none := by
  refine ok.free _ ?_
  cases f <;> decide
theorem pd_bif {N : List Str} {sc : Scope} (I : InX T (k + 3) N sc X) (ok : GOk T k G) (f : Bif) {x : Str} {e0 : Expr} {es : List Expr} {g : EvA} {px pos : Pos} (e1 : f.name = x) (g1 : Gl X x) (g2 : (x == ("__debug__" : Str)) = false) (g3 : x ≠ "__name__")
    (L : PLV X (e0 :: es) g) (hs : (e0 :: es).all notStar = true) : PD X (.Call (.Name x px) (e0 :: es) [] pos) (evSB (fun ds p => (bifT G f ds).run p) g) := by
  have hm : X.mg x = none := by rw [I.F.mg, ← e1]; exact free_of ok f
  have hs' : notStar e0 = true ∧ es.all notStar = true := by simpa using hs
  rcases cr_bif I.F ok f with ⟨id, b1, b2⟩ | ⟨t, b1, b2⟩
  · exact PE.weak (pe_callB b2 g1 hm (by rw [← e1]; exact b1) L g3 g2 (star_of hs'.1 es X.env) (plain_of hs'.2 pos X.env)) fun _ _ _ h => tSB_of h
  · exact PE.weak (pe_callTy b2 g1 hm (by rw [← e1]; exact b1) L g3 g2 (star_of hs'.1 es X.env) (plain_of hs'.2 pos X.env)) fun _ _ _ h => tSB_of h
end

/-! ### parts of slices, of f-strings, what is walked -/
section
variable {G : Gs}
def evoM (G : Gs) : IO → Option EvF
  | .no => none
  | .yes a => some (rn (em G a))
theorem emO_run (o : IO) (env : Env) (p : Pot) : (emO G o env).run p = evP (evoM G o) env p := by
  cases o with
  | no => simp only [emO, evoM, evP]; rfl
  | yes a =>
    simp only [emO, evoM, evP, Tr.run_bind]
    show ((em G a env).run p).bind _ = ((em G a env).run p).bind _
    refine congrArg _ (funext fun r => ?_)
    obtain ⟨d, q⟩ := r
    cases d <;> rfl
theorem rn_sl {a : IE} {lo hi : IO} : rn (em G (.sl a lo hi)) = evSl (rn (em G a)) (evoM G lo) (evoM G hi) := by
  funext env p
  simp only [rn, em, evSl, Tr.run_bind, emO_run, Tr.run_of]
def partsM (G : Gs) : List IF → List (Sum Str EvF)
  | [] => []
  | .txt z :: r => .inl z :: partsM G r
  | .val a :: r => .inr (rn (em G a)) :: partsM G r
theorem emF_run : ∀ (ps : List IF) (acc : Str) (env : Env) (p : Pot), (emF G ps acc env).run p = evParts (partsM G ps) acc env p
  | [], acc, env, p => by simp only [emF, partsM, evParts]; rfl
  | .txt z :: r, acc, env, p => by
    simp only [emF, partsM, evParts, Tr.run_bind, run_opt, decide_eq_true_eq]
    split
    · simp only [Option.bind_some]; exact emF_run r _ env p
    · rfl
  | .val a :: r, acc, env, p => by
    simp only [emF, partsM, evParts, Tr.run_bind, Tr.run_of, run_opt, decide_eq_true_eq]
    show ((em G a env).run p).bind _ = ((em G a env).run p).bind _
    refine congrArg _ (funext fun q => ?_)
    cases fmtD q.1 with
    | none => rfl
    | some y =>
      simp only [Option.map_some, Option.bind_some]
      split
      · simp only [Option.bind_some]; exact emF_run r _ env q.2
      · rfl
theorem rn_fs {ps : List IF} : rn (em G (.fs ps)) = evFs (partsM G ps) := by
  funext env p
  simp only [rn, em, evFs, Tr.run_bind, emF_run]
  cases evParts (partsM G ps) Str.empty env p <;> rfl
theorem rn_items {a : IE} : rn (emI G (.items a)) = evIter (rn (em G a)) := by
  funext env p
  simp only [rn, emI, evIter, Tr.run_bind, itemsT, Tr.run_of]
theorem rn_rng1 {a : IE} : rn (emI G (.rng1 a)) = evIt rngD (evCons (rn (em G a)) evNil) := by
  funext env p
  simp only [rn, emI, evIt, evCons, evNil, Tr.run_bind, Tr.run_of]
  cases (em G a env).run p <;> rfl
theorem rn_it2 {g : List D → Option (List D)} {a b : IE} : rn (fun env => (em G a env).bind fun x => (em G b env).bind fun y => Tr.of (g [x, y])) = evIt g (evCons (rn (em G a)) (evCons (rn (em G b)) evNil)) := by
  funext env p
  simp only [rn, evIt, evCons, evNil, Tr.run_bind, Tr.run_of]
  cases (em G a env).run p with
  | none => rfl
  | some r => simp only [Option.bind_some]; cases (em G b env).run r.2 <;> rfl
theorem rn_it1 {g : List D → Option (List D)} {a : IE} : rn (fun env => (em G a env).bind fun x => Tr.of (g [x])) = evIt g (evCons (rn (em G a)) evNil) := by
  funext env p
  simp only [rn, evIt, evCons, evNil, Tr.run_bind, Tr.run_of]
  cases (em G a env).run p <;> rfl
theorem rn_meth {a : IE} {m : Str} {as : List IE} : rn (em G (.meth a m as)) = evMetT G.met m (rn (em G a)) (rn (ems G as)) := by
  funext env p
  simp only [rn, em, evMetT, Tr.run_bind]
theorem rn_isi {a c : IE} : rn (em G (.isi a c)) = evB (isiD G.known) (evCons (rn (em G a)) (evCons (rn (em G c)) evNil)) := by
  funext env p
  simp only [rn, em, evB, evCons, evNil, Tr.run_bind, Tr.run_of]
  cases (em G a env).run p with
  | none => rfl
  | some r => simp only [Option.bind_some]; cases (em G c env).run r.2 <;> rfl
theorem rn_cmpT {op : CmpOp} {a b : IE} : rn (emT G (.cmp op a b)) = evTru (opS2 (fun x y p => (cmpT G op x y).run p) (rn (em G a)) (rn (em G b))) := by
  funext env p
  simp only [rn, emT, evTru, opS2, Tr.run_bind, run_tru]
  cases (em G a env).run p with
  | none => rfl
  | some r =>
    simp only [Option.bind_some]
    cases (em G b env).run r.2 <;> rfl
theorem rn_rcmpT {eq : Bool} {a b : IE} : rn (emT G (.rcmp eq a b)) = evTru (op2 (rcmpD eq) (rn (em G a)) (rn (em G b))) := by
  funext env p
  simp only [rn, emT, evTru, op2, Tr.run_bind, run_tru, Tr.run_of]
  cases (em G a env).run p with
  | none => rfl
  | some r =>
    simp only [Option.bind_some]
    cases (em G b env).run r.2 <;> rfl
theorem rn_chain {o q : CmpOp} {a b c : IE} : rn (em G (.chain o q a b c)) = evChain (cmpD o) (cmpD q) (rn (em G a)) (rn (em G b)) (rn (em G c)) := by
  funext env p
  simp only [rn, em, evChain, Tr.run_bind]
  refine congrArg _ (funext fun x => congrArg _ (funext fun y => ?_))
  unfold chainT
  rw [Tr.run_bind, Tr.run_of]
  cases cmpD o x.1 y.1 with
  | none => rfl
  | some d =>
    simp only [Option.map_some, Option.bind_some]
    cases d with
    | bl b =>
      cases b with
      | true =>
        simp only [Tr.run_bind, Tr.run_of]
      | false => rfl
    | _ => rfl
theorem rn_lrng {as : List IE} : rn (em G (.lrng as)) = fun env p => (rn (ems G as) env p).bind fun r => match r.1 with | [x, y] => (lrngD x y).map fun d => (d, r.2) | _ => none := by
  funext env p
  simp only [rn, em, Tr.run_bind]
  refine congrArg _ (funext fun r => ?_)
  obtain ⟨ds, q⟩ := r
  unfold lrngT
  dsimp only
  split
  · rw [Tr.run_of]
  · rename_i h
    first
      | rfl
      | (split
         · exact absurd rfl (h _ _)
         · rfl)
theorem rn_fs1 {a : IE} : rn (em G (.fs1 a)) = evFmt (rn (em G a)) := by
  funext env p
  simp only [rn, em, evFmt, Tr.run_bind, Tr.run_of]
  refine congrArg _ (funext fun r => ?_)
  cases fmtD r.1 <;> rfl
theorem rn_tab {x : Str} {i : IE} : rn (em G (.tab x i)) = op1 (fun y => (G.tab x).bind fun kvs => tabD kvs y) (rn (em G i)) := by
  simp only [em]; exact rn_of1
end
end Rc

-- Rd14
set_option Elab.async false
set_option linter.all false
set_option maxRecDepth 100000
set_option maxHeartbeats 4000000
namespace Rc
open PySem PySem.Spec PyProof.Rows L2

/-! ### an expression that is what the IR says is worth what the IR is worth -/
theorem both_of {X : Cx} {e : Expr} {f : EvF} {v : Bool} (P : PD X e f) : PV X e f ∧ (v = false → PD X e f) := ⟨P.view, fun _ => P⟩
theorem pd_none {X : Cx} {e : Expr} {f : EvF} (h : ∀ env p, f env p = none) : PD X e f := ⟨fun pins s σ H Q I ⟨pa, M, env, p, d, p', hE, hP, hf, kk⟩ => by rw [h] at hf; cases hf⟩
theorem len1 {f : EvF} : ∀ env p r, evCons f evNil env p = some r → r.1.length = 1 := by
  intro env p r h
  unfold evCons evNil at h
  obtain ⟨⟨x, p1⟩, _, h2⟩ := Option.bind_eq_some_iff.mp h
  simp at h2
  subst h2; rfl
theorem len2 {f g : EvF} : ∀ env p r, evCons f (evCons g evNil) env p = some r → r.1.length = 2 := by
  intro env p r h
  unfold evCons at h
  obtain ⟨⟨x, p1⟩, _, h2⟩ := Option.bind_eq_some_iff.mp h
  obtain ⟨q, h3, h4⟩ := Option.map_eq_some_iff.mp h2
  subst h4
  have := len1 _ _ _ h3
  simp [this]
section
variable {T : Th} {k : Nat} {G : Gs}
theorem pd_isiT {N : List Str} {sc : Scope} {X : Cx} (I : InX T (k + 3) N sc X) (ok : GOk T k G) {e1 e2 : Expr} {f g : EvF} {px pos : Pos} (h1 : gloB sc "isinstance" = true) (s1 : notStar e1 = true) (s2 : notStar e2 = true)
    (A : PV X e1 f) (B : PV X e2 g) : PD X (.Call (.Name "isinstance" px) [e1, e2] [] pos) (evB (isiD G.known) (evCons f (evCons g evNil))) := by
  obtain ⟨g1, g2, g3⟩ := gloB_of I h1
  have hi : IsiH X.K G.known := by rw [I.F.K]; exact ok.isi
  exact pd_callB (cr_isi hi) g1 (by rw [I.F.mg]; exact ok.free _ (by decide)) (by decide +kernel) (plv_cons A (plv_cons B plv_nil (star_of s2 [] X.env)) (star_of s1 [e2] X.env)) g3 g2 (star_of s1 [e2] X.env) (plain_of (by simp [s2]) pos X.env)
theorem pd_tabT {N : List Str} {sc : Scope} {X : Cx} (I : InX T (k + 3) N sc X) (ok : GOk T k G) {x : Str} {y : Expr} {f : EvF} {px pos : Pos} (h1 : gloB sc x = true) (h2 : plainIx y = true) (B : PD X y f) :
    PD X (.Subscript (.Name x px) y pos) (op1 (fun d => (G.tab x).bind fun kvs => tabD kvs d) f) := by
  cases e : G.tab x with
  | none => exact pd_none fun env p => by unfold op1; cases f env p <;> rfl
  | some kvs =>
    obtain ⟨g1, g2, _⟩ := gloB_of I h1
    exact pd_tab I.F (ok.tab x kvs e) g1 g2 B (plainIx_of h2)
theorem pd_gloT {N : List Str} {sc : Scope} {X : Cx} (I : InX T (k + 3) N sc X) (ok : GOk T k G) {x : Str} {pos : Pos} (h : gloB sc x = true) : PD X (.Name x pos) (rn (em G (.glo x))) := by
  cases e : G.glo x with
  | none => exact pd_none fun env p => by simp only [rn, em, e]; rfl
  | some d =>
    have : rn (em G (.glo x)) = evC d := by funext env p; simp only [rn, em, e]; rfl
    rw [this]
    exact pd_glo I h (ok.glo x d e)
theorem pd_selfT {N : List Str} {sc : Scope} {X : Cx} (I : InX T (k + 3) N sc X) (ok : GOk T k G) {c : Str} {i : Nat} {f x : Str} {px pos : Pos} (ha : G.att c f = some none) (h : varB N sc i x = true) : PD X (.Attribute (.Name x px) f pos) (evSelf c i f) := by
  obtain ⟨g1, g2, g3, g4⟩ := varB_of I h
  have z := ok.att c f none ha
  exact pd_self (by rw [I.F.K]; exact z.1) (by rw [I.F.K]; exact z.2) g1 g2 g3 g4 (attrBase_of rfl f X.env)
theorem marks_of2 {b c : Expr} (h : notSet c = true) {o : CmpOp} (q : CmpOp) : lastMarks [o, q] [b, c] = false := by
  cases c <;> first | rfl | cases h
theorem pd_str1 {N : List Str} {sc : Scope} {X : Cx} (I : InX T (k + 3) N sc X) (ok : GOk T k G) {e : Expr} {f : EvF} {px pos : Pos} (g1 : Gl X "str") (hs : notStar e = true) (he : PV X e f) : PD X (.Call (.Name "str" px) [e] [] pos) (opS1 (fun x p => (strT G x).run p) f) :=
  PE.weak (pe_callTy (cr_str1 I.F ok) g1 (by rw [I.F.mg]; exact ok.free _ (by decide)) rfl (plv_cons he plv_nil (star_of hs [] X.env)) (by decide) (by decide) (star_of hs [] X.env) rfl) fun σ H Q ⟨pa, M, env, p, d, p', hE, hP, hf, kk⟩ => by
    unfold opS1 at hf
    obtain ⟨⟨x, q⟩, h1, h2⟩ := Option.bind_eq_some_iff.mp hf
    refine tSB_of ⟨pa, M, env, p, d, p', hE, hP, ?_, kk⟩
    simp only [evSB, evCons, evNil, h1, Option.bind_some, Option.map_some]
    exact h2
/-- the fields of instances that are being made are plain fields -/
def SlfOk (G : Gs) : Prop := ∀ c f, (G.att c f = some none) ∨ True
mutual
/-- the fields that are read of self in __init__ -/
def slfs : IE → List (Str × Str)
  | .slf c _ f => [(c, f)]
  | .un _ a => slfs a
  | .not a => slfs a
  | .bin _ a b => slfs a ++ slfs b
  | .cmp _ a b => slfs a ++ slfs b
  | .and a b => slfs a ++ slfs b
  | .or a b => slfs a ++ slfs b
  | .ite c a b => slfT c ++ slfs a ++ slfs b
  | .tup as => slfL as
  | .lst as => slfX as
  | .ix a i => slfs a ++ slfs i
  | .tab _ i => slfs i
  | .sl a lo hi => slfs a ++ slfO lo ++ slfO hi
  | .call _ as => slfL as
  | .mk _ as => slfL as
  | .mkL _ as => slfL as
  | .bi _ as => slfL as
  | .isi a c => slfs a ++ slfs c
  | .attr _ a => slfs a
  | .meth a _ as => slfs a ++ slfL as
  | .cmeth _ _ as => slfL as
  | .lc _ _ it c e => slfI it ++ slfC c ++ slfs e
  | .fs ps => slfF ps
  | .rcmp _ a b => slfs a ++ slfs b
  | .var _ => []
  | .own _ => []
  | .con _ => []
  | .glo _ => []
  | .pix _ _ => []
  | .chain _ _ a b c => slfs a ++ slfs b ++ slfs c
  | .rev a => slfs a
  | .lrng as => slfL as
  | .str1 a => slfs a
  | .fs1 a => slfs a
def slfL : List IE → List (Str × Str)
  | [] => []
  | a :: as => slfs a ++ slfL as
def slfX : List IX → List (Str × Str)
  | [] => []
  | .one a :: as => slfs a ++ slfX as
  | .star a :: as => slfs a ++ slfX as
def slfF : List IF → List (Str × Str)
  | [] => []
  | .txt _ :: as => slfF as
  | .val a :: as => slfs a ++ slfF as
def slfT : IT → List (Str × Str)
  | .rcmp _ a b => slfs a ++ slfs b
  | .val a => slfs a
  | .not t => slfT t
  | .and s t => slfT s ++ slfT t
  | .or s t => slfT s ++ slfT t
  | .cmp _ a b => slfs a ++ slfs b
def slfO : IO → List (Str × Str)
  | .no => []
  | .yes a => slfs a
def slfC : IC → List (Str × Str)
  | .no => []
  | .yes a => slfT a
def slfI : II → List (Str × Str)
  | .items a => slfs a
  | .rng1 a => slfs a
  | .rng2 a b => slfs a ++ slfs b
  | .zip a b => slfs a ++ slfs b
  | .enum a => slfs a
end
def Fl0 (G : Gs) (l : List (Str × Str)) : Prop := ∀ q ∈ l, G.att q.1 q.2 = some none
theorem Fl0.l {a b : List (Str × Str)} (h : Fl0 G (a ++ b)) : Fl0 G a := fun q hq => h q (List.mem_append_left _ hq)
theorem Fl0.r {a b : List (Str × Str)} (h : Fl0 G (a ++ b)) : Fl0 G b := fun q hq => h q (List.mem_append_right _ hq)
mutual
theorem snd (ok : GOk T k G) : ∀ (a : IE) {e : Expr} {v : Bool} {N : List Str} {sc : Scope} {X : Cx}, InX T (k + 3) N sc X → chk N sc v a e = true → Fl0 G (slfs a) → PV X e (rn (em G a)) ∧ (v = false → PD X e (rn (em G a)))
  | .var i, e, v, N, sc, X, I, h, hn => by
    obtain ⟨x, p, rfl, w1⟩ := onName_inv h
    obtain ⟨g1, g2, g3, g4⟩ := varB_of I w1
    simp only [em]
    rw [rn_var]
    exact both_of (pd_var g1 g2 g3 g4)
  | .own i, e, v, N, sc, X, I, h, hn => by
    obtain ⟨x, p, rfl, w1⟩ := onName_inv h
    obtain ⟨hv, w1⟩ := Bool.and_eq_true_iff.mp w1
    obtain ⟨g1, g2, g3, g4⟩ := varB_of I w1
    simp only [em]
    rw [rn_own]
    exact ⟨pv_own g1 g2 g3 g4, fun z => by rw [z] at hv; cases hv⟩
  | .con d, e, v, N, sc, X, I, h, hn => by
    obtain ⟨c, j, p, rfl, w1⟩ := onCon_inv h
    simp only [em]
    rw [rn_ret]
    exact both_of (conB_of w1)
  | .glo y, e, v, N, sc, X, I, h, hn => by
    obtain ⟨x, p, rfl, w1⟩ := onName_inv h
    obtain ⟨e1, w1⟩ := Bool.and_eq_true_iff.mp w1
    have e2 : y = x := by simpa using e1
    subst e2
    exact both_of (pd_gloT I ok w1)
  | .un op a, e, v, N, sc, X, I, h, hn => by
    obtain ⟨o, x, p, rfl, w1⟩ := onUn_inv h
    simp only [Bool.and_eq_true, decide_eq_true_eq] at w1
    obtain ⟨⟨rfl, h2⟩, h3⟩ := w1
    simp only [em]
    rw [rn_op1]
    exact both_of (pd_unS (un_T (I.F.mono (by omega)) ok op) (snd ok a I h3 hn).1)
  | .not a, e, v, N, sc, X, I, h, hn => by
    obtain ⟨o, x, p, rfl, w1⟩ := onUn_inv h
    simp only [Bool.and_eq_true, decide_eq_true_eq] at w1
    obtain ⟨rfl, h3⟩ := w1
    simp only [em]
    rw [rn_not]
    exact both_of (pd_not (snd ok a I h3 hn).1)
  | .bin op a b, e, v, N, sc, X, I, h, hn => by
    obtain ⟨x, o, y, p, rfl, w1⟩ := onBin_inv h
    simp only [Bool.and_eq_true, decide_eq_true_eq] at w1
    obtain ⟨rfl, h2, h3⟩ := w1
    simp only [em]
    rw [rn_op2]
    exact both_of (pd_binS (op_binT (I.F.mono (by omega)) ok op) (snd ok a I h2 hn.l).1 (snd ok b I h3 hn.r).1)
  | .cmp op a b, e, v, N, sc, X, I, h, hn => by
    obtain ⟨x, o, y, p, rfl, w1⟩ := onCmp_inv h
    simp only [Bool.and_eq_true, decide_eq_true_eq] at w1
    obtain ⟨⟨rfl, hm⟩, h2, h3⟩ := w1
    simp only [em]
    rw [rn_op2]
    exact both_of (pd_cmpS (op_cmpT (I.F.mono (by omega)) ok op) (snd ok a I h2 hn.l).1 (snd ok b I h3 hn.r).1 (marks_of hm op))
  | .and a b, e, v, N, sc, X, I, h, hn => by
    obtain ⟨o, x, y, r, p, rfl, w1⟩ := onBool_inv h
    simp only [Bool.and_eq_true, decide_eq_true_eq] at w1
    obtain ⟨rfl, h2, h3⟩ := w1
    simp only [em]
    rw [rn_and]
    refine both_of (pd_and ((snd ok a I h2 hn.l).2 rfl) ?_)
    cases r with
    | nil => exact pd_one ((snd ok b I h3 hn.r).2 rfl)
    | cons z r => exact (snd ok b I h3 hn.r).2 rfl
  | .or a b, e, v, N, sc, X, I, h, hn => by
    obtain ⟨o, x, y, r, p, rfl, w1⟩ := onBool_inv h
    simp only [Bool.and_eq_true, decide_eq_true_eq] at w1
    obtain ⟨rfl, h2, h3⟩ := w1
    simp only [em]
    rw [rn_or]
    refine both_of (pd_or ((snd ok a I h2 hn.l).2 rfl) ?_)
    cases r with
    | nil => exact pd_one ((snd ok b I h3 hn.r).2 rfl)
    | cons z r => exact (snd ok b I h3 hn.r).2 rfl
  | .ite c a b, e, v, N, sc, X, I, h, hn => by
    obtain ⟨t, x, y, p, rfl, w1⟩ := onIfE_inv h
    simp only [Bool.and_eq_true] at w1
    obtain ⟨h2, h3, h4⟩ := w1
    simp only [em]
    rw [rn_ite]
    exact both_of (pd_if (sndT ok c I h2 hn.l.l) ((snd ok a I h3 hn.l.r).2 rfl) ((snd ok b I h4 hn.r).2 rfl))
  | .tup as, e, v, N, sc, X, I, h, hn => by
    obtain ⟨es, j, p, rfl, w1⟩ := onTup_inv h
    simp only [em]
    rw [rn_tup]
    exact both_of (pd_tup ((sndL ok as I w1 hn).2.1 rfl))
  | .lst as, e, v, N, sc, X, I, h, hn => by
    obtain ⟨es, p, rfl, w1⟩ := onLst_inv h
    simp only [em]
    rw [rn_lst]
    exact both_of (PF.pd (pf_lst (sndX ok as I w1 hn)))
  | .ix a i, e, v, N, sc, X, I, h, hn => by
    obtain ⟨x, y, p, rfl, w1⟩ := onSub_inv h
    simp only [Bool.and_eq_true] at w1
    obtain ⟨h2, h3, h4⟩ := w1
    simp only [em]
    rw [rn_of2]
    exact both_of (pd_ix ix_D (snd ok a I h3 hn.l).1 (snd ok i I h4 hn.r).1 (plainIx_of h2))
  | .tab t i, e, v, N, sc, X, I, h, hn => by
    obtain ⟨x, y, p, rfl, w1⟩ := onSub_inv h
    obtain ⟨x, px, rfl, h2⟩ := onName_inv w1
    simp only [Bool.and_eq_true, decide_eq_true_eq] at h2
    obtain ⟨⟨⟨rfl, h3⟩, h4⟩, h5⟩ := h2
    rw [rn_tab]
    exact both_of (pd_tabT I ok h3 h4 ((snd ok i I h5 hn).2 rfl))
  | .sl a lo hi, e, v, N, sc, X, I, h, hn => by
    obtain ⟨x, y, p, rfl, w1⟩ := onSub_inv h
    obtain ⟨l, u, p2, rfl, h2⟩ := onSlice_inv w1
    simp only [Bool.and_eq_true] at h2
    obtain ⟨h3, h4, h5⟩ := h2
    rw [rn_sl]
    exact both_of (pd_slice (snd ok a I h3 hn.l.l).1 (sndO ok lo I h4 hn.l.r) (sndO ok hi I h5 hn.r))
  | .call f as, e, v, N, sc, X, I, h, hn => by
    obtain ⟨g, es, p, rfl, w1⟩ := onCall_inv h
    obtain ⟨x, px, rfl, h2⟩ := onName_inv w1
    simp only [Bool.and_eq_true, decide_eq_true_eq] at h2
    obtain ⟨⟨rfl, h3⟩, h4⟩ := h2
    obtain ⟨g1, g2, _⟩ := gloB_of I h3
    obtain ⟨_, L, hs, h0⟩ := sndL ok as I h4 hn
    simp only [em]
    rw [rn_call]
    exact both_of (pd_callT (I.F.mono (by omega)) (fun f0 e0 => ok.fn f f0 e0) g1 (L rfl) g2 hs h0)
  | .mk c as, e, v, N, sc, X, I, h, hn => by
    obtain ⟨g, es, p, rfl, w1⟩ := onCall_inv h
    obtain ⟨x, px, rfl, h2⟩ := onName_inv w1
    obtain ⟨e1, er, rfl, h3⟩ := onSome_inv h2
    simp only [Bool.and_eq_true, decide_eq_true_eq] at h3
    obtain ⟨⟨rfl, h4⟩, h5⟩ := h3
    obtain ⟨g1, g2, _⟩ := gloB_of I h4
    obtain ⟨_, L, hs, _⟩ := sndL ok as I h5 hn
    have hs' : notStar e1 = true ∧ er.all notStar = true := by simpa using hs
    simp only [em]
    rw [rn_call]
    exact both_of (pd_makT (k := k) (I.F.mono (by omega)) (fun f0 e0 => ok.mak c f0 e0) g1 (L rfl) g2 (star_of hs'.1 er X.env) (plain_of hs'.2 p X.env))
  | .mkL i as, e, v, N, sc, X, I, h, hn => by
    obtain ⟨g, es, p, rfl, w1⟩ := onCall_inv h
    obtain ⟨x, px, rfl, h2⟩ := onName_inv w1
    obtain ⟨e1, er, rfl, h3⟩ := onSome_inv h2
    simp only [Bool.and_eq_true] at h3
    obtain ⟨h4, h5⟩ := h3
    obtain ⟨g1, g2, g3, g4⟩ := varB_of I h4
    obtain ⟨_, L, hs, _⟩ := sndL ok as I h5 hn
    have hs' : notStar e1 = true ∧ er.all notStar = true := by simpa using hs
    simp only [em]
    rw [rn_mkL]
    exact both_of (pd_makLT (k := k) (mak := G.mak) (I.F.mono (by omega)) (fun c f0 e0 => ok.mak c f0 e0) g1 g2 (L rfl) g3 g4 (star_of hs'.1 er X.env) (plain_of hs'.2 p X.env))
  | .bi f as, e, v, N, sc, X, I, h, hn => by
    obtain ⟨g, es, p, rfl, w1⟩ := onCall_inv h
    obtain ⟨x, px, rfl, h2⟩ := onName_inv w1
    obtain ⟨e1, er, rfl, h3⟩ := onSome_inv h2
    simp only [Bool.and_eq_true, decide_eq_true_eq] at h3
    obtain ⟨⟨e2, h4⟩, h5⟩ := h3
    obtain ⟨g1, g2, g3⟩ := gloB_of I h4
    obtain ⟨L, _, hs, _⟩ := sndL ok as I h5 hn
    simp only [em]
    rw [rn_call]
    exact both_of (pd_bif I ok f e2 g1 g2 g3 L hs)
  | .isi a c, e, v, N, sc, X, I, h, hn => by
    obtain ⟨g, es, p, rfl, w1⟩ := onCall_inv h
    obtain ⟨x, px, rfl, h2⟩ := onName_inv w1
    obtain ⟨e1, e2, rfl, h3⟩ := onTwo_inv h2
    simp only [Bool.and_eq_true, decide_eq_true_eq] at h3
    obtain ⟨⟨⟨⟨rfl, h4⟩, s1⟩, s2⟩, h5, h6⟩ := h3
    rw [rn_isi]
    exact both_of (pd_isiT I ok h4 s1 s2 (snd ok a I h5 hn.l).1 (snd ok c I h6 hn.r).1)
  | .attr f a, e, v, N, sc, X, I, h, hn => by
    obtain ⟨o, g, p, rfl, w1⟩ := onAttr_inv h
    simp only [Bool.and_eq_true, decide_eq_true_eq] at w1
    obtain ⟨⟨rfl, h2⟩, h3⟩ := w1
    simp only [em]
    rw [rn_op1]
    exact both_of (pd_attT (k := k) (att := G.att) (I.F.mono (by omega)) (fun c r e0 => ok.att c f r e0) ((snd ok a I h3 hn).2 rfl) (attrBase_of h2 f X.env))
  | .slf c i f, e, v, N, sc, X, I, h, hn => by
    obtain ⟨o, g, p, rfl, w1⟩ := onAttr_inv h
    obtain ⟨x, px, rfl, h2⟩ := onName_inv w1
    simp only [Bool.and_eq_true, decide_eq_true_eq] at h2
    obtain ⟨rfl, h3⟩ := h2
    simp only [em]
    rw [rn_self]
    exact both_of (pd_selfT I ok (hn (c, f) (by simp [slfs])) h3)
  | .meth a m as, e, v, N, sc, X, I, h, hn => by
    obtain ⟨g, es, p, rfl, w1⟩ := onCall_inv h
    obtain ⟨o, n, ap, rfl, h2⟩ := onAttr_inv w1
    simp only [Bool.and_eq_true, decide_eq_true_eq] at h2
    obtain ⟨⟨⟨⟨⟨rfl, h3⟩, h4⟩, h5⟩, h6⟩, h7⟩ := h2
    obtain ⟨_, L, hs, h0⟩ := sndL ok as I h7 hn.r
    rw [rn_meth]
    exact both_of (pd_metT (I.F.mono (by omega)) (fun c f0 e0 => ok.met c m f0 e0) ((snd ok a I h6 hn.l).2 rfl) (L rfl) hs h0 (meth_eval h3 hs h4 h5))
  | .cmeth c m as, e, v, N, sc, X, I, h, hn => by
    obtain ⟨g, es, p, rfl, w1⟩ := onCall_inv h
    obtain ⟨o, n, ap, rfl, h2⟩ := onAttr_inv w1
    obtain ⟨x, px, rfl, h3⟩ := onName_inv h2
    obtain ⟨e1, er, rfl, h4⟩ := onSome_inv h3
    simp only [Bool.and_eq_true, decide_eq_true_eq] at h4
    obtain ⟨⟨⟨⟨⟨rfl, rfl⟩, h5⟩, h6⟩, h7⟩, h8⟩ := h4
    obtain ⟨_, L, hs, _⟩ := sndL ok as I h8 hn
    obtain ⟨g1, g2, _⟩ := gloB_of I h5
    simp only [em]
    rw [rn_call]
    exact both_of (pd_cmeT (I.F.mono (by omega)) (fun f1 e0 => ok.cme c m f1 e0) g1 g2 (L rfl) hs (meth_eval rfl hs h6 h7))
  | .lc t own it c el, e, v, N, sc, X, I, h, hn => by
    obtain ⟨elt, tg, iter, ifs, scope, pos, rfl, w1⟩ := onLc_inv h
    simp only [Bool.and_eq_true] at w1
    obtain ⟨⟨⟨⟨⟨⟨w1, h2⟩, h3⟩, h4⟩, h5⟩, h6⟩, h7⟩ := w1
    simp only [em]
    rw [rn_lc]
    refine both_of (PF.pd (pf_lc I.F.calm (by rw [I.hN]; exact I.nd) (sndI ok it I h4 hn.l.l) (by rw [I.hN, I.sc]; exact blkOk_by h2) (fun j hj => ?_) (fun s H C cl fp => ?_) (fun s H C cl fp => ?_) (fun s H C cl fp => ?_) (folded_of w1 X.env)))
    · have := List.all_eq_true.mp h3 j hj
      simpa using this
    · have J := I.blk s H scope C cl fp
      exact tgB_of J.F.calm J.hN J.sc J.nd (.inl rfl) t h5
    · exact sndC ok c (I.blk s H scope C cl fp) h6 hn.l.r
    · exact (snd ok el (I.blk s H scope C cl fp) h7 hn.r).2 rfl
  | .fs ps, e, v, N, sc, X, I, h, hn => by
    obtain ⟨a, b, r, p, rfl, w1⟩ := onFs_inv h
    rw [rn_fs]
    exact both_of (pd_fs (sndF ok ps I w1 hn))
  | .rcmp eq a b, e, v, N, sc, X, I, h, hn => by
    obtain ⟨x, o, y, p, rfl, w1⟩ := onCmp_inv h
    obtain ⟨f1, es1, q1, rfl, w2⟩ := onCall_inv w1
    obtain ⟨f2, es2, q2, rfl, w3⟩ := onCall_inv w2
    obtain ⟨n1, p1, rfl, w4⟩ := onName_inv w3
    obtain ⟨n2, p2, rfl, w5⟩ := onName_inv w4
    obtain ⟨e1, rfl, w6⟩ := onOne_inv w5
    obtain ⟨e2, rfl, w7⟩ := onOne_inv w6
    simp only [Bool.and_eq_true, decide_eq_true_eq] at w7
    obtain ⟨⟨⟨⟨⟨⟨h2, rfl⟩, rfl⟩, h3⟩, s1⟩, s2⟩, h4, h5⟩ := w7
    obtain ⟨g1, _, _⟩ := gloB_of I h3
    simp only [em]
    rw [rn_of2]
    have hop : (o = .Eq ∧ eq = true) ∨ (o = .NotEq ∧ eq = false) := by
      cases eq with
      | true => exact .inl ⟨by simpa using h2, rfl⟩
      | false => exact .inr ⟨by simpa using h2, rfl⟩
    have hu : X.A.units + 66 < cLine := by have := I.F.rm.r.un; omega
    exact both_of (pd_rcmp hop I.F.rm.g hu g1 (by rw [I.F.mg]; exact ok.free _ (by decide)) s1 s2 (snd ok a I h4 hn.l).1 (snd ok b I h5 hn.r).1)
  | .chain o q a b c, e, v, N, sc, X, I, h, hn => by
    obtain ⟨x, o', y, q', z, p, rfl, w1⟩ := onChain_inv h
    simp only [Bool.and_eq_true, decide_eq_true_eq] at w1
    obtain ⟨⟨⟨rfl, rfl⟩, hs⟩, h3, h4, h5⟩ := w1
    rw [rn_chain]
    exact both_of (pd_chain (op_cmpD I.F) (op_cmpD I.F) (snd ok a I h3 hn.l.l).1 (snd ok b I h4 hn.l.r).1 (snd ok c I h5 hn.r).1 (marks_of2 hs q))
  | .rev a, e, v, N, sc, X, I, h, hn => by
    obtain ⟨x, kk, p1, p2, p3, p, rfl, w1⟩ := onRev_inv h
    simp only [em]
    rw [rn_of1]
    exact both_of (pd_rev ((snd ok a I w1 hn).2 rfl))
  | .lrng as, e, v, N, sc, X, I, h, hn => by
    obtain ⟨g, es, p, rfl, w1⟩ := onCall_inv h
    obtain ⟨x, px, rfl, w2⟩ := onName_inv w1
    obtain ⟨e1, rfl, w3⟩ := onOne_inv w2
    obtain ⟨g2, es2, p2, rfl, w4⟩ := onCall_inv w3
    obtain ⟨y, py, rfl, w5⟩ := onName_inv w4
    obtain ⟨a1, b1, rfl, w6⟩ := onTwo_inv w5
    simp only [Bool.and_eq_true, decide_eq_true_eq] at w6
    obtain ⟨⟨⟨⟨rfl, rfl⟩, h3⟩, h4⟩, h5⟩ := w6
    obtain ⟨g1, _, _⟩ := gloB_of I h3
    obtain ⟨g3, _, _⟩ := gloB_of I h4
    obtain ⟨_, L, hs, _⟩ := sndL ok as I h5 hn
    have hs' : notStar a1 = true ∧ [b1].all notStar = true := by simpa using hs
    rw [rn_lrng]
    exact both_of (pd_lrng I.F.calm g1 (by rw [I.F.mg]; exact ok.free _ (by decide)) g3 (by rw [I.F.mg]; exact ok.free _ (by decide)) (L rfl) (star_of hs'.1 [b1] X.env) (plain_of hs'.2 p2 X.env))
  | .str1 a, e, v, N, sc, X, I, h, hn => by
    obtain ⟨g, es, p, rfl, w1⟩ := onCall_inv h
    obtain ⟨x, px, rfl, w2⟩ := onName_inv w1
    obtain ⟨e1, rfl, w3⟩ := onOne_inv w2
    simp only [Bool.and_eq_true, decide_eq_true_eq] at w3
    obtain ⟨⟨⟨rfl, h3⟩, h4⟩, h5⟩ := w3
    obtain ⟨g1, _, _⟩ := gloB_of I h3
    simp only [em]
    rw [rn_op1]
    exact both_of (pd_str1 I ok g1 h4 (snd ok a I h5 hn).1)
  | .fs1 a, e, v, N, sc, X, I, h, hn => by
    obtain ⟨y, p, rfl, w1⟩ := onFs1_inv h
    obtain ⟨z, pz, rfl, w2⟩ := onFv_inv w1
    rw [rn_fs1]
    exact both_of (pd_fs1 ((snd ok a I w2 hn).2 rfl))
  | .pix i j, e, v, N, sc, X, I, h, hn => by
    obtain ⟨x, y, p, rfl, w1⟩ := onSub_inv h
    obtain ⟨x, px, rfl, w2⟩ := onName_inv w1
    obtain ⟨c, kk, pc, rfl, w3⟩ := onCon_inv w2
    obtain ⟨w4, w5⟩ := Bool.and_eq_true_iff.mp w3
    obtain ⟨g1, g2, g3, g4⟩ := varB_of I w4
    cases c with
    | int z =>
      have ez : z = (j : Int) := by simpa using w5
      subst ez
      simp only [em]
      rw [rn_pix]
      exact both_of (pd_pix g1 g2 g3 g4)
    | _ => cases w5
theorem sndL (ok : GOk T k G) : ∀ (as : List IE) {es : List Expr} {v : Bool} {N : List Str} {sc : Scope} {X : Cx}, InX T (k + 3) N sc X → chks N sc v as es = true → Fl0 G (slfL as) →
    PLV X es (rn (ems G as)) ∧ (v = false → PL X es (rn (ems G as))) ∧ es.all notStar = true ∧ (es = [] → rn (ems G as) = evNil)
  | [], es, v, N, sc, X, I, h, hn => by
    have e : es = [] := List.isEmpty_iff.mp h
    subst e
    simp only [ems]
    rw [rn_nil]
    exact ⟨plv_nil, fun _ => pl_nil, rfl, fun _ => rfl⟩
  | a :: as, es, v, N, sc, X, I, h, hn => by
    obtain ⟨e, er, rfl, w1⟩ := onSome_inv h
    simp only [Bool.and_eq_true] at w1
    obtain ⟨⟨h2, h3⟩, h4⟩ := w1
    obtain ⟨A, B⟩ := snd ok a I h3 hn.l
    obtain ⟨L, M, hs, _⟩ := sndL ok as I h4 hn.r
    simp only [ems]
    rw [rn_cons]
    exact ⟨plv_cons A L (star_of h2 er X.env), fun z => pl_cons (B z) (M z) (star_of h2 er X.env), by simp [h2, hs], fun z => by cases z⟩
theorem sndX (ok : GOk T k G) : ∀ (as : List IX) {es : List Expr} {N : List Str} {sc : Scope} {X : Cx}, InX T (k + 3) N sc X → chkX N sc as es = true → Fl0 G (slfX as) → PL X es (rn (emX G as))
  | [], es, N, sc, X, I, h, hn => by
    have e : es = [] := List.isEmpty_iff.mp h
    subst e
    simp only [emX]
    rw [rn_nil]
    exact pl_nil
  | .one a :: as, es, N, sc, X, I, h, hn => by
    obtain ⟨e, er, rfl, w1⟩ := onSome_inv h
    simp only [Bool.and_eq_true] at w1
    obtain ⟨⟨h2, h3⟩, h4⟩ := w1
    simp only [emX]
    rw [rn_cons]
    exact pl_cons ((snd ok a I h3 hn.l).2 rfl) (sndX ok as I h4 hn.r) (star_of h2 er X.env)
  | .star a :: as, es, N, sc, X, I, h, hn => by
    obtain ⟨e, er, rfl, w1⟩ := onSome_inv h
    obtain ⟨x, p, rfl, w2⟩ := onStar_inv w1
    simp only [Bool.and_eq_true] at w2
    simp only [emX]
    rw [rn_star]
    exact pl_star (snd ok a I w2.1 hn.l).1 (sndX ok as I w2.2 hn.r)
theorem sndF (ok : GOk T k G) : ∀ (ps : List IF) {es : List Expr} {N : List Str} {sc : Scope} {X : Cx}, InX T (k + 3) N sc X → chkF N sc ps es = true → Fl0 G (slfF ps) → PFs X es (partsM G ps)
  | [], es, N, sc, X, I, h, hn => by
    have e : es = [] := List.isEmpty_iff.mp h
    subst e
    exact .nil
  | .txt z :: ps, es, N, sc, X, I, h, hn => by
    obtain ⟨e, er, rfl, w1⟩ := onSome_inv h
    obtain ⟨c, j, p, rfl, w2⟩ := onCon_inv w1
    obtain ⟨h2, h3⟩ := Bool.and_eq_true_iff.mp w2
    cases c with
    | str y =>
      simp only [Bool.and_eq_true, decide_eq_true_eq] at h2
      obtain ⟨rfl, h4⟩ := h2
      exact .txt (strB_of h4) (sndF ok ps I h3 hn)
    | _ => cases h2
  | .val a :: ps, es, N, sc, X, I, h, hn => by
    obtain ⟨e, er, rfl, w1⟩ := onSome_inv h
    obtain ⟨x, p, rfl, w2⟩ := onFv_inv w1
    simp only [Bool.and_eq_true] at w2
    exact .val ((snd ok a I w2.1 hn.l).2 rfl) (sndF ok ps I w2.2 hn.r)
/-- a test -/
theorem sndT (ok : GOk T k G) : ∀ (t : IT) {e : Expr} {N : List Str} {sc : Scope} {X : Cx}, InX T (k + 3) N sc X → chkT N sc t e = true → Fl0 G (slfT t) → PB X e (rn (emT G t))
  | .val a, e, N, sc, X, I, h, hn => by
    obtain ⟨h1, h2⟩ := Bool.and_eq_true_iff.mp (show (plainTest e && chk N sc true a e) = true from h)
    simp only [emT]
    rw [rn_tru]
    exact pb_truth (snd ok a I h2 hn).1 (plainTest_of h1 X.env)
  | .not t, e, N, sc, X, I, h, hn => by
    obtain ⟨o, x, p, rfl, w1⟩ := onUn_inv h
    simp only [Bool.and_eq_true, decide_eq_true_eq] at w1
    obtain ⟨rfl, h2⟩ := w1
    simp only [emT]
    rw [rn_notT]
    exact pb_not (sndT ok t I h2 hn)
  | .and s t, e, N, sc, X, I, h, hn => by
    obtain ⟨o, x, y, r, p, rfl, w1⟩ := onBool_inv h
    exact (sndW ok (.and s t) I (by exact h) (.inl rfl) hn).pb
  | .or s t, e, N, sc, X, I, h, hn => by
    obtain ⟨o, x, y, r, p, rfl, w1⟩ := onBool_inv h
    exact (sndW ok (.or s t) I (by exact h) (.inr rfl) hn).pb
  | .cmp op a b, e, N, sc, X, I, h, hn => by
    obtain ⟨x, o, y, p, rfl, w1⟩ := onCmp_inv h
    simp only [Bool.and_eq_true, decide_eq_true_eq] at w1
    obtain ⟨⟨rfl, hm⟩, h2, h3⟩ := w1
    rw [rn_cmpT]
    exact pb_cmpS (op_cmpT (I.F.mono (by omega)) ok op) (snd ok a I h2 hn.l).1 (snd ok b I h3 hn.r).1 (marks_of hm op) (fun x y p d p' q => cmpT_bl q)
  | .rcmp eq a b, e, N, sc, X, I, h, hn => by
    obtain ⟨x, o, y, p, rfl, w1⟩ := onCmp_inv h
    obtain ⟨f1, es1, q1, rfl, w2⟩ := onCall_inv w1
    obtain ⟨f2, es2, q2, rfl, w3⟩ := onCall_inv w2
    obtain ⟨n1, p1, rfl, w4⟩ := onName_inv w3
    obtain ⟨n2, p2, rfl, w5⟩ := onName_inv w4
    obtain ⟨e1, rfl, w6⟩ := onOne_inv w5
    obtain ⟨e2, rfl, w7⟩ := onOne_inv w6
    simp only [Bool.and_eq_true, decide_eq_true_eq] at w7
    obtain ⟨⟨⟨⟨⟨⟨h2, rfl⟩, rfl⟩, h3⟩, s1⟩, s2⟩, h4, h5⟩ := w7
    obtain ⟨g1, _, _⟩ := gloB_of I h3
    rw [rn_rcmpT]
    have hop : (o = .Eq ∧ eq = true) ∨ (o = .NotEq ∧ eq = false) := by
      cases eq with
      | true => exact .inl ⟨by simpa using h2, rfl⟩
      | false => exact .inr ⟨by simpa using h2, rfl⟩
    have hu : X.A.units + 66 < cLine := by have := I.F.rm.r.un; omega
    exact pb_rcmp hop I.F.rm.g hu g1 (by rw [I.F.mg]; exact ok.free _ (by decide)) s1 s2 (snd ok a I h4 hn.l).1 (snd ok b I h5 hn.r).1
/-- and, or -/
theorem sndW (ok : GOk T k G) : ∀ (t : IT) {o : BoolOp} {es : List Expr} {p : Pos} {N : List Str} {sc : Scope} {X : Cx}, InX T (k + 3) N sc X → chkT N sc t (.BoolOp o es p) = true → (isAnd t = true ∨ isOr t = true) → Fl0 G (slfT t) → PWB X (.BoolOp o es p) (rn (emT G t))
  | .and s t, o, es, p, N, sc, X, I, h, _, hn => by
    obtain ⟨o', x, y, r, p', e0, w1⟩ := onBool_inv h
    cases e0
    simp only [Bool.and_eq_true, decide_eq_true_eq] at w1
    obtain ⟨rfl, h2, h3⟩ := w1
    simp only [emT]
    rw [rn_andT]
    refine pwb_and (sndT ok s I h2 hn.l) ?_
    cases r with
    | nil => exact pwb_and1 (sndT ok t I h3 hn.r)
    | cons z r =>
      obtain ⟨h4, h5⟩ := Bool.and_eq_true_iff.mp h3
      exact sndW ok t I h4 (.inl h5) hn.r
  | .or s t, o, es, p, N, sc, X, I, h, _, hn => by
    obtain ⟨o', x, y, r, p', e0, w1⟩ := onBool_inv h
    cases e0
    simp only [Bool.and_eq_true, decide_eq_true_eq] at w1
    obtain ⟨rfl, h2, h3⟩ := w1
    simp only [emT]
    rw [rn_orT]
    refine pwb_or (sndT ok s I h2 hn.l) ?_
    cases r with
    | nil => exact pwb_or1 (sndT ok t I h3 hn.r)
    | cons z r =>
      obtain ⟨h4, h5⟩ := Bool.and_eq_true_iff.mp h3
      exact sndW ok t I h4 (.inr h5) hn.r
  | .val _, o, es, p, N, sc, X, I, h, hw, hn => by rcases hw with z | z <;> cases z
  | .not _, o, es, p, N, sc, X, I, h, hw, hn => by rcases hw with z | z <;> cases z
  | .cmp _ _ _, o, es, p, N, sc, X, I, h, hw, hn => by rcases hw with z | z <;> cases z
  | .rcmp _ _ _, o, es, p, N, sc, X, I, h, hw, hn => by rcases hw with z | z <;> cases z
theorem sndO (ok : GOk T k G) : ∀ (o : IO) {e : Option Expr} {N : List Str} {sc : Scope} {X : Cx}, InX T (k + 3) N sc X → chkO N sc o e = true → Fl0 G (slfO o) → PP X e (evoM G o)
  | .no, e, N, sc, X, I, h, hn => by
    cases e with
    | none => exact pp_none
    | some _ => cases h
  | .yes a, e, N, sc, X, I, h, hn => by
    cases e with
    | none => cases h
    | some e => exact pp_some ((snd ok a I h hn).2 rfl)
theorem sndC (ok : GOk T k G) : ∀ (c : IC) {es : List Expr} {N : List Str} {sc : Scope} {X : Cx}, InX T (k + 3) N sc X → chkC N sc c es = true → Fl0 G (slfC c) → PTsB X es (rn (emC G c))
  | .no, es, N, sc, X, I, h, hn => by
    have e : es = [] := List.isEmpty_iff.mp h
    subst e
    have z : rn (emC G .no) = fun _ p => some (true, p) := by funext env p; simp only [rn, emC]; rfl
    rw [z]
    exact ptsb_nil
  | .yes t, es, N, sc, X, I, h, hn => by
    obtain ⟨e, rfl, w1⟩ := onOne_inv h
    simp only [emC]
    exact ptsb_one (sndT ok t I w1 hn)
theorem sndI (ok : GOk T k G) : ∀ (a : II) {tg e : Expr} {N : List Str} {sc : Scope} {X : Cx}, InX T (k + 3) N sc X → chkI N sc a tg e = true → Fl0 G (slfI a) → PIt X tg e (rn (emI G a))
  | .items a, tg, e, N, sc, X, I, h, hn => by
    rw [rn_items]
    exact pit_items ((snd ok a I h hn).2 rfl)
  | .rng1 a, tg, e, N, sc, X, I, h, hn => by
    obtain ⟨g, es, p, rfl, w1⟩ := onCall_inv h
    obtain ⟨x, px, rfl, w2⟩ := onName_inv w1
    obtain ⟨e1, rfl, w3⟩ := onOne_inv w2
    simp only [Bool.and_eq_true, decide_eq_true_eq] at w3
    obtain ⟨⟨⟨rfl, h2⟩, s1⟩, h3⟩ := w3
    obtain ⟨g1, _, _⟩ := gloB_of I h2
    rw [rn_rng1]
    exact pit_range1 g1 (by rw [I.F.mg]; exact ok.free _ (by decide)) (pl_cons ((snd ok a I h3 hn).2 rfl) pl_nil (star_of s1 [] X.env)) (star_of s1 [] X.env) len1
  | .rng2 a b, tg, e, N, sc, X, I, h, hn => by
    obtain ⟨g, es, p, rfl, w1⟩ := onCall_inv h
    obtain ⟨x, px, rfl, w2⟩ := onName_inv w1
    obtain ⟨e1, e2, rfl, w3⟩ := onTwo_inv w2
    simp only [Bool.and_eq_true, decide_eq_true_eq] at w3
    obtain ⟨⟨⟨⟨rfl, h2⟩, s1⟩, s2⟩, h3, h4⟩ := w3
    obtain ⟨g1, _, _⟩ := gloB_of I h2
    simp only [emI]
    rw [rn_it2]
    exact pit_range2 g1 (by rw [I.F.mg]; exact ok.free _ (by decide)) (pl_cons ((snd ok a I h3 hn.l).2 rfl) (pl_cons ((snd ok b I h4 hn.r).2 rfl) pl_nil (star_of s2 [] X.env)) (star_of s1 [e2] X.env)) (by rw [star_of s1, star_of s2]; rfl) (star_of s2 [] X.env) len2
  | .zip a b, tg, e, N, sc, X, I, h, hn => by
    obtain ⟨ts, j, tp, rfl, w1⟩ := onTup_inv h
    obtain ⟨g, es, p, rfl, w2⟩ := onCall_inv w1
    obtain ⟨x, px, rfl, w3⟩ := onName_inv w2
    obtain ⟨e1, e2, rfl, w4⟩ := onTwo_inv w3
    simp only [Bool.and_eq_true, decide_eq_true_eq] at w4
    obtain ⟨⟨⟨⟨rfl, h2⟩, s1⟩, s2⟩, h3, h4⟩ := w4
    obtain ⟨g1, _, _⟩ := gloB_of I h2
    simp only [emI]
    rw [rn_it2]
    exact pit_zip g1 (by rw [I.F.mg]; exact ok.free _ (by decide)) (pl_cons ((snd ok a I h3 hn.l).2 rfl) (pl_cons ((snd ok b I h4 hn.r).2 rfl) pl_nil (star_of s2 [] X.env)) (star_of s1 [e2] X.env)) (star_of s1 [e2] X.env) (plain_of (by simp [s2]) p X.env)
  | .enum a, tg, e, N, sc, X, I, h, hn => by
    obtain ⟨ts, j, tp, rfl, w1⟩ := onTup_inv h
    obtain ⟨g, es, p, rfl, w2⟩ := onCall_inv w1
    obtain ⟨x, px, rfl, w3⟩ := onName_inv w2
    obtain ⟨e1, rfl, w4⟩ := onOne_inv w3
    simp only [Bool.and_eq_true, decide_eq_true_eq] at w4
    obtain ⟨⟨⟨rfl, h2⟩, s1⟩, h3⟩ := w4
    obtain ⟨g1, _, _⟩ := gloB_of I h2
    simp only [emI]
    rw [rn_it1]
    exact pit_enum g1 (by rw [I.F.mg]; exact ok.free _ (by decide)) (pl_cons ((snd ok a I h3 hn).2 rfl) pl_nil (star_of s1 [] X.env)) (star_of s1 [] X.env)
end
end
end Rc

-- Rd15
set_option Elab.async false
set_option linter.all false
set_option maxRecDepth 100000
set_option maxHeartbeats 4000000
namespace Rc
open PySem PySem.Spec PyProof.Rows L2

/-! ### stores at once, by the text alone -/
def isStar : Expr → Bool
  | .Starred .. => true
  | _ => false
def locAt (sc : Scope) (l : Nat) : Expr → Option Str
  | .Name id pos => if sc.names.lookup id == some .local && pos.line == l then some id else none
  | _ => none
def parT (sc : Scope) (ts vs : List Expr) : Option (Option (List Str)) :=
  if !(ts.length == 2 || ts.length == 3) || vs.length != ts.length then some none else
  if vs.any isStar then none else
  let names := ts.filterMap (locAt sc ((ts.head?.map (·.pos.line)).getD 0))
  if names.length != ts.length || names.eraseDups.length != names.length then some none else
  if vs.all (foldedForSure 8) then some none else
  if vs.all (constantsAlone 8) then none else some (some names)
def parP (sc : Scope) (t e : Expr) : Option (Option (List Str)) :=
  match t with
  | .Tuple ts _ _ => (match e with
    | .Tuple vs _ _ => parT sc ts vs
    | _ => some none)
  | .List _ _ => none
  | _ => some none
theorem parP_of {env : PySem.Env} (hk : env.scope.kind = .function) {t e : Expr} {r : Option (List Str)} (h : parP env.scope t e = some r) : swappedStores [t] e env = pure r := by
  have hb : env.blockKind = .function := by unfold PySem.Env.blockKind; rw [hk]; rfl
  unfold parP at h
  split at h
  · rename_i ts kk tp
    split at h
    · rename_i vs k2 p2
      unfold parT at h
      have e1 : ∀ f : Expr → Bool, (∀ e, f e = isStar e) → vs.any f = vs.any isStar := fun f hf => by rw [funext hf]
      have e2 : ∀ f : Expr → Option Str, (∀ e, f e = locAt env.scope ((ts.head?.map (·.pos.line)).getD 0) e) → ts.filterMap f = ts.filterMap (locAt env.scope ((ts.head?.map (·.pos.line)).getD 0)) := fun f hf => by rw [funext hf]
      unfold swappedStores
      dsimp only
      split at h
      · rename_i q
        cases h
        rw [if_pos (by rw [q]; rfl)]
      · rename_i q
        split at h
        · cases h
        · rename_i q2
          simp only at h
          split at h
          · rename_i q3
            cases h
            rw [if_neg (by rw [hb]; simpa using q)]
            rw [if_neg (by rw [e1 _ (fun e => by cases e <;> rfl)]; exact q2)]
            rw [e2 _ (fun e => by cases e <;> rfl)]
            rw [if_pos q3]
          · rename_i q3
            rw [if_neg (by rw [hb]; simpa using q)]
            rw [if_neg (by rw [e1 _ (fun e => by cases e <;> rfl)]; exact q2)]
            rw [e2 _ (fun e => by cases e <;> rfl)]
            rw [if_neg q3]
            split at h
            · rename_i q4
              cases h
              rw [if_pos q4]
            · rename_i q4
              split at h
              · cases h
              · rename_i q5
                cases h
                rw [if_neg q4, if_neg q5]
    · rename_i hne
      cases h
      cases e <;> first | rfl | exact absurd rfl (hne _ _ _)
  · cases h
  · rename_i h1 h2
    cases h
    cases t <;> first | rfl | exact absurd rfl (h1 _ _ _) | exact absurd rfl (h2 _ _)


/-! ### statements without places -/
inductive IS where
  | nop | ex (a : IE) | ret (a : IE) | retN | never | cont | brk
  | asg (t : Tg) (a : IE)
  | ownE (i : Nat) (as : List IX)
  | ownC (i : Nat) (t : Tg) (own : List (Str × Nat)) (it : II) (c : IC) (e : IE)
  | par2 (i j : Nat) (a b : IE)
  | par3 (i j l : Nat) (a b c : IE)
  | app (i : Nat) (a : IE)
  | ext (i : Nat) (a : IE)
  | whl (n : Nat) (c : IT) (b : List IS)
  | fld (c : Str) (i : Nat) (f : Str) (a : IE)
  | iff (c : IT) (s t : List IS)
  | for (t : Tg) (it : II) (b : List IS)
  | frz (i : Nat)
  | pput (i j : Nat) (a : IE)
  | dc (i : Nat) (t0 : Tg) (own : List (Str × Nat)) (it0 : II) (c0 : IC) (t1 : Tg) (vs1 : List Nat) (it1 : II) (c1 : IC) (k v : IE)
inductive Fw where
  | nx (env : Env) | rt (d : D) | bk (env : Env) | ct (env : Env)
def Fw.fl : Fw → Pot → Fl
  | .nx e, p => .nx e p
  | .rt d, p => .rt d p
  | .bk e, p => .bk e p
  | .ct e, p => .ct e p
def loopT (t : Tg) (body : Env → Tr Fw) : List D → Env → Tr Fw
  | [], env => .ret (.nx env)
  | d :: ds, env => (Tr.of (setT t d env)).bind fun e1 => (body e1).bind fun w => match w with
    | .nx e => loopT t body ds e
    | .ct e => loopT t body ds e
    | .bk e => .ret (.nx e)
    | .rt r => .ret (.rt r)
def dcT1 (g : D → Option Env) (c : Env → Tr Bool) (k v : Env → Tr D) : List D → Kvs → Tr Kvs
  | [], a => .ret a
  | d :: ds, a => (Tr.of (g d)).bind fun e => (c e).bind fun b => if b then (k e).bind fun x => (v e).bind fun y => (Tr.of (keyD x)).bind fun q => if a.length < sizeLine then dcT1 g c k v ds (putKD a q y) else .fail else dcT1 g c k v ds a
def dcT0 (g : D → Option Env) (c : Env → Tr Bool) (f : Env → Tr (List D)) (inn : Env → List D → Kvs → Tr Kvs) : List D → Kvs → Tr Kvs
  | [], a => .ret a
  | d :: ds, a => (Tr.of (g d)).bind fun e => (c e).bind fun b => if b then (f e).bind fun r => (inn e r a).bind fun q => dcT0 g c f inn ds q else dcT0 g c f inn ds a
def appT (i : Nat) (d : D) (env : Env) : Tr Fw := match env[i]? with
  | some (some (.own ds)) => if ds.length < sizeLine then .ret (.nx (env.set i (some (.own (ds ++ [d]))))) else .fail
  | _ => .fail
def extT (i : Nat) (d : D) (env : Env) : Tr Fw := match env[i]? with
  | some (some (.own ds)) => (match d with
    | .tup es => if ds.length + es.length ≤ sizeLine then .ret (.nx (env.set i (some (.own (ds ++ es))))) else .fail
    | .lst es => if ds.length + es.length ≤ sizeLine then .ret (.nx (env.set i (some (.own (ds ++ es))))) else .fail
    | _ => .fail)
  | _ => .fail
def whlT (c : Env → Tr Bool) (b : Env → Tr Fw) : Nat → Env → Tr Fw
  | 0 => fun _ => .fail
  | n + 1 => fun env => (c env).bind fun t => if t then (b env).bind fun w => match w with
      | .nx e => whlT c b n e
      | .ct e => whlT c b n e
      | .bk e => .ret (.nx e)
      | .rt r => .ret (.rt r)
    else .ret (.nx env)
def fldT (c0 : Str) (i : Nat) (f : Str) (d : D) (env : Env) : Tr Fw := match env[i]? with
  | some (some (.slf c fs)) => if c = c0 ∧ fs.length < 1000 then .ret (.nx (env.set i (some (.slf c (putD f d fs))))) else .fail
  | _ => .fail
def pputT (i j : Nat) (d : D) (env : Env) : Tr Fw := match d, env[i]? with
  | .int v, some (some (.dat .pot)) => .get fun p => match setJ p v j with
    | some q => .put q (.ret (.nx env))
    | none => .fail
  | _, _ => .fail
def frzT (i : Nat) (env : Env) : Tr Fw := match env[i]? with
  | some (some (.own ds)) => .ret (.nx (env.set i (some (.dat (.lst ds)))))
  | _ => .fail
section
variable (G : Gs)
mutual
def ss : IS → Env → Tr Fw
  | .nop => fun env => .ret (.nx env)
  | .ex a => fun env => (em G a env).bind fun _ => .ret (.nx env)
  | .ret a => fun env => (em G a (freeze env)).bind fun d => .ret (.rt d)
  | .retN => fun _ => .ret (.rt .non)
  | .never => fun _ => .fail
  | .cont => fun env => .ret (.ct env)
  | .brk => fun env => .ret (.bk env)
  | .asg t a => fun env => (em G a env).bind fun d => (Tr.of (setT t d env)).bind fun e => .ret (.nx e)
  | .ownE i as => fun env => (emX G as env).bind fun ds => (optT (decide (ds.length ≤ sizeLine)) ()).bind fun _ => .ret (.nx (env.set i (some (.own ds))))
  | .ownC i t own it c e => fun env => (emI G it env).bind fun ds => (optT (decide (ds.length ≤ sizeLine)) ()).bind fun _ => (lcT (fun d => setT t d (wipeE env (own.map (·.2)))) (emC G c) (em G e) ds).bind fun r => .ret (.nx (env.set i (some (.own r))))
  | .par2 i j a b => fun env => (ems G [a, b] env).bind fun ds => (Tr.of (setTs [.name i, .name j] ds env)).bind fun e => .ret (.nx e)
  | .par3 i j l a b c => fun env => (ems G [a, b, c] env).bind fun ds => (Tr.of (setTs [.name i, .name j, .name l] ds env)).bind fun e => .ret (.nx e)
  | .app i a => fun env => (em G a env).bind fun d => appT i d env
  | .ext i a => fun env => (em G a env).bind fun d => extT i d env
  | .whl n c b => whlT (emT G c) (sss b) n
  | .fld c i f a => fun env => (em G a env).bind fun d => fldT c i f d env
  | .iff c s t => fun env => (emT G c env).bind fun b => if b then sss s env else sss t env
  | .for t it b => fun env => (emI G it env).bind fun ds => loopT t (sss b) ds env
  | .frz i => frzT i
  | .pput i j a => fun env => (em G a env).bind fun d => pputT i j d env
  | .dc i t0 own it0 c0 t1 vs1 it1 c1 k v => fun env => (emI G it0 env).bind fun ds => (dcT0 (fun d => setT t0 d (wipeE env (own.map (·.2)))) (emC G c0) (emI G it1) (fun e => dcT1 (fun d => setT t1 d (wipeE e vs1)) (emC G c1) (em G k) (em G v)) ds []).bind fun q => .ret (.nx (env.set i (some (.dat (.dic q)))))
def sss : List IS → Env → Tr Fw
  | [] => fun env => .ret (.nx env)
  | s :: r => fun env => (ss s env).bind fun w => match w with
    | .nx e => sss r e
    | w => .ret w
end
end

/-! ### statements' trees as evaluators -/
def rs (f : Env → Tr Fw) : StF := fun env p => ((f env).run p).map fun r => r.1.fl r.2
section
variable {f : Env → Tr D} {fb : Env → Tr Bool} {fl : Env → Tr (List D)} {s t : Env → Tr Fw} {G : Gs}
theorem rs_ex : rs (fun env => (f env).bind fun _ => Tr.ret (Fw.nx env)) = sExpr (rn f) := by
  funext env p
  simp only [rs, sExpr, rn, Tr.run_bind]
  cases (f env).run p <;> rfl
theorem rs_ret : rs (fun env => (f (freeze env)).bind fun d => Tr.ret (Fw.rt d)) = sRet (rn f) := by
  funext env p
  simp only [rs, sRet, rn, Tr.run_bind]
  cases (f (freeze env)).run p <;> rfl
theorem rs_asg {tg : Tg} : rs (fun env => (f env).bind fun d => (Tr.of (setT tg d env)).bind fun e => Tr.ret (Fw.nx e)) = sAsg tg (rn f) := by
  funext env p
  simp only [rs, sAsg, rn, Tr.run_bind, Tr.run_of]
  cases (f env).run p with
  | none => rfl
  | some r => simp only [Option.bind_some]; cases setT tg r.1 env <;> rfl
theorem rs_ownE {i : Nat} : rs (fun env => (fl env).bind fun ds => (optT (decide (ds.length ≤ sizeLine)) ()).bind fun _ => Tr.ret (Fw.nx (env.set i (some (.own ds))))) = sOwn i (evLstA (rn fl)) := by
  funext env p
  simp only [rs, sOwn, evLstA, rn, Tr.run_bind, run_opt, decide_eq_true_eq]
  cases (fl env).run p with
  | none => rfl
  | some r => simp only [Option.bind_some]; split <;> rfl
theorem lcT_run {c : Env → Tr Bool} {e : Env → Tr D} (g : D → Option Env) (ds : List D) : ∀ p : Pot, (lcT g c e ds).run p = lcGo g (rn c) (rn e) ds p := by
  induction ds with
  | nil => intro p; rfl
  | cons d ds ih =>
    intro p
    simp only [lcT, lcGo, Tr.run_bind, Tr.run_of]
    cases g d with
    | none => rfl
    | some env1 =>
      simp only [Option.map_some, Option.bind_some]
      show ((c env1).run p).bind _ = ((c env1).run p).bind _
      refine congrArg _ (funext fun b => ?_)
      obtain ⟨b, q⟩ := b
      cases b with
      | false => exact ih q
      | true =>
        simp only [if_true, Tr.run_bind]
        show ((e env1).run q).bind _ = ((e env1).run q).bind _
        refine congrArg _ (funext fun r => ?_)
        rw [ih r.2]
        cases lcGo g (rn c) (rn e) ds r.2 <;> rfl
theorem rs_ownC {i : Nat} {tg : Tg} {vs : List Nat} {c : Env → Tr Bool} {e : Env → Tr D} : rs (fun env => (fl env).bind fun ds => (optT (decide (ds.length ≤ sizeLine)) ()).bind fun _ => (lcT (fun d => setT tg d (wipeE env vs)) c e ds).bind fun r => Tr.ret (Fw.nx (env.set i (some (.own r))))) = sOwn i (evLc tg vs (rn fl) (rn c) (rn e)) := by
  funext env p
  simp only [rs, sOwn, evLc, Tr.run_bind, run_opt, decide_eq_true_eq]
  show Option.map _ (((fl env).run p).bind _) = Option.map _ (((fl env).run p).bind _)
  cases (fl env).run p with
  | none => rfl
  | some r =>
    simp only [Option.bind_some]
    split
    · simp only [Option.bind_some, lcT_run]
      cases lcGo (fun d => setT tg d (wipeE env vs)) (rn c) (rn e) r.1 r.2 <;> rfl
    · rfl
theorem rs_par {is : List Nat} {ts : List Tg} (e : ts = is.map .name) : rs (fun env => (fl env).bind fun ds => (Tr.of (setTs ts ds env)).bind fun e => Tr.ret (Fw.nx e)) = sPar is (rn fl) := by
  subst e
  funext env p
  simp only [rs, sPar, rn, Tr.run_bind, Tr.run_of]
  cases (fl env).run p with
  | none => rfl
  | some r => simp only [Option.bind_some]; cases setTs (is.map .name) r.1 env <;> rfl
theorem rs_app {i : Nat} : rs (fun env => (f env).bind fun d => appT i d env) = sAppend i (rn f) := by
  funext env p
  simp only [rs, sAppend, rn, Tr.run_bind, appT]
  cases (f env).run p with
  | none => rfl
  | some r =>
    simp only [Option.bind_some]
    cases env[i]? with
    | none => rfl
    | some o =>
      cases o with
      | none => rfl
      | some e =>
        cases e with
        | own ds => dsimp only; split <;> rfl
        | _ => rfl
theorem rs_ext {i : Nat} : rs (fun env => (f env).bind fun d => extT i d env) = sExtend i (rn f) := by
  funext env p
  simp only [rs, sExtend, rn, Tr.run_bind, extT]
  cases (f env).run p with
  | none => rfl
  | some r =>
    simp only [Option.bind_some]
    cases env[i]? with
    | none => rfl
    | some o =>
      cases o with
      | none => rfl
      | some e =>
        cases e with
        | own ds =>
          dsimp only
          obtain ⟨d, q⟩ := r
          cases d with
          | tup es => dsimp only; split <;> rfl
          | lst es => dsimp only; split <;> rfl
          | _ => rfl
        | _ => rfl
theorem rs_whl : ∀ {n : Nat}, rs (whlT fb s n) = whileF (rn fb) (rs s) n
  | 0 => rfl
  | n + 1 => by
    funext env p
    have ih := rs_whl (n := n)
    show (((fb env).bind _).run p).map _ = ((fb env).run p).bind _
    rw [Tr.run_bind]
    cases (fb env).run p with
    | none => rfl
    | some r =>
      obtain ⟨t, q⟩ := r
      simp only [Option.bind_some]
      cases t with
      | false => rfl
      | true =>
        simp only [if_true, Tr.run_bind]
        show _ = (((s env).run q).map _).bind _
        cases (s env).run q with
        | none => rfl
        | some w =>
          obtain ⟨w, q2⟩ := w
          cases w with
          | nx e => exact congrFun (congrFun ih e) q2
          | ct e => exact congrFun (congrFun ih e) q2
          | bk e => rfl
          | rt d => rfl
theorem rs_fld {c : Str} {i : Nat} {x : Str} : rs (fun env => (f env).bind fun d => fldT c i x d env) = sFldS c i x (rn f) := by
  funext env p
  simp only [rs, sFldS, rn, Tr.run_bind, fldT]
  cases (f env).run p with
  | none => rfl
  | some r =>
    simp only [Option.bind_some]
    cases env[i]? with
    | none => rfl
    | some o =>
      cases o with
      | none => rfl
      | some e =>
        cases e with
        | slf c' fs => dsimp only; split <;> rfl
        | _ => rfl
theorem rs_frz {i : Nat} : rs (frzT i) = sFreeze i := by
  funext env p
  simp only [rs, sFreeze, frzT]
  cases env[i]? with
  | none => rfl
  | some o =>
    cases o with
    | none => rfl
    | some e => cases e <;> rfl
def sPput (i j : Nat) (f : EvF) : StF := fun env p => (f env p).bind fun r => match r.1, env[i]? with
  | .int v, some (some (.dat .pot)) => (setJ r.2 v j).map fun q => .nx env q
  | _, _ => none
theorem rs_pput {i j : Nat} : rs (fun env => (f env).bind fun d => pputT i j d env) = sPput i j (rn f) := by
  funext env p
  simp only [rs, sPput, rn, Tr.run_bind]
  cases (f env).run p with
  | none => rfl
  | some r =>
    obtain ⟨d, q⟩ := r
    simp only [Option.bind_some]
    unfold pputT
    cases d with
    | int v =>
      cases env[i]? with
      | none => rfl
      | some o =>
        cases o with
        | none => rfl
        | some e =>
          cases e with
          | dat d =>
            cases d with
            | pot =>
              show ((match setJ q v j with
                | some q' => Tr.put q' (Tr.ret (Fw.nx env))
                | none => Tr.fail).run q).map _ = _
              dsimp only
              cases setJ q v j <;> rfl
            | _ => rfl
          | _ => rfl
    | _ => rfl
theorem rs_if : rs (fun env => (fb env).bind fun b => if b then s env else t env) = sIf (rn fb) (rs s) (rs t) := by
  funext env p
  simp only [rs, sIf, rn, Tr.run_bind]
  cases (fb env).run p with
  | none => rfl
  | some r => obtain ⟨b, q⟩ := r; cases b <;> rfl
theorem rs_seq : rs (fun env => (s env).bind fun w => match w with
    | .nx e => t e
    | w => Tr.ret w) = sSeq (rs s) (rs t) := by
  funext env p
  simp only [rs, sSeq, Tr.run_bind]
  cases (s env).run p with
  | none => rfl
  | some r =>
    obtain ⟨w, q⟩ := r
    cases w <;> rfl
theorem loopT_run {tg : Tg} (ds : List D) : ∀ (env : Env) (p : Pot), ((loopT tg s ds env).run p).map (fun r => r.1.fl r.2) = loopF tg (rs s) ds env p := by
  induction ds with
  | nil => intro env p; rfl
  | cons d ds ih =>
    intro env p
    simp only [loopT, loopF, Tr.run_bind, Tr.run_of]
    cases setT tg d env with
    | none => rfl
    | some e1 =>
      simp only [Option.map_some, Option.bind_some, rs]
      cases (s e1).run p with
      | none => rfl
      | some r =>
        obtain ⟨w, q⟩ := r
        cases w with
        | nx e => exact ih e q
        | ct e => exact ih e q
        | bk e => rfl
        | rt d => rfl
theorem rs_for {tg : Tg} : rs (fun env => (fl env).bind fun ds => loopT tg s ds env) = sFor tg (rn fl) (rs s) := by
  funext env p
  simp only [rs, sFor, rn, Tr.run_bind]
  cases (fl env).run p with
  | none => rfl
  | some r => exact loopT_run r.1 env r.2
theorem dcT1_run {c : Env → Tr Bool} {k v : Env → Tr D} (g : D → Option Env) (ds : List D) : ∀ (a : Kvs) (p : Pot), (dcT1 g c k v ds a).run p = dcIn g (rn c) (rn k) (rn v) ds a p := by
  induction ds with
  | nil => intro a p; rfl
  | cons d ds ih =>
    intro a p
    simp only [dcT1, dcIn, Tr.run_bind, Tr.run_of]
    cases g d with
    | none => rfl
    | some e =>
      simp only [Option.map_some, Option.bind_some]
      show ((c e).run p).bind _ = ((c e).run p).bind _
      refine congrArg _ (funext fun b => ?_)
      obtain ⟨b, q⟩ := b
      cases b with
      | false => exact ih a q
      | true =>
        simp only [if_true, Tr.run_bind, Tr.run_of]
        show ((k e).run q).bind _ = ((k e).run q).bind _
        refine congrArg _ (funext fun x => ?_)
        show ((v e).run x.2).bind _ = ((v e).run x.2).bind _
        refine congrArg _ (funext fun y => ?_)
        cases keyD x.1 with
        | none => rfl
        | some z =>
          simp only [Option.map_some, Option.bind_some]
          split
          · exact ih _ _
          · rfl
theorem dcT0_run {c : Env → Tr Bool} {fi : Env → Tr (List D)} {inn : Env → List D → Kvs → Tr Kvs} {inn' : Env → DcIn} (hi : ∀ e ds a p, (inn e ds a).run p = inn' e ds a p) (g : D → Option Env) (ds : List D) : ∀ (a : Kvs) (p : Pot), (dcT0 g c fi inn ds a).run p = dcOut g (rn c) (rn fi) inn' ds a p := by
  induction ds with
  | nil => intro a p; rfl
  | cons d ds ih =>
    intro a p
    simp only [dcT0, dcOut, Tr.run_bind, Tr.run_of]
    cases g d with
    | none => rfl
    | some e =>
      simp only [Option.map_some, Option.bind_some]
      show ((c e).run p).bind _ = ((c e).run p).bind _
      refine congrArg _ (funext fun b => ?_)
      obtain ⟨b, q⟩ := b
      cases b with
      | false => exact ih a q
      | true =>
        simp only [if_true, Tr.run_bind, hi]
        show ((fi e).run q).bind _ = ((fi e).run q).bind _
        refine congrArg _ (funext fun x => ?_)
        cases inn' e x.1 a x.2 with
        | none => rfl
        | some z => exact ih _ _
def sDc (i : Nat) (f : Env → Pot → Option (Kvs × Pot)) : StF := fun env p => (f env p).map fun r => .nx (env.set i (some (.dat (.dic r.1)))) r.2
theorem rs_dc {i : Nat} {t0 t1 : Tg} {vs vs1 : List Nat} {c0 c1 : Env → Tr Bool} {f1 : Env → Tr (List D)} {k v : Env → Tr D} : rs (fun env => (fl env).bind fun ds => (dcT0 (fun d => setT t0 d (wipeE env vs)) c0 f1 (fun e => dcT1 (fun d => setT t1 d (wipeE e vs1)) c1 k v) ds []).bind fun q => Tr.ret (Fw.nx (env.set i (some (.dat (.dic q)))))) =
    sDc i (evDc t0 vs (rn fl) (rn c0) t1 vs1 (rn f1) (rn c1) (rn k) (rn v)) := by
  funext env p
  simp only [rs, sDc, evDc, Tr.run_bind]
  show Option.map _ (((fl env).run p).bind _) = Option.map _ (((fl env).run p).bind _)
  cases (fl env).run p with
  | none => rfl
  | some r =>
    simp only [Option.bind_some]
    rw [dcT0_run (inn' := fun e => dcIn (fun d => setT t1 d (wipeE e vs1)) (rn c1) (rn k) (rn v)) (fun e ds a p => dcT1_run _ ds a p)]
    cases dcOut (fun d => setT t0 d (wipeE env vs)) (rn c0) (rn f1) (fun e => dcIn (fun d => setT t1 d (wipeE e vs1)) (rn c1) (rn k) (rn v)) r.1 [] r.2 <;> rfl
end
end Rc

-- Rd16
set_option Elab.async false
set_option linter.all false
set_option maxRecDepth 100000
set_option maxHeartbeats 4000000
namespace Rc
open PySem PySem.Spec PyProof.Rows L2

/-! ### looks at statements -/
def onAsg (s : Stmt) (f : Expr → Expr → Pos → Bool) : Bool := match s with
  | .Assign [t] e p => f t e p
  | _ => false
theorem onAsg_inv {s : Stmt} {f : Expr → Expr → Pos → Bool} (h : onAsg s f = true) : ∃ t e p, s = .Assign [t] e p ∧ f t e p = true := by
  unfold onAsg at h; split at h
  · exact ⟨_, _, _, rfl, h⟩
  · cases h
def onNameP (e : Expr) (f : Str → Pos → Bool) : Bool := match e with
  | .Name x p => f x p
  | _ => false
theorem onNameP_inv {e : Expr} {f : Str → Pos → Bool} (h : onNameP e f = true) : ∃ x p, e = .Name x p ∧ f x p = true := by
  unfold onNameP at h; split at h
  · exact ⟨_, _, rfl, h⟩
  · cases h
def onTup2 (e : Expr) (f : Expr → Expr → Bool) : Bool := match e with
  | .Tuple [a, b] _ _ => f a b
  | _ => false
theorem onTup2_inv {e : Expr} {f : Expr → Expr → Bool} (h : onTup2 e f = true) : ∃ a b k p, e = .Tuple [a, b] k p ∧ f a b = true := by
  unfold onTup2 at h; split at h
  · exact ⟨_, _, _, _, rfl, h⟩
  · cases h
def onTup3 (e : Expr) (f : Expr → Expr → Expr → Bool) : Bool := match e with
  | .Tuple [a, b, c] _ _ => f a b c
  | _ => false
theorem onTup3_inv {e : Expr} {f : Expr → Expr → Expr → Bool} (h : onTup3 e f = true) : ∃ a b c k p, e = .Tuple [a, b, c] k p ∧ f a b c = true := by
  unfold onTup3 at h; split at h
  · exact ⟨_, _, _, _, _, rfl, h⟩
  · cases h
def onExpr (s : Stmt) (f : Expr → Bool) : Bool := match s with
  | .Expr e _ => f e
  | _ => false
theorem onExpr_inv {s : Stmt} {f : Expr → Bool} (h : onExpr s f = true) : ∃ e p, s = .Expr e p ∧ f e = true := by
  unfold onExpr at h; split at h
  · exact ⟨_, _, rfl, h⟩
  · cases h
def onRet (s : Stmt) (f : Option Expr → Bool) : Bool := match s with
  | .Return e _ => f e
  | _ => false
theorem onRet_inv {s : Stmt} {f : Option Expr → Bool} (h : onRet s f = true) : ∃ e p, s = .Return e p ∧ f e = true := by
  unfold onRet at h; split at h
  · exact ⟨_, _, rfl, h⟩
  · cases h
def onIf (s : Stmt) (f : Expr → List Stmt → List Stmt → Bool) : Bool := match s with
  | .If e a b _ => f e a b
  | _ => false
theorem onIf_inv {s : Stmt} {f : Expr → List Stmt → List Stmt → Bool} (h : onIf s f = true) : ∃ e a b p, s = .If e a b p ∧ f e a b = true := by
  unfold onIf at h; split at h
  · exact ⟨_, _, _, _, rfl, h⟩
  · cases h
def onFor (s : Stmt) (f : Expr → Expr → List Stmt → Bool) : Bool := match s with
  | .For tg iter body [] _ => f tg iter body
  | _ => false
theorem onFor_inv {s : Stmt} {f : Expr → Expr → List Stmt → Bool} (h : onFor s f = true) : ∃ tg iter body p, s = .For tg iter body [] p ∧ f tg iter body = true := by
  unfold onFor at h; split at h
  · exact ⟨_, _, _, _, rfl, h⟩
  · cases h
def onWhile (s : Stmt) (f : Expr → List Stmt → Bool) : Bool := match s with
  | .While c body [] _ => f c body
  | _ => false
theorem onWhile_inv {s : Stmt} {f : Expr → List Stmt → Bool} (h : onWhile s f = true) : ∃ c body p, s = .While c body [] p ∧ f c body = true := by
  unfold onWhile at h; split at h
  · exact ⟨_, _, _, rfl, h⟩
  · cases h
def onDc (e : Expr) (f : Expr → Expr → Expr → Expr → List Expr → Expr → Expr → List Expr → Scope → Pos → Bool) : Bool := match e with
  | .DictComp kx vx [⟨a0, s0, f0, 0⟩, ⟨a1, s1, f1, 0⟩] sc ps => f kx vx a0 s0 f0 a1 s1 f1 sc ps
  | _ => false
theorem onDc_inv {e : Expr} {f : Expr → Expr → Expr → Expr → List Expr → Expr → Expr → List Expr → Scope → Pos → Bool} (h : onDc e f = true) : ∃ kx vx a0 s0 f0 a1 s1 f1 sc ps, e = dcx kx vx a0 s0 f0 a1 s1 f1 sc ps ∧ f kx vx a0 s0 f0 a1 s1 f1 sc ps = true := by
  unfold onDc at h; split at h
  · exact ⟨_, _, _, _, _, _, _, _, _, _, rfl, h⟩
  · cases h
def isPass : Stmt → Bool
  | .Pass _ => true
  | _ => false
def isCont : Stmt → Bool
  | .Continue _ => true
  | _ => false
def isBrk : Stmt → Bool
  | .Break _ => true
  | _ => false
def freeB (scope : Scope) (x : Str) : Bool := !(scope.names.any fun (n, k) => n == x && (k == .local || k == .cell))
def notName : Expr → Bool
  | .Name .. => false
  | _ => true
theorem swaps_of2 {e t : Expr} (h : (notComp e || notName t) = true) {l : Nat} {env : PySem.Env} : swapsWithSole [t] e l env = pure false := by
  show swapsWith e (some t) l env = pure false
  rcases Bool.or_eq_true_iff.mp h with h | h
  · exact swaps_of h (some t) l env
  · cases t <;> first | (cases h; done) | (cases e <;> rfl)
mutual
def chkS (N : List Str) (sc : Scope) : IS → Stmt → Bool
  | .nop, st => isPass st
  | .ex a, st => onExpr st fun e => notComp e && chk N sc false a e
  | .ret a, st => onRet st fun o => (match o with | some e => chk N sc false a e | none => false)
  | .retN, st => onRet st fun o => o.isNone
  | .never, _ => true
  | .cont, st => isCont st
  | .brk, st => isBrk st
  | .asg t a, st => onAsg st fun tg e _ => (notComp e || notName tg) && notStar tg && decide (parP sc tg e = some none) && tgB N sc false t tg && chk N sc false a e
  | .ownE i as, st => onAsg st fun tg e _ => onNameP tg fun x _ => onLst e fun es => tgB N sc false (.name i) (.Name x default) && chkX N sc as es
  | .ownC i t own it c el, st => onAsg st fun tg e _ => onNameP tg fun x px => onLc e fun elt tg iter ifs scope pos =>
      decide (N[i]? = some x) && decide (sc.names.lookup x = some .local) && (px.line == pos.line) && freeB scope x && notSet iter && blkC N sc scope own && (slotsT t).all (fun j => (own.map (·.2)).contains j) && chkI N sc it tg iter && tgB N (relS scope sc) true t tg && chkC N (relS scope sc) c ifs && chk N (relS scope sc) false el elt
  | .par2 i j a b, st => onAsg st fun tg e _ => onTup2 tg fun n1 n2 => onName n1 fun x => onName n2 fun y => onTup2 e fun e1 e2 =>
      decide (i ≠ j) && decide (N[i]? = some x) && decide (N[j]? = some y) && decide (sc.names.lookup x = some .local) && decide (sc.names.lookup y = some .local) && decide (parP sc tg e = some (some [x, y])) && chks N sc false [a, b] [e1, e2]
  | .par3 i j l a b c, st => onAsg st fun tg e _ => onTup3 tg fun n1 n2 n3 => onName n1 fun x => onName n2 fun y => onName n3 fun z => onTup3 e fun e1 e2 e3 =>
      decide (i ≠ j) && decide (i ≠ l) && decide (j ≠ l) && decide (N[i]? = some x) && decide (N[j]? = some y) && decide (N[l]? = some z) && decide (sc.names.lookup x = some .local) && decide (sc.names.lookup y = some .local) && decide (sc.names.lookup z = some .local) && decide (parP sc tg e = some (some [x, y, z])) && chks N sc false [a, b, c] [e1, e2, e3]
  | .app i a, st => onExpr st fun e => onCall e fun g es cpos => onAttr g fun o m apos => onName o fun x => onOne es fun e1 => decide (m = "append") && varB N sc i x && (apos.endLine == cpos.line) && notStar e1 && chk N sc false a e1
  | .ext i a, st => onExpr st fun e => onCall e fun g es cpos => onAttr g fun o m apos => onName o fun x => onOne es fun e1 => decide (m = "extend") && varB N sc i x && (apos.endLine == cpos.line) && notStar e1 && chk N sc false a e1
  | .whl _ c b, st => onWhile st fun e body => chkT N sc c e && chkSs N sc b body
  | .fld _ i f a, st => onAsg st fun tg e _ => onAttr tg fun o g _ => onName o fun x => decide (f = g) && varB N sc i x && notComp e && chk N sc false a e
  | .iff c s t, st => onIf st fun e a b => chkT N sc c e && (chkSs N sc s a && chkSs N sc t b)
  | .for t it b, st => onFor st fun tg iter body => notSet iter && chkI N sc it tg iter && tgB N sc false t tg && chkSs N sc b body
  | .frz _, _ => false
  | .pput i j a, st => onAsg st fun tg e _ => onSub tg fun x y => onName x fun x => onCon y fun c => varB N sc i x && (match c with | .int z => decide (z = (j : Int)) | _ => false) && notComp e && chk N sc false a e
  | .dc i t0 own it0 c0 t1 vs1 it1 c1 k v, st => onAsg st fun tg e _ => onNameP tg fun x px => onDc e fun kx vx a0 s0 f0 a1 s1 f1 scope ps =>
      decide (N[i]? = some x) && decide (sc.names.lookup x = some .local) && (px.line == ps.line) && freeB scope x && notSet s0 && notSet s1 && blkC N sc scope own && (slotsT t0).all (fun j => (own.map (·.2)).contains j) && (slotsT t1).all (fun j => vs1.contains j) && vs1.all (fun j => (own.map (·.2)).contains j) &&
      chkI N sc it0 a0 s0 && tgB N (relS scope sc) true t0 a0 && chkC N (relS scope sc) c0 f0 && chkI N (relS scope sc) it1 a1 s1 && tgB N (relS scope sc) true t1 a1 && chkC N (relS scope sc) c1 f1 && chk N (relS scope sc) false k kx && chk N (relS scope sc) false v vx
def chkSs (N : List Str) (sc : Scope) : List IS → List Stmt → Bool
  | [], sts => sts.isEmpty
  | .frz _ :: r, sts => chkSs N sc r sts
  | s :: r, sts => (match sts with
      | [] => false
      | st :: sts => chkS N sc s st && chkSs N sc r sts)
end
mutual
def slfS : IS → List (Str × Str)
  | .ex a => slfs a
  | .ret a => slfs a
  | .asg _ a => slfs a
  | .ownE _ as => slfX as
  | .ownC _ _ _ it c e => slfI it ++ slfC c ++ slfs e
  | .par2 _ _ a b => slfL [a, b]
  | .par3 _ _ _ a b c => slfL [a, b, c]
  | .app _ a => slfs a
  | .ext _ a => slfs a
  | .whl _ c b => slfT c ++ slfSs b
  | .pput _ _ a => slfs a
  | .fld c _ f a => (c, f) :: slfs a
  | .iff c s t => slfT c ++ slfSs s ++ slfSs t
  | .for _ it b => slfI it ++ slfSs b
  | .dc _ _ _ it0 c0 _ _ it1 c1 k v => slfI it0 ++ slfC c0 ++ slfI it1 ++ slfC c1 ++ slfs k ++ slfs v
  | _ => []
def slfSs : List IS → List (Str × Str)
  | [] => []
  | s :: r => slfS s ++ slfSs r
end

/-! ### the dict comprehension's store -/
section
variable {X : Cx} {pa : Option Addr} {M0 : Ms} {H0 : Hp}
theorem sDc_of {i : Nat} {fa : Env → Pot → Option (Kvs × Pot)} {E : Ends} {σ : L2.St} {H : Hp} (hi : i < σ.length) (h : tS X.K pa M0 H0 (sDc i fa) E σ H) : tAsg (tDic X.K fa) (gName i) E σ H := by
  obtain ⟨M, env, p, fl, s, e, k⟩ := h
  unfold sDc at e
  obtain ⟨⟨kvs, p1⟩, e1, e2⟩ := Option.map_eq_some_iff.mp e
  subst e2
  refine ⟨pa, M, env, p, kvs, p1, s.en, s.pot, e1, fun a ws H1 x1 k1 hn ha r => ?_⟩
  have s1 := s.ext x1 k1
  have nm : ¬ M a := new_not (pa := pa) s.en.dom hn
  have rd : Rep X.K pa M H1 (.dic kvs) (.ref a) := ⟨a, ws, rfl, ⟨nm, ha⟩, RepK.up (Up.less fun b m => .inl m) r⟩
  exact k _ H1 M (s1.turn (s1.en.setDat rd hi) keep_set) (s.up x1)
end

/-! ### the pot's items stored -/
theorem setJ_at {p q : Pot} {v : Int} {j : Nat} (h : setJ p v j = some q) : j < 3 ∧ ([V.int p.o, .int p.m, .int p.c]).set j (.int v) = [.int q.o, .int q.m, .int q.c] := by
  match j, h with
  | 0, h => cases h; exact ⟨by decide, rfl⟩
  | 1, h => cases h; exact ⟨by decide, rfl⟩
  | 2, h => cases h; exact ⟨by decide, rfl⟩
theorem px_pput {X : Cx} {pa : Option Addr} {M0 : Ms} {H0 : Hp} {i j : Nat} {x : Str} {e : Expr} {f : EvF} {px pc pt pos : Pos} {kk : Nat} (hN : X.N[i]? = some x) (hv : Vis X.env.scope x) (hd : (x == ("__debug__" : Str)) = false) (hcd : (x == ("__classdict__" : Str)) = false) (he : PD X e f)
    (hs : swapsWithSole [.Subscript (.Name x px) (.Constant (.int (j : Int)) kk pc) pt] e pos.line X.env = pure false) : PX X pa M0 H0 (.Assign [.Subscript (.Name x px) (.Constant (.int (j : Int)) kk pc) pt] e pos) (sPput i j f) :=
  PS.weak (ps_asg he (pg_sub (pe_var hN hv hd hcd) (pe_int (i := (j : Int))) set_list) hs (stores_of rfl _) rfl) fun E σ H ⟨M, env, p, fl, s, q, k⟩ => by
    unfold sPput at q
    obtain ⟨⟨d, p1⟩, q1, q2⟩ := Option.bind_eq_some_iff.mp q
    dsimp only at q2
    split at q2
    rotate_left
    · cases q2
    rename_i d0 o0 v hi
    obtain ⟨q', q3, q4⟩ := Option.map_eq_some_iff.mp q2
    subst q4
    refine ⟨pa, M, env, p, _, p1, s.en, s.pot, q1, fun u H1 x1 k1 r1 => ?_⟩
    cases r1
    have s1 := s.ext x1 k1
    obtain ⟨u, g1, a, g2, g3⟩ := s1.en.slot i _ hi
    subst g3
    obtain ⟨m, ha⟩ := k1 a g2
    obtain ⟨j3, ej⟩ := setJ_at q3
    have ix : ixN 3 (j : Int) = some j := by
      unfold ixN
      rw [if_pos (by omega), if_pos (by omega)]
      simp
    refine ⟨.ref a, g1, a, _, (j : Int), j, rfl, rfl, ha, ix, ?_⟩
    rw [ej]
    have x2 : Ext pa H1 (upd H1 a (.lst [.int q'.o, .int q'.m, .int q'.c])) := fun b o n h => by
      rw [upd_ne (fun z => n (by rw [z]; exact g2))]; exact h
    have k2 : PotOk pa M (upd H1 a (.lst [.int q'.o, .int q'.m, .int q'.c])) q' := fun b e => by
      have : b = a := by rw [g2] at e; cases e; rfl
      subst this
      exact ⟨m, upd_same⟩
    exact k σ _ M (s1.ext x2 k2) ((s.up x1).trans (s1.up x2))
structure InF (T : Th) (k : Nat) (N : List Str) (sc : Scope) (X : Cx) : Prop where
  I : InX T k N sc X
  fn : ∀ y, X.fn y = true
  kind : sc.kind = .function
section
variable {T : Th} {k : Nat} {N : List Str} {sc : Scope} {X : Cx} {pa : Option Addr} {M0 : Ms} {H0 : Hp}
theorem InF.po (J : InF T k N sc X) : PassesOwn (model X.prog X.w) X.A X.env X.xe := by rw [J.I.F.nx]; exact PassesOwn.never
theorem InF.par (J : InF T k N sc X) {t e : Expr} {r : Option (List Str)} (h : parP sc t e = some r) : swappedStores [t] e X.env = pure r := parP_of (by rw [J.I.sc]; exact J.kind) (by rw [J.I.sc]; exact h)
theorem InF.tg (J : InF T k N sc X) {t : Tg} {e : Expr} (h : tgB N sc false t e = true) : PGt X e t := tgB_of J.I.F.calm J.I.hN J.I.sc J.I.nd (.inr J.fn) t h
theorem InF.loc (J : InF T k N sc X) {i : Nat} {x : Str} (h : tgB N sc false (.name i) (.Name x default) = true) : X.N[i]? = some x ∧ Loc X.env.scope x := by
  simp only [tgB, Bool.and_eq_true, decide_eq_true_eq, Bool.or_eq_true, Bool.not_eq_true'] at h
  rw [J.I.hN, J.I.sc]
  exact ⟨h.1, h.2.imp id fun q => q.2⟩
theorem swaps_sole {e t : Expr} {l : Nat} {env : PySem.Env} (h : notComp e = true) : swapsWithSole [t] e l env = pure false := swaps_of h (some t) l env
theorem contains_of {l : List Nat} {m : List Nat} (h : l.all (fun j => m.contains j) = true) : ∀ j ∈ l, j ∈ m := fun j hj => by
  have := List.all_eq_true.mp h j hj
  simpa using this
end
section
variable {T : Th} {k : Nat} {G : Gs} {pa : Option Addr} {M0 : Ms} {H0 : Hp}
theorem sd_ownC (ok : GOk T k G) {i : Nat} {t : Tg} {own : List (Str × Nat)} {it : II} {c : IC} {el : IE} {st : Stmt} {N : List Str} {sc : Scope} {X : Cx} (J : InF T (k + 3) N sc X) (h : chkS N sc (.ownC i t own it c el) st = true) (hn : Fl0 G (slfS (.ownC i t own it c el))) : PX X pa M0 H0 st (rs (ss G (.ownC i t own it c el))) := by
  obtain ⟨tg, e, sp, rfl, w1⟩ := onAsg_inv (by exact h)
  obtain ⟨x, px, rfl, w2⟩ := onNameP_inv w1
  obtain ⟨elt, tg, iter, ifs, scope, pos, rfl, w3⟩ := onLc_inv w2
  simp only [Bool.and_eq_true, decide_eq_true_eq] at w3
  obtain ⟨⟨⟨⟨⟨⟨⟨⟨⟨⟨b1, b2⟩, a3⟩, a4⟩, h1⟩, h2⟩, h3⟩, h4⟩, h5⟩, h6⟩, h7⟩ := w3
  have I := J.I
  have b4 : (scope.names.any fun (n, k) => n == x && (k == .local || k == .cell)) = false := by simpa [freeB] using a4
  simp only [ss]
  rw [rs_ownC]
  refine px_lc I.F.calm (by rw [I.hN]; exact I.nd) (by rw [I.hN]; exact b1) (by rw [I.sc]; exact b2) (sw_true (by rw [I.sc]; exact J.kind) (by rw [I.sc]; exact b2) a3 b4) (sndI ok it I h4 hn.l.l) (by rw [I.hN, I.sc]; exact blkOk_by h2) (contains_of h3) (fun s H C cl fp => ?_) (fun s H C cl fp => ?_) (fun s H C cl fp => ?_) (folded_of h1 X.env)
  · have J := I.blk s H scope C cl fp
    exact tgB_of J.F.calm J.hN J.sc J.nd (.inl rfl) t h5
  · exact sndC ok c (I.blk s H scope C cl fp) h6 hn.l.r
  · exact (snd ok el (I.blk s H scope C cl fp) h7 hn.r).2 rfl
theorem sd_dc (ok : GOk T k G) {i : Nat} {t0 t1 : Tg} {own : List (Str × Nat)} {it0 it1 : II} {c0 c1 : IC} {vs1 : List Nat} {kk vv : IE} {st : Stmt} {N : List Str} {sc : Scope} {X : Cx} (J : InF T (k + 3) N sc X) (h : chkS N sc (.dc i t0 own it0 c0 t1 vs1 it1 c1 kk vv) st = true) (hn : Fl0 G (slfS (.dc i t0 own it0 c0 t1 vs1 it1 c1 kk vv))) : PX X pa M0 H0 st (rs (ss G (.dc i t0 own it0 c0 t1 vs1 it1 c1 kk vv))) := by
  obtain ⟨tg, e, sp, rfl, w1⟩ := onAsg_inv (by exact h)
  obtain ⟨x, px, rfl, w2⟩ := onNameP_inv w1
  obtain ⟨kx, vx, a0, s0, f0, a1, s1, f1, scope, ps, rfl, w3⟩ := onDc_inv w2
  simp only [Bool.and_eq_true, decide_eq_true_eq] at w3
  obtain ⟨⟨⟨⟨⟨⟨⟨⟨⟨⟨⟨⟨⟨⟨⟨⟨⟨b1, b2⟩, b3⟩, a4⟩, n0⟩, n1⟩, hb⟩, u0⟩, u1⟩, u2⟩, i0⟩, g0⟩, d0⟩, i1⟩, g1⟩, d1⟩, ek⟩, ev⟩ := w3
  have I := J.I
  have b4 : (scope.names.any fun (n, k) => n == x && (k == .local || k == .cell)) = false := by simpa [freeB] using a4
  simp only [ss]
  rw [rs_dc]
  have Bl := fun s H C cl fp => I.blk s H scope C cl fp
  have main := ps_setDcx (X := X) (i := i) (y := x) (py := px) (sp := sp) (ps := ps) (own := own) (vs1 := vs1) (kx := kx) (vx := vx) (a0 := a0) (s0 := s0) (a1 := a1) (s1 := s1) (f0 := f0) (f1 := f1) (sc := scope) (wi := tI X.K (rn (emI G it0))) (wi1 := tI X.K (rn (emI G it1))) (g := tG X.K (slotsT t0) (setT t0)) (g1 := tG X.K (slotsT t1) (setT t1)) (tt := tB X.K (rn (emC G c0))) (tt1 := tB X.K (rn (emC G c1))) (tk := tE X.K (rn (em G kk))) (tv := tE X.K (rn (em G vv))) I.F.calm (by rw [I.hN]; exact I.nd) (by rw [I.hN]; exact b1) (by rw [I.sc]; exact b2) (swD_true (by rw [I.sc]; exact J.kind) (by rw [I.sc]; exact b2) b3 b4)
    (sndI ok it0 I i0 hn.l.l.l.l.l) (by rw [I.hN, I.sc]; exact blkOk_by hb) (contains_of u2)
    (fun s H C cl fp => by have J := Bl s H C cl fp; exact tgB_of J.F.calm J.hN J.sc J.nd (.inl rfl) t0 g0)
    (fun s H C cl fp => sndC ok c0 (Bl s H C cl fp) d0 hn.l.l.l.l.r) (fun s H C cl fp => sndI ok it1 (Bl s H C cl fp) i1 hn.l.l.l.r)
    (fun s H C cl fp => by have J := Bl s H C cl fp; exact tgB_of J.F.calm J.hN J.sc J.nd (.inl rfl) t1 g1)
    (fun s H C cl fp => sndC ok c1 (Bl s H C cl fp) d1 hn.l.l.r) (fun s H C cl fp => (snd ok kk (Bl s H C cl fp) ek hn.l.r).2 rfl) (fun s H C cl fp => (snd ok vv (Bl s H C cl fp) ev hn.r).2 rfl)
    (folded_of n0 X.env) (fun env => folded_of n1 env)
  exact ⟨fun pins s σ H E Iv q => main.run pins s σ H E Iv (dcx_of (contains_of u0) (contains_of u1) (sDc_of (X := X) (by rw [Iv.len, I.hN]; exact (List.getElem?_eq_some_iff.mp b1).1) q))⟩
end
end Rc

-- Rd17
set_option Elab.async false
set_option linter.all false
set_option maxRecDepth 100000
set_option maxHeartbeats 4000000
namespace Rc
open PySem PySem.Spec PyProof.Rows L2
section
variable {T : Th} {k : Nat} {G : Gs} {pa : Option Addr} {M0 : Ms} {H0 : Hp}
theorem px_nilS {X : Cx} : PXs X pa M0 H0 [] (rs fun env => Tr.ret (Fw.nx env)) := px_nil
mutual
theorem sndS (ok : GOk T k G) : ∀ (a : IS) {st : Stmt} {N : List Str} {sc : Scope} {X : Cx}, InF T (k + 3) N sc X → chkS N sc a st = true → Fl0 G (slfS a) → PX X pa M0 H0 st (rs (ss G a))
  | .nop, st, N, sc, X, J, h, hn => by
    cases st with
    | Pass => simp only [ss]; exact px_pass
    | _ => cases h
  | .ex a, st, N, sc, X, J, h, hn => by
    obtain ⟨e, pos, rfl, w1⟩ := onExpr_inv (by exact h)
    simp only [Bool.and_eq_true] at w1
    simp only [ss]
    rw [rs_ex]
    exact px_expr ((snd ok a J.I w1.2 hn).2 rfl) (swaps_of w1.1 _ _ _)
  | .ret a, st, N, sc, X, J, h, hn => by
    obtain ⟨o, pos, rfl, w1⟩ := onRet_inv (by exact h)
    cases o with
    | none => cases w1
    | some e =>
      simp only [ss]
      rw [rs_ret]
      exact px_ret ((snd ok a J.I w1 hn).2 rfl)
  | .retN, st, N, sc, X, J, h, hn => by
    obtain ⟨o, pos, rfl, w1⟩ := onRet_inv (by exact h)
    cases o with
    | none => simp only [ss]; exact px_retN
    | some e => cases w1
  | .never, st, N, sc, X, J, h, hn => by
    have z : rs (ss G .never) = sNever := by funext env p; simp only [rs, ss]; rfl
    rw [z]
    exact px_never
  | .cont, st, N, sc, X, J, h, hn => by
    cases st with
    | Continue => simp only [ss]; exact px_cont
    | _ => cases h
  | .brk, st, N, sc, X, J, h, hn => by
    cases st with
    | Break => simp only [ss]; exact px_break
    | _ => cases h
  | .asg t a, st, N, sc, X, J, h, hn => by
    obtain ⟨tg, e, pos, rfl, w1⟩ := onAsg_inv (by exact h)
    simp only [Bool.and_eq_true, decide_eq_true_eq] at w1
    obtain ⟨⟨⟨⟨h1, h2⟩, h3⟩, h4⟩, h5⟩ := w1
    simp only [ss]
    rw [rs_asg]
    exact px_asg ((snd ok a J.I h5 hn).2 rfl) (J.tg h4) (swaps_of2 h1) (J.par h3) (by rw [each_of h2]; rfl)
  | .ownE i as, st, N, sc, X, J, h, hn => by
    obtain ⟨tg, e, pos, rfl, w1⟩ := onAsg_inv (by exact h)
    obtain ⟨x, px, rfl, w2⟩ := onNameP_inv w1
    obtain ⟨es, lp, rfl, w3⟩ := onLst_inv w2
    simp only [Bool.and_eq_true] at w3
    obtain ⟨g1, g2⟩ := J.loc w3.1
    simp only [ss]
    rw [rs_ownE]
    exact px_own (pf_lst (sndX ok as J.I w3.2 hn)) (by rw [J.I.hN]; exact J.I.nd) g1 g2 (.inl (J.fn x)) (swaps_sole rfl) (stores_of rfl _) rfl
  | .ownC i t own it c e, st, N, sc, X, J, h, hn => sd_ownC ok J h hn
  | .par2 i j a b, st, N, sc, X, J, h, hn => by
    obtain ⟨tg, e, pos, rfl, w1⟩ := onAsg_inv (by exact h)
    obtain ⟨n1, n2, kt, pt, rfl, w2⟩ := onTup2_inv w1
    obtain ⟨x, px, rfl, w3⟩ := onName_inv w2
    obtain ⟨y, py, rfl, w4⟩ := onName_inv w3
    obtain ⟨e1, e2, k2, p2, rfl, w5⟩ := onTup2_inv w4
    simp only [Bool.and_eq_true, decide_eq_true_eq] at w5
    obtain ⟨⟨⟨⟨⟨⟨h1, h2⟩, h3⟩, h4⟩, h5⟩, h6⟩, h7⟩ := w5
    have I := J.I
    simp only [ss]
    rw [rs_par (is := [i, j]) (ts := [.name i, .name j]) rfl]
    exact px_par I.F.calm (by rw [I.hN]; exact I.nd) (by rw [I.hN]; exact h2) (by rw [I.hN]; exact h3) h1 (by rw [I.sc]; exact h4) (by rw [I.sc]; exact h5) ((sndL ok [a, b] I h7 hn).2.1 rfl) (J.par h6) (swaps_sole rfl)
  | .par3 i j l a b c, st, N, sc, X, J, h, hn => by
    obtain ⟨tg, e, pos, rfl, w1⟩ := onAsg_inv (by exact h)
    obtain ⟨n1, n2, n3, kt, pt, rfl, w2⟩ := onTup3_inv w1
    obtain ⟨x, px, rfl, w3⟩ := onName_inv w2
    obtain ⟨y, py, rfl, w4⟩ := onName_inv w3
    obtain ⟨z, pz, rfl, w5⟩ := onName_inv w4
    obtain ⟨e1, e2, e3, k2, p2, rfl, w6⟩ := onTup3_inv w5
    simp only [Bool.and_eq_true, decide_eq_true_eq] at w6
    obtain ⟨⟨⟨⟨⟨⟨⟨⟨⟨⟨g1, g2⟩, g3⟩, h1⟩, h2⟩, h3⟩, h4⟩, h5⟩, h6⟩, h7⟩, h8⟩ := w6
    have I := J.I
    simp only [ss]
    rw [rs_par (is := [i, j, l]) (ts := [.name i, .name j, .name l]) rfl]
    exact px_par3 I.F.calm (by rw [I.hN]; exact I.nd) (by rw [I.hN]; exact h1) (by rw [I.hN]; exact h2) (by rw [I.hN]; exact h3) g1 g2 g3 (by rw [I.sc]; exact h4) (by rw [I.sc]; exact h5) (by rw [I.sc]; exact h6) ((sndL ok [a, b, c] I h8 hn).2.1 rfl) (J.par h7) (swaps_sole rfl)
  | .app i a, st, N, sc, X, J, h, hn => by
    obtain ⟨e, pos, rfl, w1⟩ := onExpr_inv (by exact h)
    obtain ⟨g, es, cpos, rfl, w2⟩ := onCall_inv w1
    obtain ⟨o, m, apos, rfl, w3⟩ := onAttr_inv w2
    obtain ⟨x, px, rfl, w4⟩ := onName_inv w3
    obtain ⟨e1, rfl, w5⟩ := onOne_inv w4
    simp only [Bool.and_eq_true, decide_eq_true_eq] at w5
    obtain ⟨⟨⟨⟨rfl, h1⟩, h2⟩, h3⟩, h4⟩ := w5
    obtain ⟨g1, g2, g3, g4⟩ := varB_of J.I h1
    simp only [ss]
    rw [rs_app]
    exact px_append g1 g2 g3 g4 ((snd ok a J.I h4 hn).2 rfl) (attrBase_of rfl _ _) (by rw [star_of h3]; rfl) h2 (star_of h3 [] _) rfl (swaps_of rfl _ _ _)
  | .ext i a, st, N, sc, X, J, h, hn => by
    obtain ⟨e, pos, rfl, w1⟩ := onExpr_inv (by exact h)
    obtain ⟨g, es, cpos, rfl, w2⟩ := onCall_inv w1
    obtain ⟨o, m, apos, rfl, w3⟩ := onAttr_inv w2
    obtain ⟨x, px, rfl, w4⟩ := onName_inv w3
    obtain ⟨e1, rfl, w5⟩ := onOne_inv w4
    simp only [Bool.and_eq_true, decide_eq_true_eq] at w5
    obtain ⟨⟨⟨⟨rfl, h1⟩, h2⟩, h3⟩, h4⟩ := w5
    obtain ⟨g1, g2, g3, g4⟩ := varB_of J.I h1
    simp only [ss]
    rw [rs_ext]
    exact px_extend g1 g2 g3 g4 ((snd ok a J.I h4 hn).2 rfl) (attrBase_of rfl _ _) (by rw [star_of h3]; rfl) h2 (star_of h3 [] _) rfl (swaps_of rfl _ _ _)
  | .whl n c b, st, N, sc, X, J, h, hn => by
    obtain ⟨e, body, pos, rfl, w1⟩ := onWhile_inv (by exact h)
    simp only [Bool.and_eq_true] at w1
    simp only [ss]
    rw [rs_whl]
    exact px_while J.po (sndT ok c J.I w1.1 hn.l) (sndSs ok b J w1.2 hn.r)
  | .fld c i f a, st, N, sc, X, J, h, hn => by
    obtain ⟨tg, e, pos, rfl, w1⟩ := onAsg_inv (by exact h)
    obtain ⟨o, g, apos, rfl, w2⟩ := onAttr_inv w1
    obtain ⟨x, px, rfl, w3⟩ := onName_inv w2
    simp only [Bool.and_eq_true, decide_eq_true_eq] at w3
    obtain ⟨⟨⟨rfl, h1⟩, h2⟩, h3⟩ := w3
    obtain ⟨g1, g2, g3, g4⟩ := varB_of J.I h1
    have z := ok.att c f none (hn (c, f) (by simp [slfS]))
    simp only [ss]
    rw [rs_fld]
    exact px_fld (by rw [J.I.F.K]; exact z.1) (by rw [J.I.F.K]; exact z.2) g1 g2 g3 g4 ((snd ok a J.I h3 fun q hq => hn q (by simp [slfS, hq])).2 rfl) (swaps_of h2 _ _ _)
  | .iff c s t, st, N, sc, X, J, h, hn => by
    obtain ⟨e, a, b, pos, rfl, w1⟩ := onIf_inv (by exact h)
    simp only [Bool.and_eq_true] at w1
    simp only [ss]
    rw [rs_if]
    exact px_if (sndT ok c J.I w1.1 hn.l.l) (sndSs ok s J w1.2.1 hn.l.r) (sndSs ok t J w1.2.2 hn.r)
  | .for t it b, st, N, sc, X, J, h, hn => by
    obtain ⟨tg, iter, body, pos, rfl, w1⟩ := onFor_inv (by exact h)
    simp only [Bool.and_eq_true] at w1
    obtain ⟨⟨⟨h1, h2⟩, h3⟩, h4⟩ := w1
    simp only [ss]
    rw [rs_for]
    exact px_for J.po J.I.F.calm (sndI ok it J.I h2 hn.l) (J.tg h3) (sndSs ok b J h4 hn.r) (folded_of h1 X.env)
  | .frz i, st, N, sc, X, J, h, hn => by cases h
  | .pput i j a, st, N, sc, X, J, h, hn => by
    obtain ⟨tg, e, pos, rfl, w1⟩ := onAsg_inv (by exact h)
    obtain ⟨o, y, pt, rfl, w2⟩ := onSub_inv w1
    obtain ⟨x, px, rfl, w3⟩ := onName_inv w2
    obtain ⟨c, kk, pc, rfl, w4⟩ := onCon_inv w3
    simp only [Bool.and_eq_true] at w4
    obtain ⟨⟨⟨w5, w6⟩, w7⟩, w8⟩ := w4
    obtain ⟨g1, g2, g3, g4⟩ := varB_of J.I w5
    cases c with
    | int z =>
      have ez : z = (j : Int) := by simpa using w6
      subst ez
      simp only [ss]
      rw [rs_pput]
      exact px_pput g1 g2 g3 g4 ((snd ok a J.I w8 hn).2 rfl) (swaps_sole w7)
    | _ => cases w6
  | .dc i t0 own it0 c0 t1 vs1 it1 c1 kk vv, st, N, sc, X, J, h, hn => sd_dc ok J h hn
theorem sndSs (ok : GOk T k G) : ∀ (r : List IS) {sts : List Stmt} {N : List Str} {sc : Scope} {X : Cx}, InF T (k + 3) N sc X → chkSs N sc r sts = true → Fl0 G (slfSs r) → PXs X pa M0 H0 sts (rs (sss G r))
  | [], sts, N, sc, X, J, h, hn => by
    cases sts with
    | nil => simp only [sss]; exact px_nilS
    | cons _ _ => cases h
  | s :: r, sts, N, sc, X, J, h, hn => by
    simp only [sss]
    rw [rs_seq]
    by_cases hf : ∃ i, s = .frz i
    · obtain ⟨i, rfl⟩ := hf
      have z : rs (ss G (.frz i)) = sFreeze i := by simp only [ss]; exact rs_frz
      rw [z]
      exact px_freeze (sndSs ok r J h hn.r)
    · cases sts with
      | nil => cases s <;> first | cases h | exact absurd ⟨_, rfl⟩ hf
      | cons st sts =>
        have h' : chkS N sc s st = true ∧ chkSs N sc r sts = true := by
          cases s <;> first | exact Bool.and_eq_true_iff.mp h | exact absurd ⟨_, rfl⟩ hf
        exact px_cons (sndS ok s J h'.1 hn.l) (sndSs ok r J h'.2 hn.r)
end
end

/-! ### defs by their IR -/
def dats (ds : List D) : Env := ds.map fun d => some (.dat d)
def env0 (m : Nat) (ds : List D) : Env := dats ds ++ List.replicate (m - ds.length) none
def endT : Fw → Tr D
  | .rt d => .ret d
  | .nx _ => .ret .non
  | _ => .fail
def runT (G : Gs) (m : Nat) (ir : List IS) : TrD := fun ds => (sss G ir (env0 m ds)).bind endT
section
variable {K : PySem.W.Frag} {pa : Option Addr} {M : Ms} {H : Hp} {N : List Str} {ds : List D} {vs : List V} {p : Pot}
theorem dats_some {i : Nat} {e : EV} {m : Nat} (h : (env0 m ds)[i]? = some (some e)) : ∃ d, ds[i]? = some d ∧ e = .dat d := by
  unfold env0 dats at h
  rw [List.getElem?_append] at h
  split at h
  · rw [List.getElem?_map] at h
    obtain ⟨d, h1, h2⟩ := Option.map_eq_some_iff.mp h
    cases h2
    exact ⟨d, h1, rfl⟩
  · rw [List.getElem?_replicate] at h
    split at h <;> cases h
theorem start_get {i : Nat} {v : V} (h : vs[i]? = some v) : (L2.start N vs)[i]? = some (some v) := by
  unfold L2.start
  have hi : i < vs.length := (List.getElem?_eq_some_iff.mp h).1
  rw [List.getElem?_append_left (by simpa using hi), List.getElem?_map, h]; rfl
theorem env0_ok (hl : vs.length ≤ N.length) (r : Reps K pa M H ds vs) (dom : ∀ a, M a → (H a).isSome = true) : EnvOk K pa M H (L2.start N vs) (env0 N.length ds) := by
  refine ⟨fun i e h => ?_, fun i j e e' v h h' o => ?_, dom, by simp [env0, dats, L2.start, r.length]⟩
  · obtain ⟨d, h1, rfl⟩ := dats_some h
    obtain ⟨v, h2, h3⟩ := r.get h1
    exact ⟨v, start_get h2, h3⟩
  · obtain ⟨d, h1, rfl⟩ := dats_some h
    cases o
end
section
variable {T : Th} {k : Nat} {G : Gs} {x qual : Str} {params : Arguments} {body : List Stmt} {scope : Scope} {dvs : List V} {kws : List (Str × V)} {f : Addr} {fd : FuncData} {N ps : List Str} {ir : List IS}
theorem inF_of {X : Cx} (h1 : X.prog = T.P) (h2 : X.w = T.w) (h3 : X.K = T.K) (h4 : X.mg = T.mg) (h5 : X.base = T.base) (h6 : X.N = N) (h7 : X.env.scope = scope) (h8 : X.calm = true) (h9 : ∀ y, X.fn y = true) (h10 : Rm k X.A) (h11 : ∀ e s, ¬ X.xe e s) (nd : N.Nodup) (hk : scope.kind = .function) : InF T k N scope X :=
  ⟨⟨⟨h1, h2, h3, h4, h5, h8, h10, funext fun e => funext fun s => propext ⟨fun z => (h11 e s z).elim, fun z => z.elim⟩⟩, h6, h7, nd⟩, h9, hk⟩
theorem fg_D (ok : GOk T k G) (F : FunD T.K x qual params body scope dvs kws f fd) (S : FnScope N ps scope) (hc : chkSs N scope ir body = true) (hn : Fl0 G (slfSs ir)) : FG T.P T.w T.K T.mg T.base (k + 4) f fd ps (spD T.K ps.length (Tr.runs (runT G N.length ir))) := by
  have hpl : ps.length ≤ N.length := by have := congrArg List.length S.pre; rw [List.length_take] at this; omega
  refine fg_of F S (fun vs H Q h => h.len) fun X h1 h2 h3 h4 h5 h6 h7 h8 h9 h10 h11 vs H Q hsp => ?_
  have J := inF_of h1 h2 h3 h4 h5 h6 h7 h8 h9 h10 h11 S.nd S.kind
  have hl := hsp.len
  obtain ⟨pa, M, p, ds, d, p', dom, hP, hR, hlen, hrun, kk⟩ := hsp
  refine ⟨_, sndSs ok (pa := pa) (M0 := M) (H0 := H) ir J hc hn, ?_⟩
  unfold Tr.runs runT at hrun
  obtain ⟨w, p1, e1, e2⟩ := Tr.bind_some hrun
  rw [h3]
  refine ⟨M, env0 N.length ds, p, w.fl p1, ⟨env0_ok (by omega) hR dom, hP, fun a e => (hP a e).1, fun _ m => m, Ext.refl, fun i e a q o => ?_⟩, by simp only [rs, e1]; rfl, ?_⟩
  · obtain ⟨d, _, rfl⟩ := dats_some q
    cases o
  · cases w with
    | rt d2 => cases e2; exact fun v H' x1 k1 r1 => kk v H' x1 k1 r1
    | nx env2 => cases e2; exact fun σ' H' M' s' u => kk .non H' s'.old (pot0_ok s') rfl
    | bk _ => cases e2
    | ct _ => cases e2

/-! ### __init__ -/
def envI (m : Nat) (c : Str) (ds : List D) : Env := some (.slf c []) :: env0 (m - 1) ds
def endI (c : Str) : Fw → Tr (List (Str × D))
  | .nx (some (.slf c' fs) :: _) => if c' = c then .ret fs else .fail
  | _ => .fail
def runTI (G : Gs) (m : Nat) (c : Str) (ir : List IS) : TrI := fun ds => (sss G ir (envI m c ds)).bind (endI c)
theorem spI.len {K : PySem.W.Frag} {c : Str} {n : Nat} {run : RunI} {vs : List V} {H : Hp} {Q : VK} {E : XK} (h : spI K c n run vs H Q E) : vs.length = n + 1 := by
  obtain ⟨x, dx, vr, pa, M, p, ds, fs, p', rfl, _, _, _, _, _, r, e, _⟩ := h
  simp [← r.length, e]
theorem fg_I (ok : GOk T k G) {c : Str} {n : Nat} (F : FunD T.K x qual params body scope dvs kws f fd) (S : FnScope N ps scope) (hps : ps.length = n + 1) (hc : chkSs N scope ir body = true) (hn : Fl0 G (slfSs ir)) : FG T.P T.w T.K T.mg T.base (k + 4) f fd ps (spI T.K c n (Tr.runs (runTI G N.length c ir))) := by
  have hpl : ps.length ≤ N.length := by have := congrArg List.length S.pre; rw [List.length_take] at this; omega
  refine fg_of F S (fun vs H Q h => by rw [h.len, hps]) fun X h1 h2 h3 h4 h5 h6 h7 h8 h9 h10 h11 vs H Q hsp => ?_
  have J := inF_of h1 h2 h3 h4 h5 h6 h7 h8 h9 h10 h11 S.nd S.kind
  have hl := hsp.len
  obtain ⟨x, dx, vr, pa, M, p, ds, fs, p', rfl, hx, mx, px, dom, hP, hR, hlen, hrun, kk⟩ := hsp
  refine ⟨_, sndSs ok (pa := pa) (M0 := M) (H0 := fun a => if a = x then none else H a) ir J hc hn, ?_⟩
  unfold Tr.runs runTI at hrun
  obtain ⟨w, p1, e1, e2⟩ := Tr.bind_some hrun
  rw [h3]
  have hlr : vr.length = n := by rw [← hR.length, hlen]
  have hst : L2.start N (.ref x :: vr) = some (.ref x) :: (vr.map some ++ List.replicate (N.length - 1 - vr.length) none) := by
    unfold L2.start
    simp only [List.map_cons, List.cons_append, List.length_cons]
    rw [show N.length - (vr.length + 1) = N.length - 1 - vr.length by omega]
  have get0 : ∀ i e, (envI N.length c ds)[i]? = some (some e) → (i = 0 ∧ e = .slf c []) ∨ ∃ j d, i = j + 1 ∧ ds[j]? = some d ∧ e = .dat d := by
    intro i e h
    cases i with
    | zero => simp [envI] at h; exact .inl ⟨rfl, h.symm⟩
    | succ j =>
      simp only [envI, List.getElem?_cons_succ] at h
      obtain ⟨d, q1, q2⟩ := dats_some h
      exact .inr ⟨j, d, rfl, q1, q2⟩
  have E : EnvOk T.K pa M H (L2.start N (.ref x :: vr)) (envI N.length c ds) := by
    refine ⟨fun i e h => ?_, fun i j e e' v h h' o o' _ _ => ?_, dom, by rw [hst]; simp [envI, env0, dats, hR.length]⟩
    · rcases get0 i e h with ⟨rfl, rfl⟩ | ⟨j, d, rfl, q1, rfl⟩
      · exact ⟨.ref x, by rw [hst]; rfl, x, dx, [], rfl, mx, px, hx, rfl⟩
      · obtain ⟨v, q2, q3⟩ := hR.get q1
        exact ⟨v, start_get (by simpa using q2), q3⟩
    · rcases get0 i e h with ⟨rfl, rfl⟩ | ⟨_, _, _, _, rfl⟩
      · rcases get0 j e' h' with ⟨rfl, rfl⟩ | ⟨_, _, _, _, rfl⟩
        · rfl
        · cases o'
      · cases o
  refine ⟨M, envI N.length c ds, p, w.fl p1, ⟨E, hP, fun a e => (hP a e).1, fun _ m => m, fun a o _ q => ?_, fun i e a q o h => ?_⟩, by simp only [rs, e1]; rfl, ?_⟩
  · have q' : (if a = x then none else H a) = some o := q
    split at q'
    · cases q'
    · exact q'
  · rcases get0 i e q with ⟨rfl, rfl⟩ | ⟨_, _, _, _, rfl⟩
    · rw [hst] at h
      cases h
      exact ⟨if_pos rfl, fun _ => rfl, fun _ => mx⟩
    · cases o
  · cases w with
    | nx env2 =>
      cases env2 with
      | nil => cases e2
      | cons o er =>
      cases o with
      | none => cases e2
      | some ev =>
      cases ev with
      | dat _ => cases e2
      | own _ => cases e2
      | slf c' fs' =>
      simp only [endI] at e2
      split at e2
      rotate_left
      · cases e2
      rename_i ec
      subst ec
      cases e2
      have h0 : (some (EV.slf c' fs) :: er)[0]? = some (some (EV.slf c' fs)) := rfl
      intro σ' H' M' s' u
      obtain ⟨v, g1, a, dx', ws, rfl, m', na, t, r⟩ := s'.en.slot 0 _ h0
      obtain ⟨g2, g3⟩ := s'.fresh 0 _ a h0 rfl g1
      have ma : M a := g3.mpr rfl
      have ex : a = x := by
        have g2' : (if a = x then none else H a) = none := g2
        split at g2'
        · assumption
        · have := dom a ma
          rw [g2'] at this; cases this
      subst ex
      refine kk H' dx' ws (fun b o nb ne hb => s'.old b o nb ?_) (pot0_ok s') t (RepF.up (Up.less s'.sub) r)
      show (if b = a then none else H b) = some o
      rw [if_neg ne]; exact hb
    | rt _ => cases e2
    | bk _ => cases e2
    | ct _ => cases e2
end
end Rc

-- Rd18
set_option Elab.async false
set_option linter.all false
set_option maxRecDepth 100000
set_option maxHeartbeats 4000000
namespace Rc
open PySem PySem.Spec PyProof.Rows L2

/-! ### a plain def binds what it is given -/
theorem zip_look : ∀ {ps : List Str} {us : List Value} (n : Str), ps.length = us.length → n ∈ ps → ((ps.zip us).lookup n).isSome = true
  | [], _, n, _, h => by cases h
  | p :: ps, [], n, e, _ => by simp at e
  | p :: ps, u :: us, n, e, h => by
    rw [List.zip_cons_cons, List.lookup_cons]
    by_cases q : n = p
    · subst q; simp
    · rw [show (n == p) = false by simpa using q]
      exact zip_look n (by simpa using e) (by simpa [q] using h)
theorem zip_back : ∀ {ps : List Str} {us : List Value} (l : List (Str × Value)), ps.Nodup → ps.length = us.length → (∀ n ∈ ps, l.lookup n = (ps.zip us).lookup n) → ps.filterMap (fun n => (l.lookup n).map (n, ·)) = ps.zip us
  | [], _, l, _, e, _ => by
    simp
  | p :: ps, [], l, _, e, _ => by simp at e
  | p :: ps, u :: us, l, nd, e, h => by
    have nd' := List.nodup_cons.mp nd
    have h1 : l.lookup p = some u := by
      rw [h p List.mem_cons_self, List.zip_cons_cons, List.lookup_cons]; simp
    rw [List.filterMap_cons, h1, List.zip_cons_cons]
    simp only [Option.map_some]
    rw [zip_back l nd'.2 (by simpa using e) fun n hn => ?_]
    rw [h n (List.mem_cons_of_mem _ hn), List.zip_cons_cons, List.lookup_cons]
    rw [show (n == p) = false by
      rw [Bool.eq_false_iff]
      intro q
      exact nd'.1 (by rw [← beq_iff_eq.mp q]; exact hn)]
def plainArgs (a : Arguments) (ps : List Str) : Bool := a.posonlyargs.isEmpty && a.kwonlyargs.isEmpty && a.vararg.isNone && a.kwarg.isNone && decide (a.args.map (·.arg) = ps)
theorem plain_binds {x qual : Str} {params : Arguments} {body : List Stmt} {scope : Scope} {ps : List Str} (h : plainArgs params ps = true) (nd : ps.Nodup) (kV doc pm : Value) (an : Option Addr) (cdv ct : Value) (us : List Value) (hl : us.length = ps.length) :
    bindArgs (PySem.W.fnOf x qual params body scope .none kV doc pm an cdv ct) ⟨us, []⟩ = pure (ps.zip us) := by
  unfold plainArgs at h
  simp only [Bool.and_eq_true, decide_eq_true_eq] at h
  obtain ⟨⟨⟨⟨h1, h2⟩, h3⟩, h4⟩, h5⟩ := h
  obtain ⟨po, ar, va, ko, kd, kw, df⟩ := params
  have e1 : po = [] := List.isEmpty_iff.mp h1
  have e2 : ko = [] := List.isEmpty_iff.mp h2
  have e3 : va = none := Option.isNone_iff_eq_none.mp h3
  have e4 : kw = none := Option.isNone_iff_eq_none.mp h4
  subst e1 e2 e3 e4
  have h5' : ar.map (·.arg) = ps := h5
  have e6 : ps.filter (fun n => ((ps.zip us).lookup n).isNone) = [] := by
    rw [List.filter_eq_nil_iff]
    intro n hn
    have := zip_look (us := us) n hl.symm hn
    cases q : (ps.zip us).lookup n with
    | none => rw [q] at this; cases this
    | some _ => simp
  have e7 := zip_back (us := us) (ps.zip us) nd hl.symm fun n _ => rfl
  unfold bindArgs
  simp only [PySem.W.fnOf, List.map_nil, List.nil_append, h5', List.forIn_nil, pure_bind]
  have e8 : seqItems? (.none : Value) = pure none := rfl
  rw [e8]
  simp only [pure_bind, Option.getD_none, List.length_nil, Nat.sub_zero, List.drop_nil, List.take_length, e6, List.isEmpty_nil, List.drop_length, List.zip_nil_left, List.zip_nil_right, List.forIn_nil, List.append_nil]
  simp [hl, e7, e6]
end Rc

-- Rd19
set_option Elab.async false
set_option linter.all false
set_option maxRecDepth 100000
set_option maxHeartbeats 4000000
namespace Rc
open PySem PySem.Spec PyProof.Rows L2

/-! ### a program: its defs by their IR, calls by fuel -/
structure FnIR where
  n : Nat
  dfl : List D
  m : Nat
  ir : List IS
structure Prog where
  glo : List (Str × D)
  tab : List (Str × List (Str × D))
  fns : List (Str × FnIR)
  mak : List (Str × FnIR)
  fld : List (Str × Str)
  prp : List ((Str × Str) × FnIR)
  met : List ((Str × Str) × FnIR)
  cme : List ((Str × Str) × FnIR)
  known : List Str
  prim : List (Str × Fn)
def FnIR.fn (f : FnIR) (G : Gs) : Fn := ⟨f.n, f.dfl, runT G f.m f.ir⟩
def FnIR.ini (f : FnIR) (c : Str) (G : Gs) : FnI := ⟨f.n, f.dfl, runTI G f.m c f.ir⟩
def G0 (P : Prog) : Gs where
  glo := fun x => P.glo.lookup x
  tab := fun x => P.tab.lookup x
  fn := fun _ => none
  mak := fun _ => none
  att := fun c f => if P.fld.contains (c, f) then some none else none
  met := fun _ _ => none
  cme := fun _ _ => none
  known := P.known
def Gs.next (P : Prog) (G : Gs) : Gs where
  glo := fun x => P.glo.lookup x
  tab := fun x => P.tab.lookup x
  fn := fun x => match P.fns.lookup x with
    | some f => some (f.fn G)
    | none => P.prim.lookup x
  mak := fun c => (P.mak.lookup c).map fun f => f.ini c G
  att := fun c f => if P.fld.contains (c, f) then some none else (P.prp.lookup (c, f)).map fun q => some (runT G q.m q.ir)
  met := fun c m => (P.met.lookup (c, m)).map fun f => f.fn G
  cme := fun c m => (P.cme.lookup (c, m)).map fun f => f.fn G
  known := P.known
def Gn (P : Prog) : Nat → Gs
  | 0 => G0 P
  | n + 1 => (Gn P n).next P

/-! ### what the head must tell of it -/
/-- a def's text is its IR -/
structure Txt (T : Th) (f : FnIR) (n : Nat) (a : Addr) (fd : FuncData) (ps : List Str) : Prop where
  ex : ∃ (x qual : Str) (params : Arguments) (body : List Stmt) (scope : Scope) (dvs : List V) (kws : List (Str × V)) (N : List Str), FunD T.K x qual params body scope dvs kws a fd ∧ FnScope N ps scope ∧ chkSs N scope f.ir body = true ∧ N.length = f.m
  len : ps.length = n
  bn : BindsAll T.K fd ps f.dfl
structure Told (T : Th) (P : Prog) : Prop where
  glo : ∀ x d, P.glo.lookup x = some d → GloH T x d
  tab : ∀ x kvs, P.tab.lookup x = some kvs → TabH T x kvs
  fn : ∀ x f, P.fns.lookup x = some f → Fl0 (G0 P) (slfSs f.ir) ∧ ∃ a fd ps, T.mg x = some (.ref a) ∧ Txt T f f.n a fd ps
  mak : ∀ c f, P.mak.lookup c = some f → Fl0 (G0 P) (slfSs f.ir) ∧ ∃ a fd ps, T.mg c = some (.ref (He.ga T.K c)) ∧ Mk T.K (He.ga T.K c) a ∧ Txt T f (f.n + 1) a fd ps
  fld : ∀ c f, (c, f) ∈ P.fld → Cls T.K (He.ga T.K c) ∧ NoAttr T.K (He.ga T.K c) f
  prp : ∀ c f q, P.prp.lookup (c, f) = some q → Fl0 (G0 P) (slfSs q.ir) ∧ q.dfl = [] ∧ Cls T.K (He.ga T.K c) ∧ ∃ p a fd ps, PropOf T.K (He.ga T.K c) f p a ∧ Txt T q 1 a fd ps
  met : ∀ c m f, P.met.lookup (c, m) = some f → Fl0 (G0 P) (slfSs f.ir) ∧ Cls T.K (He.ga T.K c) ∧ ∃ a fd ps, Meth T.K (He.ga T.K c) m a ∧ Txt T f f.n a fd ps
  cme : ∀ c m f, P.cme.lookup (c, m) = some f → Fl0 (G0 P) (slfSs f.ir) ∧ T.mg c = some (.ref (He.ga T.K c)) ∧ ∃ mc p a fd ps, ClX.CRead T.K (He.ga T.K c) mc ∧ ClX.CMet T.K (He.ga T.K c) mc m p a ∧ Txt T f f.n a fd ps
  isi : IsiH T.K P.known
  op : OpH T.K P.known
  free : ∀ x ∈ freeNames, T.mg x = none
  prim : ∀ x f, P.prim.lookup x = some f → FnK T 4 x f
section
variable {T : Th} {P : Prog}
theorem G0_fld (c f : Str) : (G0 P).att c f = some none → (c, f) ∈ P.fld := fun h => by
  unfold G0 at h
  dsimp only at h
  split at h
  · rename_i q; simpa using q
  · cases h
theorem fl0_up {G : Gs} (h : ∀ c f, (c, f) ∈ P.fld → G.att c f = some none) {l : List (Str × Str)} (z : Fl0 (G0 P) l) : Fl0 G l := fun q hq => h q.1 q.2 (G0_fld _ _ (z q hq))
theorem Gn_att (n : Nat) (c f : Str) (h : (c, f) ∈ P.fld) : (Gn P n).att c f = some none := by
  have hc : P.fld.contains (c, f) = true := by simpa using h
  cases n with
  | zero => show (if P.fld.contains (c, f) then some none else none) = _; rw [hc]; rfl
  | succ n => show (if P.fld.contains (c, f) then some none else _) = _; rw [hc]; rfl
theorem binds_nil {K : PySem.W.Frag} {fd : FuncData} {ps : List Str} (h : BindsAll K fd ps []) : Binds K fd ps [] := by
  obtain ⟨ds, dvs, h1, h2, h3⟩ := h 0 (Nat.le_refl _)
  have r := h2 none (fun _ => False) (fun _ => none)
  cases r
  cases h3
  exact h1
theorem gok (H : Told T P) : ∀ n, GOk T (4 * n) (Gn P n)
  | 0 => {
    glo := H.glo
    tab := H.tab
    fn := fun _ _ e => by cases e
    mak := fun _ _ e => by cases e
    att := fun c f r e => by
      have e' : (if P.fld.contains (c, f) then some none else none) = some r := e
      split at e'
      · rename_i q
        cases e'
        exact H.fld c f (by simpa using q)
      · cases e'
    met := fun _ _ _ e => by cases e
    cme := fun _ _ _ e => by cases e
    isi := H.isi
    op := H.op
    free := H.free }
  | n + 1 => by
    have ok := gok H n
    have up : ∀ {l}, Fl0 (G0 P) l → Fl0 (Gn P n) l := fun z => fl0_up (Gn_att n) z
    have lvl : 4 * n + 4 = 4 * (n + 1) := by omega
    have def_ : ∀ {f : FnIR} {m : Nat} {a : Addr} {fd : FuncData} {ps : List Str}, Fl0 (G0 P) (slfSs f.ir) → Txt T f m a fd ps → FG T.P T.w T.K T.mg T.base (4 * (n + 1)) a fd ps (spD T.K m (Tr.runs (runT (Gn P n) f.m f.ir))) := fun {f m a fd ps} z t => by
      obtain ⟨x, qual, params, body, scope, dvs, kws, N, F, S, hc, hm⟩ := t.ex
      have := fg_D ok F S hc (up z)
      rw [t.len, hm, lvl] at this
      exact this
    refine ⟨H.glo, H.tab, fun x f e => ?_, fun c f e => ?_, fun c f r e => ?_, fun c m f e => ?_, fun c m f e => ?_, H.isi, H.op, H.free⟩
    · have e' : (match P.fns.lookup x with
        | some f => some (f.fn (Gn P n))
        | none => P.prim.lookup x) = some f := e
      cases q : P.fns.lookup x with
      | none =>
        rw [q] at e'
        obtain ⟨a, fd, ps, h1, h2, h3, h4, h5⟩ := H.prim x f e'
        exact ⟨a, fd, ps, h1, h2, h3, h4, h5.mono (by omega)⟩
      | some g =>
        rw [q] at e'
        cases e'
        obtain ⟨z, a, fd, ps, hm, t⟩ := H.fn x g q
        obtain ⟨_, _, _, _, _, _, _, _, F, _⟩ := t.ex
        exact ⟨a, fd, ps, t.len, hm, F.kp, t.bn, def_ z t⟩
    · have e' : (P.mak.lookup c).map (fun f => f.ini c (Gn P n)) = some f := e
      obtain ⟨g, q, e2⟩ := Option.map_eq_some_iff.mp e'
      subst e2
      obtain ⟨z, a, fd, ps, hm, mk, t⟩ := H.mak c g q
      obtain ⟨x, qual, params, body, scope, dvs, kws, N, F, S, hc, hN⟩ := t.ex
      have := fg_I (c := c) (n := g.n) ok F S t.len hc (up z)
      rw [hN, lvl] at this
      exact ⟨a, fd, ps, t.len, hm, mk, t.bn, this⟩
    · have e' : (if P.fld.contains (c, f) then some none else (P.prp.lookup (c, f)).map fun q => some (runT (Gn P n) q.m q.ir)) = some r := e
      split at e'
      · rename_i q
        cases e'
        exact H.fld c f (by simpa using q)
      · obtain ⟨g, q, e2⟩ := Option.map_eq_some_iff.mp e'
        subst e2
        obtain ⟨z, hd, cl, p, a, fd, ps, hp, t⟩ := H.prp c f g q
        exact ⟨cl, p, a, fd, ps, hp, binds_nil (by have := t.bn; rw [hd] at this; exact this), def_ z t⟩
    · have e' : (P.met.lookup (c, m)).map (fun f => f.fn (Gn P n)) = some f := e
      obtain ⟨g, q, e2⟩ := Option.map_eq_some_iff.mp e'
      subst e2
      obtain ⟨z, cl, a, fd, ps, hm, t⟩ := H.met c m g q
      exact ⟨cl, a, fd, ps, t.len, hm, t.bn, def_ z t⟩
    · have e' : (P.cme.lookup (c, m)).map (fun f => f.fn (Gn P n)) = some f := e
      obtain ⟨g, q, e2⟩ := Option.map_eq_some_iff.mp e'
      subst e2
      obtain ⟨z, hg, mc, p, a, fd, ps, cr, cm, t⟩ := H.cme c m g q
      exact ⟨hg, mc, p, a, fd, ps, cr, cm, t.len, t.bn, def_ z t⟩
end
end Rc

-- Rd20
set_option Elab.async false
set_option linter.all false
set_option maxRecDepth 100000
set_option maxHeartbeats 4000000
namespace Rc
open PySem PySem.Spec PyProof.Rows L2

/-! ### _law_take: one number out of the pot -/
def takeIR : List IS := [.iff (.cmp .Gt (.pix 0 0) (.con (.int (0)))) [.asg (.name 2) (.bin .Mod (.bi .int [(.pix 0 0)]) (.var 1)), .pput 0 0 (.bin .FloorDiv (.pix 0 0) (.var 1)), .ret (.var 2)] [],
  .pput 0 2 (.bin .Add (.pix 0 2) (.con (.int (1)))),
  .asg (.name 3) (.ix (.lst [.one (.con (.int (2147483647))), .one (.con (.int (2147483629))), .one (.con (.int (2147483587))), .one (.con (.int (2147483579))), .one (.con (.int (2147483563)))]) (.bin .Mod (.bi .int [(.pix 0 2)]) (.con (.int (5))))),
  .asg (.name 4) (.bin .Mod (.bi .int [(.bin .Pow (.bi .int [(.bin .Add (.bin .Add (.pix 0 1) (.bin .Mult (.bin .Mult (.con (.int (99989))) (.pix 0 2)) (.pix 0 2))) (.con (.int (61))))]) (.con (.int (3))))]) (.var 3)),
  .asg (.name 4) (.bin .Mod (.bi .int [(.bin .Mult (.var 4) (.bin .Add (.bin .Mod (.bi .int [(.var 4)]) (.con (.int (10009)))) (.bin .Mult (.con (.int (91))) (.pix 0 2))))]) (.con (.int (2305843009213693907)))),
  .ret (.bin .Mod (.bi .int [(.bin .FloorDiv (.var 4) (.con (.int (107))))]) (.var 1))]
theorem take_run1 (G : Gs) (n : Int) (p : Pot) (h1 : 0 < n) (h2 : n < 2 ^ 30) (ho : 0 < p.o) : (runT G 5 takeIR [.pot, .int n]).run p = some (.int (p.o % n), { p with o := p.o / n }) := by
  have hc : CDiv p.o n := ⟨h1, by omega⟩
  simp [runT, takeIR, sss, ss, em, ems, emT, emX, mVar, mPix, env0, dats, potJ, setJ, pputT, Tr.bind, Tr.run, Tr.of, cmpT, cmpD, gtD, binT, binD, modD, fdivD, bifT, intD, truT, truD, setT, endT, freeze, ho, h1, hc]
def primes : List Int := [2147483647, 2147483629, 2147483587, 2147483579, 2147483563]
theorem prime_at (c : Int) : ∃ q, atI ([D.int 2147483647, .int 2147483629, .int 2147483587, .int 2147483579, .int 2147483563]) (c % 5) = some (.int q) ∧ primes.getD (c % 5).toNat 1 = q ∧ 0 < q ∧ q < 2147483648 := by
  have h : c % 5 = 0 ∨ c % 5 = 1 ∨ c % 5 = 2 ∨ c % 5 = 3 ∨ c % 5 = 4 := by omega
  rcases h with h | h | h | h | h <;> rw [h] <;> exact ⟨_, rfl, rfl, by decide, by decide⟩
theorem take_run2 (G : Gs) (n : Int) (p : Pot) (hp : potB p = true) (h1 : 0 < n) (h2 : n < 2 ^ 30) (ho : ¬ 0 < p.o) : (runT G 5 takeIR [.pot, .int n]).run p = some (.int (mixP p % n), { p with c := p.c + 1 }) := by
  simp only [potB, decide_eq_true_eq] at hp
  obtain ⟨b1, b2, b3, b4, b5, b6⟩ := hp
  obtain ⟨q, q1, q2, q3, q4⟩ := prime_at (p.c + 1)
  have hs : (5 : Nat) ≤ sizeLine := by decide
  have m1 : CMul 99989 (p.c + 1) := .inl (by decide)
  have m2 : CMul (99989 * (p.c + 1)) (p.c + 1) := .inr ⟨by omega, by omega⟩
  have m4 : CMul 91 (p.c + 1) := .inl (by decide)
  have big : Builtin.Int.intBits (p.m + 99989 * (p.c + 1) * (p.c + 1) + 61) ≤ 81 := by
    have e1 : 99989 * (p.c + 1) * (p.c + 1) ≤ 99989 * 2 ^ 30 * 2 ^ 30 := Int.mul_le_mul (by omega) (by omega) (by omega) (by omega)
    have e2 : 0 ≤ 99989 * (p.c + 1) * (p.c + 1) := Int.mul_nonneg (by omega) (by omega)
    unfold Builtin.Int.intBits
    split
    · omega
    · have : (p.m + 99989 * (p.c + 1) * (p.c + 1) + 61).natAbs < 2 ^ 80 := by omega
      have := (Nat.log2_lt (by omega)).mpr this
      omega
  have pw : (Builtin.Int.intBits (p.m + 99989 * (p.c + 1) * (p.c + 1) + 61) : Int) * 3 ≤ 134217728 := by omega
  generalize hx : ((p.m + 99989 * (p.c + 1) * (p.c + 1) + 61) ^ 3) % q = x
  have x1 : 0 ≤ x := by rw [← hx]; exact Int.emod_nonneg _ (by omega)
  have x2 : x < q := by rw [← hx]; exact Int.emod_lt_of_pos _ q3
  have m3 : CMul x (x % 10009 + 91 * (p.c + 1)) := .inl ⟨by omega, by omega⟩
  have dv : CDiv (x * (x % 10009 + 91 * (p.c + 1)) % 2305843009213693907) 107 := ⟨by decide, by decide⟩
  have hmix : mixP p = (x * (x % 10009 + 91 * (p.c + 1)) % 2305843009213693907) / 107 := by
    unfold mixP
    dsimp only
    rw [show ([2147483647, 2147483629, 2147483587, 2147483579, 2147483563] : List Int).getD ((p.c + 1) % 5).toNat 1 = q from q2, hx]
  rw [hmix]
  simp [runT, takeIR, sss, ss, em, ems, emT, emX, mVar, mPix, env0, dats, potJ, setJ, pputT, Tr.bind, Tr.run, Tr.of, cmpT, cmpD, gtD, binT, binD, modD, fdivD, addD, mulD, powD, bifT, intD, truT, truD, setT, endT, freeze, ho, h1, ixD, optT, hs, q1, q3, m1, m2, m3, m4, pw, hx, dv]
end Rc

-- Rd21
set_option Elab.async false
set_option linter.all false
set_option maxRecDepth 100000
set_option maxHeartbeats 4000000
namespace Rc
open PySem PySem.Spec PyProof.Rows L2

/-! ### _law_take as a question -/
def takeT : TrD
  | [.pot, .int n] => .ask n fun i => .ret (.int i)
  | _ => .fail
theorem take_one {G : Gs} {ds : List D} {p p' : Pot} {d : D} (h : Tr.runs takeT ds p = some (d, p')) : Tr.runs (runT G 5 takeIR) ds p = some (d, p') := by
  unfold Tr.runs at h ⊢
  unfold takeT at h
  split at h
  · rename_i n
    have h' : (takeP p n).bind (fun r => some (D.int r.1, r.2)) = some (d, p') := h
    obtain ⟨r, h1, h2⟩ := Option.bind_eq_some_iff.mp h'
    unfold takeP at h1
    split at h1
    · rename_i c
      obtain ⟨c1, c2, c3⟩ := c
      split at h1
      · rename_i ho
        cases h1
        cases h2
        exact take_run1 G n p c2 c3 ho
      · rename_i ho
        cases h1
        cases h2
        exact take_run2 G n p c1 c2 c3 ho
    · cases h1
  · cases h
theorem take_fnk {T : Th} {G : Gs} {x : Str} {a : Addr} {fd : FuncData} {ps : List Str} (ok : GOk T 0 G) (hm : T.mg x = some (.ref a)) (t : Txt T ⟨2, [], 5, takeIR⟩ 2 a fd ps) : FnK T 4 x ⟨2, [], takeT⟩ := by
  obtain ⟨x', qual, params, body, scope, dvs, kws, N, F, S, hc, hN⟩ := t.ex
  refine ⟨a, fd, ps, t.len, hm, F.kp, t.bn, ?_⟩
  have h := fg_D ok F S hc (fun q hq => by rw [show slfSs takeIR = [] by decide +kernel] at hq; cases hq)
  rw [t.len, show N.length = 5 from hN] at h
  exact h.imp fun vs H Q E ⟨pa, M, p, ds, d, p', h1, h2, h3, h4, h5, h6⟩ => ⟨pa, M, p, ds, d, p', h1, h2, h3, h4, take_one h5, h6⟩
end Rc

-- Rd22
set_option Elab.async false
set_option linter.all false
set_option maxRecDepth 100000
set_option maxHeartbeats 4000000
namespace Rc
open PySem PySem.Spec PyProof.Rows L2

/-! ### _law_pot: a new pot -/
def potA : List IS := [.asg (.name 2) (.ite (.cmp .Lt (.var 1) (.bi .len [(.var 0)])) (.ix (.var 0) (.var 1)) (.bin .Add (.bin .Mult (.con (.int (43))) (.var 1)) (.con (.int (19))))),
  .asg (.name 3) (.bin .Mult (.bin .Mod (.bi .int [(.bi .abs [(.var 2)])]) (.bin .Pow (.bin .Pow (.con (.int (10))) (.con (.int (60)))) (.con (.int (5))))) (.bi .int [(.cmp .GtE (.bi .abs [(.var 2)]) (.bin .Pow (.con (.int (10))) (.con (.int (18)))))])),
  .asg (.name 4) (.bin .Mod (.bi .int [(.var 2)]) (.con (.int (2305843009213693951)))),
  .asg (.name 5) (.bin .Mod (.bi .int [(.bin .Add (.bin .Add (.bin .Mult (.var 4) (.con (.int (70663)))) (.bin .Mult (.bin .Mult (.con (.int (6421))) (.var 1)) (.var 1))) (.con (.int (83))))]) (.con (.int (2305843009213693921))))]
def potE : List IX := [.one (.var 3), .one (.var 5), .one (.con (.int (0)))]
def potIR : List IS := potA ++ [.ret (.lst potE)]
def cellOf (ns : List Int) (k : Nat) : Int := if h : k < ns.length then ns[k] else 43 * k + 19
def bigI : Int := (10 ^ 60) ^ 5
theorem bigI_pos : 0 < bigI := by decide +kernel
theorem bigI_le : bigI ≤ 10 ^ 300 := by decide +kernel
theorem pow60 : powD (.int 10) (.int 60) = some (.int 1000000000000000000000000000000000000000000000000000000000000) := by unfold powD; exact if_pos ⟨by decide, by decide +kernel⟩
theorem pow300 : powD (.int 1000000000000000000000000000000000000000000000000000000000000) (.int 5) = some (.int bigI) := by unfold powD; exact if_pos ⟨by decide, by decide +kernel⟩
theorem pow18 : powD (.int 10) (.int 18) = some (.int 1000000000000000000) := by unfold powD; exact if_pos ⟨by decide, by decide +kernel⟩
def ownOf (c : Int) : Int := (if c < 0 then -c else c) % bigI * (if 1000000000000000000 ≤ (if c < 0 then -c else c) then 1 else 0)
def mixOf (c k : Int) : Int := (c % 2305843009213693951 * 70663 + 6421 * k * k + 83) % 2305843009213693921
def newP (ns : List Int) (k : Nat) : Pot := ⟨ownOf (cellOf ns k), mixOf (cellOf ns k) k, 0⟩
theorem newP_ok (ns : List Int) (k : Nat) : potB (newP ns k) = true := by
  unfold potB newP ownOf mixOf
  generalize cellOf ns k = c
  generalize (if c < 0 then -c else c) = a
  simp only [decide_eq_true_eq]
  have h1 : 0 ≤ a % bigI := Int.emod_nonneg _ (Int.ne_of_gt bigI_pos)
  have h2 : a % bigI < 10 ^ 300 := Int.lt_of_lt_of_le (Int.emod_lt_of_pos _ bigI_pos) bigI_le
  refine ⟨?_, ?_, Int.emod_nonneg _ (by decide), Int.lt_trans (Int.emod_lt_of_pos _ (by decide)) (by decide), Int.le_refl 0, by decide⟩
  · by_cases q : 1000000000000000000 ≤ a
    · rw [if_pos q, Int.mul_one]; exact h1
    · rw [if_neg q, Int.mul_zero]; exact Int.le_refl 0
  · by_cases q : 1000000000000000000 ≤ a
    · rw [if_pos q, Int.mul_one]; exact h2
    · rw [if_neg q, Int.mul_zero]; exact Int.lt_of_lt_of_le bigI_pos bigI_le
theorem pot_cell (ns : List Int) (k : Nat) (h : k < ns.length) : atI ns (k : Int) = some ns[k] := by
  have e : ixN ns.length (k : Int) = some k := by
    unfold ixN
    simp [h]
  simp [atI, e, h]
theorem pot_e0 (G : Gs) (ns : List Int) (k : Nat) : (em G (.ite (.cmp .Lt (.var 1) (.bi .len [(.var 0)])) (.ix (.var 0) (.var 1)) (.bin .Add (.bin .Mult (.con (.int (43))) (.var 1)) (.con (.int (19))))) (env0 6 [.scr ns, .int k])) = .ret (.int (cellOf ns k)) := by
  have c1 : CMul 43 (k : Int) := .inl (by decide)
  by_cases h : k < ns.length
  · simp [em, ems, emT, mVar, env0, dats, Tr.bind, Tr.of, cmpT, cmpD, ltD, binT, binD, addD, mulD, bifT, lenD, truT, truD, cellOf, h, ixD, pot_cell]
  · simp [em, ems, emT, mVar, env0, dats, Tr.bind, Tr.of, cmpT, cmpD, ltD, binT, binD, addD, mulD, bifT, lenD, truT, truD, cellOf, h, ixD, c1]
theorem pot_big (G : Gs) (env : Env) : em G (.bin .Pow (.bin .Pow (.con (.int (10))) (.con (.int (60)))) (.con (.int (5)))) env = .ret (.int bigI) := by
  simp only [em, Tr.bind, binT, binD, pow60, pow300, Tr.of]
theorem pot_18 (G : Gs) (env : Env) : em G (.bin .Pow (.con (.int (10))) (.con (.int (18)))) env = .ret (.int 1000000000000000000) := by
  simp only [em, Tr.bind, binT, binD, pow18, Tr.of]
theorem em_bin (G : Gs) (env : Env) (op : Operator) (a b : IE) : em G (.bin op a b) env = (em G a env).bind fun x => (em G b env).bind fun y => binT G op x y := by rw [em]
theorem em_cmp (G : Gs) (env : Env) (op : CmpOp) (a b : IE) : em G (.cmp op a b) env = (em G a env).bind fun x => (em G b env).bind fun y => cmpT G op x y := by rw [em]
theorem em_bi1 (G : Gs) (env : Env) (f : Bif) (a : IE) (d : D) (h : em G a env = .ret d) : em G (.bi f [a]) env = bifT G f [d] := by rw [em, ems, ems]; simp only [h, Tr.bind]
theorem pot_abs (G : Gs) (env : Env) (c : Int) (h : em G (.var 2) env = .ret (.int c)) : em G (.bi .abs [(.var 2)]) env = .ret (.int (if c < 0 then -c else c)) := by
  rw [em_bi1 G env _ _ _ h]; rfl
theorem pot_e1 (G : Gs) (env : Env) (c : Int) (h : em G (.var 2) env = .ret (.int c)) : em G (.bin .Mult (.bin .Mod (.bi .int [(.bi .abs [(.var 2)])]) (.bin .Pow (.bin .Pow (.con (.int (10))) (.con (.int (60)))) (.con (.int (5))))) (.bi .int [(.cmp .GtE (.bi .abs [(.var 2)]) (.bin .Pow (.con (.int (10))) (.con (.int (18)))))])) env = .ret (.int (ownOf c)) := by
  have c7 : ∀ x a : Int, CMul x (if 1000000000000000000 ≤ a then 1 else 0) := fun x a => .inr (by split <;> decide)
  have a1 := pot_abs G env c h
  have e1 : em G (.bi .int [(.bi .abs [(.var 2)])]) env = .ret (.int (if c < 0 then -c else c)) := by rw [em_bi1 G env _ _ _ a1]; rfl
  unfold ownOf
  generalize (if c < 0 then -c else c) = a at a1 e1 ⊢
  have e2 : em G (.cmp .GtE (.bi .abs [(.var 2)]) (.bin .Pow (.con (.int (10))) (.con (.int (18))))) env = .ret (.bl (decide (1000000000000000000 ≤ a))) := by
    rw [em_cmp, a1, pot_18]; rfl
  have e3 : em G (.bi .int [(.cmp .GtE (.bi .abs [(.var 2)]) (.bin .Pow (.con (.int (10))) (.con (.int (18)))))]) env = .ret (.int (if 1000000000000000000 ≤ a then 1 else 0)) := by
    rw [em_bi1 G env _ _ _ e2]
    simp only [bifT, intD, Tr.of, decide_eq_true_eq]
  rw [em_bin, em_bin, e1, e3, pot_big]
  simp only [Tr.bind, binT, binD, modD, mulD, if_pos bigI_pos, Tr.of, if_pos (c7 _ _)]
theorem modD_pos (i j : Int) (h : 0 < j) : modD (.int i) (.int j) = some (.int (i % j)) := by unfold modD; exact if_pos h
theorem mulD_ok (i j : Int) (h : CMul i j) : mulD (.int i) (.int j) = some (.int (i * j)) := by unfold mulD; exact if_pos h
theorem pot_e2 (G : Gs) (env : Env) (c : Int) (h : em G (.var 2) env = .ret (.int c)) : em G (.bin .Mod (.bi .int [(.var 2)]) (.con (.int (2305843009213693951)))) env = .ret (.int (c % 2305843009213693951)) := by
  have e1 : em G (.bi .int [(.var 2)]) env = .ret (.int c) := by rw [em_bi1 G env _ _ _ h]; rfl
  rw [em_bin, e1]
  simp only [em, Tr.bind, binT, binD, modD_pos c 2305843009213693951 (by decide), Tr.of]
theorem pot_c2 (k : Int) : CMul 6421 k := .inl (by decide)
theorem pot_c3 (k : Int) (h0 : 0 ≤ k) (hk : k < 1000) : CMul (6421 * k) k := by
  refine .inl ⟨?_, ?_⟩
  · exact Int.lt_of_lt_of_le (by decide) (Int.mul_nonneg (by decide) h0)
  · exact Int.lt_of_le_of_lt (Int.mul_le_mul_of_nonneg_left (Int.le_of_lt hk) (by decide)) (by decide)
theorem pot_c4 (c : Int) : CMul c 70663 := .inr (by decide)
theorem pot_e3 (G : Gs) (env : Env) (c k : Int) (h0 : 0 ≤ k) (hk : k < 1000) (h1 : em G (.var 1) env = .ret (.int k)) (h4 : em G (.var 4) env = .ret (.int c)) : em G (.bin .Mod (.bi .int [(.bin .Add (.bin .Add (.bin .Mult (.var 4) (.con (.int (70663)))) (.bin .Mult (.bin .Mult (.con (.int (6421))) (.var 1)) (.var 1))) (.con (.int (83))))]) (.con (.int (2305843009213693921)))) env = .ret (.int ((c * 70663 + 6421 * k * k + 83) % 2305843009213693921)) := by
  have c2 := pot_c2 k
  have c3 := pot_c3 k h0 hk
  have c4 := pot_c4 c
  have e1 : em G (.bin .Add (.bin .Add (.bin .Mult (.var 4) (.con (.int (70663)))) (.bin .Mult (.bin .Mult (.con (.int (6421))) (.var 1)) (.var 1))) (.con (.int (83)))) env = .ret (.int (c * 70663 + 6421 * k * k + 83)) := by
    rw [em_bin, em_bin, em_bin, em_bin, em_bin, h1, h4]
    simp only [em, Tr.bind, binT, binD, mulD_ok _ _ c2, mulD_ok _ _ c3, mulD_ok _ _ c4, addD, Tr.of]
  have e2 : em G (.bi .int [(.bin .Add (.bin .Add (.bin .Mult (.var 4) (.con (.int (70663)))) (.bin .Mult (.bin .Mult (.con (.int (6421))) (.var 1)) (.var 1))) (.con (.int (83))))]) env = .ret (.int (c * 70663 + 6421 * k * k + 83)) := by
    rw [em_bi1 G env _ _ _ e1]; simp only [bifT, intD, Tr.of]
  clear e1 h1 h4
  generalize c * 70663 + 6421 * k * k + 83 = z at e2 ⊢
  rw [em_bin, e2]
  simp only [em, Tr.bind, binT, binD, modD_pos z 2305843009213693921 (by decide), Tr.of]
theorem pot_run (G : Gs) (ns : List Int) (k : Nat) (hk : k < 1000) (p : Pot) : (sss G potA (env0 6 [.scr ns, .int k])).run p = some (.nx [some (.dat (.scr ns)), some (.dat (.int k)), some (.dat (.int (cellOf ns k))), some (.dat (.int (ownOf (cellOf ns k)))), some (.dat (.int (cellOf ns k % 2305843009213693951))), some (.dat (.int (mixOf (cellOf ns k) k)))], p) := by
  unfold potA sss
  simp only [ss]
  rw [pot_e0]
  generalize cellOf ns k = c
  have k0 : (0 : Int) ≤ k := Int.natCast_nonneg k
  have k1 : (k : Int) < 1000 := by omega
  generalize (k : Int) = k at k0 k1 ⊢
  have e1 := pot_e1 G [some (.dat (.scr ns)), some (.dat (.int k)), some (.dat (.int c)), none, none, none] c rfl
  simp only [env0, dats, List.map_cons, List.map_nil, List.cons_append, List.nil_append, List.length_cons, List.length_nil, Nat.reduceAdd, Nat.reduceSub, List.replicate, setT, Tr.bind, Tr.of, List.length_cons, List.set_cons_succ, List.set_cons_zero]
  unfold sss
  simp only [ss]
  rw [e1]
  clear e1
  have e2 := pot_e2 G [some (.dat (.scr ns)), some (.dat (.int k)), some (.dat (.int c)), some (.dat (.int (ownOf c))), none, none] c rfl
  generalize ownOf c = o at e2 ⊢
  simp only [setT, Tr.bind, Tr.of, List.length_cons, List.set_cons_succ, List.set_cons_zero]
  unfold sss
  simp only [ss]
  rw [e2]
  clear e2
  unfold mixOf
  generalize c % 2305843009213693951 = c'
  simp only [setT, Tr.bind, Tr.of, List.length_cons, List.set_cons_succ, List.set_cons_zero]
  unfold sss
  simp only [ss]
  rw [pot_e3 G _ c' k k0 k1 rfl rfl]
  simp only [setT, Tr.bind, Tr.of, List.length_cons, List.set_cons_succ, List.set_cons_zero]
  rfl
end Rc

-- Rd23
set_option Elab.async false
set_option linter.all false
set_option maxRecDepth 100000
set_option maxHeartbeats 4000000
namespace Rc
open PySem PySem.Spec PyProof.Rows L2

/-! ### statements by their IR, then others -/
def noFrz : IS → Bool
  | .frz _ => false
  | _ => true
theorem chkSs_cons {N : List Str} {sc : Scope} {s : IS} {r : List IS} {sts : List Stmt} (hs : noFrz s = true) (h : chkSs N sc (s :: r) sts = true) : ∃ st rest, sts = st :: rest ∧ chkS N sc s st = true ∧ chkSs N sc r rest = true := by
  cases sts with
  | nil => cases s <;> first | cases h | cases hs
  | cons st rest =>
    have h' : chkS N sc s st = true ∧ chkSs N sc r rest = true := by
      cases s <;> first | exact Bool.and_eq_true_iff.mp h | cases hs
    exact ⟨st, rest, rfl, h'⟩
theorem chkSs_app {N : List Str} {sc : Scope} : ∀ {r r' : List IS} {sts : List Stmt}, r.all noFrz = true → chkSs N sc (r ++ r') sts = true → ∃ a b, sts = a ++ b ∧ chkSs N sc r a = true ∧ chkSs N sc r' b = true
  | [], r', sts, _, h => ⟨[], sts, rfl, by simp [chkSs], h⟩
  | s :: r, r', sts, hf, h => by
    have hf' : noFrz s = true ∧ r.all noFrz = true := by simpa using hf
    obtain ⟨st, rest, rfl, h1, h2⟩ := chkSs_cons hf'.1 h
    obtain ⟨a, b, rfl, h3, h4⟩ := chkSs_app hf'.2 h2
    refine ⟨st :: a, b, rfl, ?_, h4⟩
    cases s <;> first | (exact Bool.and_eq_true_iff.mpr ⟨h1, h3⟩) | cases hf'.1
def tThen (K : PySem.W.Frag) (pa : Option Addr) (M0 : Ms) (H0 : Hp) (f : Env → Tr Fw) (u : TS) : TS := fun E σ H => ∃ M env p env' p', StOk K pa M0 H0 M H σ env p ∧ (f env).run p = some (.nx env', p') ∧
  ∀ σ' H' M', StOk K pa M0 H0 M' H' σ' env' p' → Up M H M' H' → u E σ' H'
section
variable {T : Th} {k : Nat} {G : Gs} {pa : Option Addr} {M0 : Ms} {H0 : Hp} {u : TS}
theorem then_nil {X : Cx} {b : List Stmt} (hu : PSs X b u) : PSs X b (tThen X.K pa M0 H0 (sss G []) u) := by
  refine PSs.weak hu fun E σ H h => ?_
  obtain ⟨M, env, p, env', p', s, e, q⟩ := h
  simp only [sss, Tr.run] at e
  cases e
  exact q σ H M s Up.refl
theorem then_cons {X : Cx} {st : Stmt} {b : List Stmt} {s : IS} {r : List IS} (hs : PX X pa M0 H0 st (rs (ss G s))) (hu : PSs X b (tThen X.K pa M0 H0 (sss G r) u)) : PSs X (st :: b) (tThen X.K pa M0 H0 (sss G (s :: r)) u) := by
  refine PSs.weak (pss_cons hs hu) fun E σ H h => ?_
  obtain ⟨M, env, p, env', p', so, e, q⟩ := h
  simp only [sss] at e
  obtain ⟨w, p1, e1, e2⟩ := Tr.bind_some e
  refine ⟨M, env, p, w.fl p1, so, by simp only [rs, e1]; rfl, ?_⟩
  cases w with
  | nx env1 => exact fun σ' H' M' s' u' => ⟨M', env1, p1, env', p', s', e2, fun σ2 H2 M2 s2 u2 => q σ2 H2 M2 s2 (u'.trans u2)⟩
  | rt d => cases e2
  | bk _ => cases e2
  | ct _ => cases e2
theorem sndThen (ok : GOk T k G) {N : List Str} {sc : Scope} {X : Cx} (J : InF T (k + 3) N sc X) {b : List Stmt} (hu : PSs X b u) : ∀ (r : List IS) (a : List Stmt), r.all noFrz = true → chkSs N sc r a = true → Fl0 G (slfSs r) → PSs X (a ++ b) (tThen X.K pa M0 H0 (sss G r) u) := by
  intro r
  induction r with
  | nil =>
    intro a _ h _
    obtain rfl : a = [] := List.isEmpty_iff.mp h
    exact then_nil hu
  | cons s r ih =>
    intro a hf h hn
    have hf' : noFrz s = true ∧ r.all noFrz = true := by simpa using hf
    obtain ⟨st, rest, rfl, h1, h2⟩ := chkSs_cons hf'.1 h
    exact then_cons (sndS ok s J h1 hn.l) (ih rest hf'.2 h2 hn.r)

/-! ### _law_pot -/
/-- a new list: the pot of the k-th cell -/
def spP (K : PySem.W.Frag) : Sp := fun vs H Q _ => ∃ ns k sa, vs = [.ref sa, .int (k : Nat)] ∧ k < 1000 ∧ ScrAt K (fun _ => False) H sa (ns.map V.int) ∧
  ∀ a H', H a = none → Ext none H H' → H' a = some (.lst [.int (newP ns k).o, .int (newP ns k).m, .int (newP ns k).c]) → Q (.ref a) H'
theorem fg_pot {x qual : Str} {params : Arguments} {body : List Stmt} {scope : Scope} {dvs : List V} {kws : List (Str × V)} {f : Addr} {fd : FuncData} {N ps : List Str} (ok : GOk T k G) (F : FunD T.K x qual params body scope dvs kws f fd) (S : FnScope N ps scope) (hN : N.length = 6) (hp : ps.length = 2) (hc : chkSs N scope potIR body = true) : FG T.P T.w T.K T.mg T.base (k + 4) f fd ps (spP T.K) := by
  refine fg_of F S (fun vs H Q ⟨ns, k, sa, e, _⟩ => by rw [e, hp]; rfl) fun X h1 h2 h3 h4 h5 h6 h7 h8 h9 h10 h11 vs H Q hsp => ?_
  have J := inF_of h1 h2 h3 h4 h5 h6 h7 h8 h9 h10 h11 S.nd S.kind
  obtain ⟨a, b, rfl, c1, c2⟩ := chkSs_app (by decide) hc
  obtain ⟨st, rest, rfl, c3, c4⟩ := chkSs_cons rfl c2
  obtain rfl : rest = [] := List.isEmpty_iff.mp c4
  obtain ⟨o, pos, rfl, w1⟩ := onRet_inv (by exact c3)
  cases o with
  | none => cases w1
  | some e =>
    obtain ⟨es, lp, rfl, w3⟩ := onLst_inv (by exact w1)
    have n0 : Fl0 G (slfSs potA) := fun q hq => by rw [show slfSs potA = [] by decide +kernel] at hq; cases hq
    have n1 : Fl0 G (slfX potE) := fun q hq => by rw [show slfX potE = [] by decide +kernel] at hq; cases hq
    refine ⟨_, sndThen ok (pa := none) (M0 := fun _ => False) (H0 := H) J (pss_one (ps_ret (pf_lst (sndX ok potE J.I w3 n1)))) potA a (by decide) c1 n0, ?_⟩
    obtain ⟨ns, j, sa, rfl, hj, hs, kk⟩ := hsp
    rw [h3]
    have hR : Reps T.K none (fun _ => False) H [.scr ns, .int (j : Nat)] [.ref sa, .int (j : Nat)] := ⟨_, _, rfl, ⟨sa, rfl, hs⟩, _, _, rfl, rfl, rfl⟩
    have E0 : EnvOk T.K none (fun _ => False) H (L2.start N [.ref sa, .int (j : Nat)]) (env0 6 [.scr ns, .int (j : Nat)]) := by
      rw [← hN]
      exact env0_ok (by simp [hN]) hR (fun _ z => z.elim)
    refine ⟨fun _ => False, _, ⟨0, 0, 0⟩, _, _, ⟨E0, fun a z => (by cases z), fun a z => (by cases z), fun _ z => z, Ext.refl, fun i e a q o => ?_⟩, pot_run G ns j hj _, fun σ' H' M' s' u' => ?_⟩
    · obtain ⟨d, _, rfl⟩ := dats_some q
      cases o
    · refine ⟨none, M', _, _, _, _, s'.en, s'.pot, (show evLstA (rn (emX G potE)) _ _ = some ([.int (newP ns j).o, .int (newP ns j).m, .int (newP ns j).c], _) by rfl), fun a xs H2 x2 k2 ha hx r => ?_⟩
      refine kk a H2 ?_ (s'.old.trans x2) ?_
      · exact s'.new0 ha
      · rw [hx]
        obtain ⟨v1, r1, rfl, rfl, v2, r2, rfl, rfl, v3, r3, rfl, rfl, h⟩ := r
        cases h
        rfl
end
end Rc

-- Rd24
set_option Elab.async false
set_option linter.all false
set_option maxRecDepth 100000
set_option maxHeartbeats 1000000
namespace Rc
open PySem PySem.Spec PyProof.Rows L2

/-! ### the law itself: a new pot at each turn -/
abbrev M00 : Ms := fun _ => False
def spL (K : PySem.W.Frag) : Sp := fun vs H Q _ => ∃ (ns : List Int) (sa : Addr), vs = [.ref sa] ∧ ns.length ≤ 63 ∧ ScrAt K M00 H sa (ns.map V.int) ∧ ∀ H', Q (.bl true) H'
theorem env0_set {m : Nat} {ds : List D} (d : D) (h : ds.length < m) : (env0 m ds).set ds.length (some (.dat d)) = env0 m (ds ++ [d]) := by
  unfold env0 dats
  obtain ⟨r, hr⟩ : ∃ r, m - ds.length = r + 1 := ⟨m - ds.length - 1, by omega⟩
  have e2 : m - (ds ++ [d]).length = r := by simp; omega
  rw [hr, e2, List.replicate_succ, List.map_append, List.set_append_right _ _ (by simp)]
  simp
section
variable {K : PySem.W.Frag} {pa : Option Addr} {M : Ms} {H : Hp}
mutual
theorem RepPa : ∀ {d : D} {v : V}, Rep K none M H d v → Rep K pa M H d v
  | .non, _, h => h
  | .bl _, _, h => h
  | .int _, _, h => h
  | .str _, _, h => h
  | .tup ds, _, ⟨a, xs, e, t, r⟩ => ⟨a, xs, e, t, RepsPa r⟩
  | .lst ds, _, ⟨a, xs, e, t, r⟩ => ⟨a, xs, e, t, RepsPa r⟩
  | .dic kvs, _, ⟨a, ws, e, t, r⟩ => ⟨a, ws, e, t, RepKPa r⟩
  | .obj c fs, _, ⟨a, dx, ws, e, t, r⟩ => ⟨a, dx, ws, e, t, RepFPa r⟩
  | .cls _, _, h => h
  | .ty _, _, h => h
  | .pot, _, ⟨a, h, _⟩ => by cases h
  | .scr _, _, h => h
theorem RepsPa : ∀ {ds : List D} {vs : List V}, Reps K none M H ds vs → Reps K pa M H ds vs
  | [], _, h => h
  | _ :: _, _, ⟨v, r, e, h1, h2⟩ => ⟨v, r, e, RepPa h1, RepsPa h2⟩
theorem RepFPa : ∀ {ds : List (Str × D)} {vs : List (Str × V)}, RepF K none M H ds vs → RepF K pa M H ds vs
  | [], _, h => h
  | _ :: _, _, ⟨v, r, e, h1, h2⟩ => ⟨v, r, e, RepPa h1, RepFPa h2⟩
theorem RepKPa : ∀ {ds : List (L2.Key × D)} {vs : List (L2.Key × V)}, RepK K none M H ds vs → RepK K pa M H ds vs
  | [], _, h => h
  | _ :: _, _, ⟨v, r, e, h0, h1, h2⟩ => ⟨v, r, e, h0, RepPa h1, RepKPa h2⟩
end
end
section
variable {K : PySem.W.Frag} {pa : Option Addr} {M : Ms} {H : Hp} {σ : L2.St} {env : Env} {ns : List Int} {m : Nat}
theorem pot_none (p : Pot) : PotOk none M H p := fun a z => by cases z
/-- the slots of the script alone -/
theorem back_scr (e : EnvOk K pa M H σ env) (h0 : env[0]? = some (some (.dat (.scr ns)))) (hl : env.length = m) (hm : 0 < m) : EnvOk K none M00 H σ (env0 m [.scr ns]) := by
  refine ⟨fun i ev h => ?_, fun i j ev ev' v h h' o => ?_, fun _ z => z.elim, by rw [← e.len, hl]; simp [env0, dats]; omega⟩
  · obtain ⟨d, h1, rfl⟩ := dats_some h
    cases i with
    | zero =>
      cases h1
      obtain ⟨v, q1, a, rfl, q3⟩ := e.slot 0 _ h0
      refine ⟨_, q1, a, rfl, ?_⟩
      rcases q3 with ⟨_, q⟩ | q
      · exact .inl ⟨fun z => z, q⟩
      · exact .inr q
    | succ i => simp at h1
  · obtain ⟨d, h1, rfl⟩ := dats_some h
    cases o
/-- a new pot is owned -/
theorem own_pot {a : Addr} {ds : List D} (e : EnvOk K none M00 H σ (env0 m ds)) {H' : Hp} (ha : H a = none) (x : Ext none H H') (ha' : (H' a).isSome = true) : EnvOk K (some a) (fun b => b = a) H' σ (env0 m ds) := by
  refine ⟨fun i ev h => ?_, fun i j ev ev' v h h' o => ?_, fun b z => by rw [z]; exact ha', e.len⟩
  · obtain ⟨d, h1, rfl⟩ := dats_some h
    obtain ⟨v, q1, q2⟩ := e.slot i _ h
    refine ⟨v, q1, ?_⟩
    have u : Up M00 H (fun b => b = a) H' := fun b o _ hb => ⟨fun z => (by rw [z, ha] at hb; cases hb), x b o (by simp) hb⟩
    exact RepPa (Rep.up u q2)
  · obtain ⟨d, h1, rfl⟩ := dats_some h
    cases o
end
section
variable {T : Th} {k : Nat} {G : Gs} {X : Cx} {m : Nat}
structure PotDef (T : Th) (k : Nat) : Prop where
  ex : ∃ (a : Addr) (fd : FuncData) (ps : List Str), T.mg "_law_pot" = some (.ref a) ∧ PySem.W.keepIn T.K (.ref a) = true ∧ Binds T.K fd ps [] ∧ FG T.P T.w T.K T.mg T.base k a fd ps (spP T.K)
/-- _law_pot(script, k) -/
def tPot (K : PySem.W.Frag) (m : Nat) : TE := fun σ H Q => ∃ (ns : List Int) (j : Nat), j < 1000 ∧ EnvOk K none M00 H σ (env0 m [.scr ns, .int (j : Int)]) ∧
  ∀ a H', H a = none → Ext none H H' → H' a = some (.lst [.int (newP ns j).o, .int (newP ns j).m, .int (newP ns j).c]) → Q (.ref a) H'
theorem pe_pot (ok : GOk T k G) (D : PotDef T (k + 3)) {N : List Str} {sc : Scope} (I : InX T (k + 3) N sc X) (hm : 2 ≤ m) {e : Expr} (h : chk N sc false (.call "_law_pot" [.var 0, .var 1]) e = true) : PE X e (tPot X.K m) := by
  obtain ⟨g, es, pos, rfl, w1⟩ := onCall_inv h
  obtain ⟨x, px, rfl, h2⟩ := onName_inv w1
  simp only [Bool.and_eq_true, decide_eq_true_eq] at h2
  obtain ⟨⟨rfl, h3⟩, h4⟩ := h2
  obtain ⟨g1, g2, _⟩ := gloB_of I h3
  obtain ⟨_, L, hs, h0⟩ := sndL ok [.var 0, .var 1] I h4 (fun q hq => by rw [show slfL [.var 0, .var 1] = [] by decide +kernel] at hq; cases hq)
  obtain ⟨a, fd, ps, hmg, hk, hb, F⟩ := D.ex
  have Fi := I.F
  rw [← Fi.K] at hk hb
  rw [← Fi.mg] at hmg
  rw [← Fi.prog, ← Fi.w, ← Fi.K, ← Fi.mg, ← Fi.base] at F
  refine ⟨fun pins s σ H Q J hq => ?_⟩
  obtain ⟨ns, j, hj, hE, kk⟩ := hq
  refine wpAny_Call_Name_kw (ld_glob J g1 hmg ?_ g2)
  cases es with
  | nil => cases h4
  | cons e es =>
    have hs' : notStar e = true ∧ es.all notStar = true := by simpa using hs
    have ev : rn (ems G [.var 0, .var 1]) (env0 m [.scr ns, .int (j : Int)]) ⟨0, 0, 0⟩ = some ([.scr ns, .int (j : Int)], ⟨0, 0, 0⟩) := by
      obtain ⟨r, rfl⟩ : ∃ r, m = r + 2 := ⟨m - 2, by omega⟩
      simp [rn, ems, em, mVar, env0, dats, Tr.bind, Tr.run]
    refine PySem.W.callWith_K (h₀ := X.base) J.ok.mod.kin hk (thn ((L rfl).run pos pins s σ H (fun vs H1 => spP X.K vs H1 Q E0) J ⟨none, M00, _, ⟨0, 0, 0⟩, _, _, hE, pot_none _, ev, fun vs H1 x1 k1 r1 => ?_⟩) fun us s1 hv => ?_) (star_of hs'.1 es X.env) (plain_of hs'.2 pos X.env)
    · obtain ⟨v, r, rfl, ⟨sa, rfl, hsc⟩, v2, r2, rfl, rfl, h⟩ := r1
      cases h
      refine ⟨ns, j, sa, rfl, hj, hsc, fun b H' hb2 x2 hp => kk b H' ?_ (x1.trans x2) hp⟩
      cases e1 : H b with
      | none => rfl
      | some o => rw [x1 b o (by simp) e1] at hb2; cases hb2
    · obtain ⟨vs, H1, I1, r, q⟩ := hv
      refine ⟨I1.kIn, ?_⟩
      exact fg_call (ds := []) (dvs := []) F Fi.rm hb .nil I1 r (by rw [List.append_nil]; exact q)
end
end Rc

-- Rd25
set_option Elab.async false
set_option linter.all false
set_option maxRecDepth 100000
set_option maxHeartbeats 1000000
namespace Rc
open PySem PySem.Spec PyProof.Rows L2

section
variable {T : Th} {k : Nat} {G : Gs}
/-- what a law of this shape must keep, in plain terms -/
structure LawA (G : Gs) (m : Nat) (it : II) (R TL : List IS) : Prop where
  it : ∀ ns : List Int, ns.length ≤ 63 → ∃ n : Nat, n ≤ 1000 ∧ emI G it (env0 m [.scr ns]) = .ret ((List.range n).map fun (i : Nat) => D.int i)
  turn : ∀ (ns : List Int) (j : Nat), ns.length ≤ 63 → j < 1000 → ∃ env' p', (sss G R (env0 m [.scr ns, .int (j : Int), .pot])).run (newP ns j) = some (.nx env', p') ∧ env'[0]? = some (some (.dat (.scr ns))) ∧ env'.length = m
  tail : ∀ ns : List Int, ns.length ≤ 63 → ∃ p', (sss G TL (env0 m [.scr ns])).run ⟨0, 0, 0⟩ = some (.rt (.bl true), p')
def tTurn (K : PySem.W.Frag) (m : Nat) : TS := fun E σ H => ∃ (ns : List Int) (j : Nat), ns.length ≤ 63 ∧ j < 1000 ∧ EnvOk K none M00 H σ (env0 m [.scr ns, .int (j : Int)]) ∧
  ∀ σ' H', EnvOk K none M00 H' σ' (env0 m [.scr ns]) → Ext none H H' → E.nx σ' H'
theorem law_turn {it : II} {R TL : List IS} {N : List Str} {sc : Scope} {X : Cx} {body : List Stmt} (ok : GOk T k G) (D : PotDef T (k + 3)) (J : InF T (k + 3) N sc X) (hm : 3 ≤ N.length) (L : LawA G N.length it R TL) (hn : Fl0 G (slfSs R))
    (h : chkSs N sc (.asg (.name 2) (.call "_law_pot" [.var 0, .var 1]) :: R) body = true) : PSs X body (tTurn X.K N.length) := by
  obtain ⟨st, rest, rfl, h1, h2⟩ := chkSs_cons rfl h
  obtain ⟨tg, e, pos, rfl, w1⟩ := onAsg_inv (by exact h1)
  simp only [Bool.and_eq_true, decide_eq_true_eq] at w1
  obtain ⟨⟨⟨⟨q1, q2⟩, q3⟩, q4⟩, q5⟩ := w1
  have hR : PSs X rest (fun E σ H => ∃ pa M0 H0, tS X.K pa M0 H0 (rs (sss G R)) E σ H) := ⟨fun pins s σ H E I ⟨pa, M0, H0, q⟩ => (sndSs ok R J h2 hn).run pins s σ H E I q⟩
  refine PSs.weak (pss_cons (ps_asg (pe_pot ok D J.I (m := N.length) (by omega) q5) (J.tg q4) (swaps_of2 q1) (J.par q3) (by rw [each_of q2]; rfl)) hR) fun E σ H hq => ?_
  obtain ⟨ns, j, hns, hj, hE, kk⟩ := hq
  refine ⟨ns, j, hj, hE, fun a H1 ha x1 hp => ?_⟩
  have E1 := own_pot hE ha x1 (by rw [hp]; rfl)
  refine ⟨some a, fun b => b = a, _, .pot, env0 N.length [.scr ns, .int (j : Int), .pot], E1, ⟨a, rfl, rfl⟩, ?_, fun σ2 E2 kp ag => ?_⟩
  · show some _ = some _
    exact congrArg some (env0_set (ds := [.scr ns, .int (j : Int)]) .pot (by simp; omega))
  obtain ⟨env', p', r1, r2, r3⟩ := L.turn ns j hns hj
  refine ⟨some a, fun b => b = a, H1, fun b => b = a, _, newP ns j, .nx env' p', ⟨E2, fun b z => ?_, fun b z => ?_, fun _ z => z, Ext.refl, fun i e b q o => ?_⟩, by simp only [rs, r1]; rfl, fun σ3 H3 M3 s3 u3 => ?_⟩
  · cases z; exact ⟨rfl, hp⟩
  · cases z; rfl
  · obtain ⟨d, _, rfl⟩ := dats_some q
    cases o
  · refine kk σ3 H3 (back_scr s3.en r2 r3 (by omega)) fun b o _ hb => ?_
    have hb1 : H1 b = some o := x1 b o (by simp) hb
    exact s3.old b o (fun z => by cases z; rw [ha] at hb; cases hb) hb1
theorem fg_law {it : II} {R TL : List IS} {x qual : Str} {params : Arguments} {body : List Stmt} {scope : Scope} {dvs : List V} {kws : List (Str × V)} {f : Addr} {fd : FuncData} {N ps : List Str} (ok : GOk T k G) (PD0 : PotDef T (k + 3)) (F : FunD T.K x qual params body scope dvs kws f fd) (S : FnScope N ps scope) (hm : 3 ≤ N.length) (hp : ps.length = 1)
    (hc : chkSs N scope (.for (.name 1) it (.asg (.name 2) (.call "_law_pot" [.var 0, .var 1]) :: R) :: TL) body = true) (hi : Fl0 G (slfI it)) (hn : Fl0 G (slfSs R)) (ht : Fl0 G (slfSs TL)) (L : LawA G N.length it R TL) : FG T.P T.w T.K T.mg T.base (k + 4) f fd ps (spL T.K) := by
  refine fg_of F S (fun vs H Q ⟨ns, sa, e, _⟩ => by rw [e, hp]; rfl) fun X h1 h2 h3 h4 h5 h6 h7 h8 h9 h10 h11 vs H Q hsp => ?_
  have J := inF_of h1 h2 h3 h4 h5 h6 h7 h8 h9 h10 h11 S.nd S.kind
  obtain ⟨st, rest, rfl, c1, c2⟩ := chkSs_cons rfl hc
  obtain ⟨tg, iter, lb, pos, rfl, w1⟩ := onFor_inv (by exact c1)
  simp only [Bool.and_eq_true] at w1
  obtain ⟨⟨⟨q1, q2⟩, q3⟩, q4⟩ := w1
  refine ⟨_, pss_cons (ps_for J.po J.I.F.calm (sndI ok it J.I q2 hi) (J.tg q3) (law_turn ok PD0 J hm L hn q4) (folded_of q1 X.env)) (sndSs ok (pa := none) (M0 := M00) (H0 := fun _ => none) TL J c2 ht), ?_⟩
  obtain ⟨ns, sa, rfl, hns, hs, kk⟩ := hsp
  rw [h3]
  have E0 : EnvOk T.K none M00 H (L2.start N [.ref sa]) (env0 N.length [.scr ns]) := env0_ok (by simp; omega) ⟨_, _, rfl, ⟨sa, rfl, hs⟩, rfl⟩ (fun _ z => z.elim)
  obtain ⟨n, hn1, hit⟩ := L.it ns hns
  have ev : rn (emI G it) (env0 N.length [.scr ns]) ⟨0, 0, 0⟩ = some ((List.range n).map fun (i : Nat) => (.int i : D), ⟨0, 0, 0⟩) := by
    simp only [rn, hit]; rfl
  refine ⟨none, M00, _, ⟨0, 0, 0⟩, _, _, E0, pot_none _, ev, fun Jt H1 x1 k1 ⟨Gd, Y, wk, hG, hY⟩ => ?_⟩
  refine for_it wk (fun i σ' H' => EnvOk T.K none M00 H' σ' (env0 N.length [.scr ns]) ∧ Ext none H1 H') ⟨E0.ext x1 (pot_none ⟨0, 0, 0⟩) (pot_none ⟨0, 0, 0⟩), Ext.refl⟩ ?_ ?_ ?_
  · rintro i σ' H' _ ⟨e', u⟩
    exact hG M00 H' (u.up (pot_none ⟨0, 0, 0⟩))
  · rintro i y σ' H' H'' hlt ⟨e', u⟩ hy
    obtain ⟨sm, d, hd, hR⟩ := hY M00 H' i y H'' (u.up (pot_none ⟨0, 0, 0⟩)) e'.dom hlt hy
    have hlt' : i < n := by simpa using hlt
    have hd' : d = .int i := by
      rw [List.getElem?_map, List.getElem?_range hlt'] at hd
      cases hd; rfl
    subst hd'
    have e2 := e'.ext (Ext.same sm) (pot_none ⟨0, 0, 0⟩) (pot_none ⟨0, 0, 0⟩)
    refine ⟨none, M00, _, .int i, env0 N.length [.scr ns, .int (i : Int)], e2, hR, ?_, fun σ2 E2 kp ag => ?_⟩
    · show some _ = some _
      exact congrArg some (env0_set (ds := [.scr ns]) (.int (i : Int)) (by simp; omega))
    · exact ⟨ns, i, hns, by omega, E2, fun σ3 H3 e3 x3 => ⟨e3, (u.trans (Ext.same sm)).trans x3⟩⟩
  · rintro σ' H' ⟨e', u⟩
    obtain ⟨p', r1⟩ := L.tail ns hns
    refine ⟨M00, _, ⟨0, 0, 0⟩, .rt (.bl true) p', ⟨e', pot_none _, fun a z => (by cases z), fun _ z => z, fun a o _ z => (by cases z), fun i e b q o => ?_⟩, by simp only [rs, r1]; rfl, fun v H2 _ _ r => ?_⟩
    · obtain ⟨d, _, rfl⟩ := dats_some q
      cases o
    · cases r
      exact kk H2
end
end Rc

-- Rh1
set_option Elab.async false
set_option linter.all false
set_option maxRecDepth 100000
set_option maxHeartbeats 1000000
namespace Rc
open PySem PySem.Spec PyProof.Rows L2

/-! ### the end: the law's call, by FG -/
theorem rm_caller {k : Nat} (h : Room k callerA) : Rm k callerA := ⟨h, rfl⟩
section
variable {P : Program} {w : World} {K : PySem.W.Frag} {mg mb : Str → Option Value} {s : Shared} {a : Addr} {cells : List Value} {ns : List Int}
abbrev listO (cells : List Value) : Obj := { cls := .type "list", data := .seq cells.toArray }
/-- the heap as it is told to the law: nothing, or the script -/
def hpOf (a : Addr) (cells : List Value) (ns : List Int) (seen : Bool) : Hp := fun b => if seen = true ∧ b = a then some (.frz (listO cells) (.lst (ns.map V.int))) else none
theorem hpOf_some {b : Addr} {u : HO} {seen : Bool} (h : hpOf a cells ns seen b = some u) : b = a ∧ seen = true ∧ u = .frz (listO cells) (.lst (ns.map V.int)) := by
  unfold hpOf at h
  split at h
  · rename_i q; cases h; exact ⟨q.2, q.1, rfl⟩
  · cases h
theorem hpOf_none {b : Addr} {seen : Bool} (h : b ≠ a ∨ seen = false) : hpOf a cells ns seen b = none := if_neg fun z => h.elim (fun q => q z.2) fun q => by rw [q] at z; cases z.1
theorem call_core {seen : Bool} {k : Nat} {fa : Addr} {fd : FuncData} {x : Str} (KX : K.In s.heap) (hns : s.heap.Ns mainGlobals mg) (hb : s.heap.Ns builtinsNs mb) (hbb : ∀ x : Str, x ≠ "__name__" → mb x = bootBuiltins x) (hlim : s.heap.NoLimit) (hg : s.gens = #[])
    (ha : s.heap.get? a = some (listO cells)) (hi : IntsAre cells ns) (hl : ns.length ≤ 63) (hr : Room k callerA) (hK : seen = true → K.lookup a = none) (hS : ScrAt K M00 (hpOf a cells ns seen) a (ns.map V.int))
    (F : ∀ base : Heap, K.In base → base.Ns mainGlobals mg → FG P w K mg base k fa fd [x] (spL K)) (hbind : ∀ (s : Shared) (u : Value), BindsTo s fd ⟨[u], []⟩ [(x, u)]) :
    codeAny (model P w) callerA (.call (.ref fa) ⟨[.ref a], []⟩) (fun r s' => r = .ok (.ret (.bool true)) ∧ OldK s.heap s'.heap ∧ s'.os = s.os ∧ AllBare s'.gens) s := by
  have hz : ns.length ≤ sizeLine := Nat.le_trans hl (by decide)
  let H : Hp := hpOf a cells ns seen
  let B : Heap := hidT s.heap H
  -- what is not the script stands in the base
  have inB : ∀ {b : Addr} {o : Obj}, s.heap.get? b = some o → H b = none → B.get? b = some o := fun e n => hidT_get e n
  have dictOut : ∀ {b : Addr} {o : Obj} {es : Array DictEntry} {n : Nat}, s.heap.get? b = some o → o.data = .dict es n → H b = none := by
    intro b o es n e d
    cases q : H b with
    | none => rfl
    | some u =>
      obtain ⟨eb, _, _⟩ := hpOf_some q
      rw [eb, ha] at e
      cases e
      cases d
  have nsB : ∀ {b : Addr} {m : Str → Option Value}, s.heap.Ns b m → B.Ns b m := by
    rintro b m ⟨o, es, n, e, d, r⟩
    exact ⟨o, es, n, inB e (dictOut e d), d, r⟩
  have kB : K.In B := by
    intro b o e
    refine inB (KX b o e) ?_
    cases q : H b with
    | none => rfl
    | some u =>
      obtain ⟨eb, es, _⟩ := hpOf_some q
      rw [eb, hK es] at e
      cases e
  have limB : B.NoLimit := by
    obtain ⟨mc, h1, h2⟩ := hlim
    exact ⟨mc, nsB h1, h2⟩
  have okH : HOk P w H s.heap := by
    intro b u q
    obtain ⟨rfl, _, rfl⟩ := hpOf_some q
    exact ⟨ha, by rw [List.length_map]; exact hz, cells, _, vals_ints hi, ha⟩
  have env : Env0 P w K mg B callerA [] s H := {
    frames := rfl
    mod := ⟨kB, nsB hns, ⟨mb, nsB hb, hbb⟩, limB⟩
    bs := fun b o e => of_hidT e
    bsz := Nat.le_of_eq (hidT_size _ _)
    funs := trivial
    frf := fun b h => absurd (show b ∈ ([] : List Addr) from h) (by simp)
    hok := okH
    bare := .of_eq hg }
  have sp : spL K [.ref a] H (fun v _ => v = .bl true) E0 := ⟨ns, a, rfl, hl, hS, fun _ => rfl⟩
  refine codeAny_mono ((F B kB (nsB hns)).run callerA [] s H _ [.ref a] [.ref a] _ (rm_caller hr) env (hbind s (.ref a)) (.cons rfl .nil) sp) ?_
  intro r s' hq
  cases r with
  | error e => exact hq.elim
  | ok fl =>
    cases fl with
    | ret u =>
      obtain ⟨v, H', e1, e2, un, ok', rel, ev⟩ := hq
      have ev' : v = .bl true := ev
      rw [ev'] at rel
      have eu : u = .bool true := rel
      refine ⟨by rw [eu], OldK.of_keep ?_, e1, e2⟩
      intro b o e
      cases q : H b with
      | none => exact un.keep b o e q (fun z => absurd (show b ∈ ([] : List Addr) from z) (by simp)) (by simp)
      | some ob =>
        obtain ⟨eb, _, eo⟩ := hpOf_some q
        rw [eo] at q
        have k1 := (okH b _ q).1
        have k2 := (ok' b _ (un.frzs b _ _ q)).1
        rw [e] at k1
        cases k1
        exact k2
    | next => exact hq.elim
    | brk => exact hq.elim
    | cont => exact hq.elim
theorem call_law {k : Nat} {fa : Addr} {fd : FuncData} {x : Str} (KX : K.In s.heap) (hns : s.heap.Ns mainGlobals mg) (hb : s.heap.Ns builtinsNs mb) (hbb : ∀ x : Str, x ≠ "__name__" → mb x = bootBuiltins x) (hlim : s.heap.NoLimit) (hg : s.gens = #[])
    (ha : s.heap.get? a = some (listO cells)) (hi : IntsAre cells ns) (hl : ns.length ≤ 63) (hr : Room k callerA)
    (F : ∀ base : Heap, K.In base → base.Ns mainGlobals mg → FG P w K mg base k fa fd [x] (spL K)) (hbind : ∀ (s : Shared) (u : Value), BindsTo s fd ⟨[u], []⟩ [(x, u)]) :
    codeAny (model P w) callerA (.call (.ref fa) ⟨[.ref a], []⟩) (fun r s' => r = .ok (.ret (.bool true)) ∧ OldK s.heap s'.heap ∧ s'.os = s.os ∧ AllBare s'.gens) s := by
  have hz : ns.length ≤ sizeLine := Nat.le_trans hl (by decide)
  cases e : K.lookup a with
  | none => exact call_core (seen := true) KX hns hb hbb hlim hg ha hi hl hr (fun _ => e) (.inl ⟨fun z => z, .inr ⟨listO cells, if_pos ⟨rfl, rfl⟩⟩⟩) F hbind
  | some o =>
    have e2 : s.heap.get? a = some o := KX a o e
    rw [ha] at e2
    cases e2
    refine call_core (seen := false) KX hns hb hbb hlim hg ha hi hl hr (fun z => by cases z) (.inr ⟨_, cells.toArray, _, e, rfl, rfl, rfl, ?_, ?_⟩) F hbind
    · rw [List.size_toArray, hi.length]; exact hz
    · simpa using vals_ints hi
end
/-- the walk's end: what the head tells gives the law's promise over every base -/
theorem walk_FG {l : PySem.W.OpenLaw} {k : Nat} {q : Program} {loose : List Str} {XP : (Str → Option Value) → Heap → Prop} {YP : World → Heap → Prop} {d : DefRec} {x : Str} (hn : l.most = some 63) (hdf : d.params.defaults = []) (hr : Room k callerA)
    (F : ∀ (w : World) (mg : Str → Option Value) (fa : Addr) (h : Heap), YP w h → h.Ns mainGlobals mg → mg d.name = some (.ref fa) → ∃ (K : PySem.W.Frag) (fd : FuncData), K.In h ∧ (∀ (s : Shared) (u : Value), BindsTo s fd ⟨[u], []⟩ [(x, u)]) ∧
      ∀ base : Heap, K.In base → base.Ns mainGlobals mg → FG l.prog w K mg base k fa fd [x] (spL K)) :
    PySem.W.WalkO q loose XP YP l.row.toRowW d [] (fun f vs => PySem.call f vs) := by
  refine Att.attach_call hn hdf ?_
  intro w s₀ s₁ mg mb fa o pm cd doc a cells ns G Y _ _ _ hmg hobj hints hlen hg
  obtain ⟨K, fd, KX, hb, hF⟩ := F w mg fa _ Y G.T.g hmg
  exact call_law KX G.T.g G.T.b G.T.builtins G.T.nolimit hg hobj hints hlen hr hF hb
end Rc

-- Rh2
set_option Elab.async false
set_option linter.all false
set_option maxRecDepth 100000
set_option maxHeartbeats 4000000
namespace Rc
open PySem PySem.Spec PyProof.Rows L2

/-! ### a Hook of our own: all new objects, laid out once; what is hot stands in front -/
def frK {α : Type} : PySem.W.Frag → (PySem.W.Frag → α) → α
  | [], k => k []
  | (a, ⟨c, d, dt, sl⟩) :: r, k => HandSHeadRun.frNat a fun a => frK r fun r => k ((a, ⟨c, d, dt, sl⟩) :: r)
theorem frK_eq {α : Type} : ∀ (K : PySem.W.Frag) (k : PySem.W.Frag → α), frK K k = k K
  | [], k => rfl
  | (a, ⟨c, d, dt, sl⟩) :: r, k => by
    show HandSHeadRun.frNat a (fun a => frK r fun r => k ((a, ⟨c, d, dt, sl⟩) :: r)) = _
    rw [HandSHeadRun.frNat_eq, frK_eq]
/-- what is looked at: the module's names, new objects -/
def lowA (a : Addr) : Bool := Nat.beq a mainGlobals || Nat.beq a cStatics
def seeG (n0 : Nat) (g : Addr → Option Obj) (a : Addr) : Option Obj := match lowA a || Nat.ble n0 a with
  | true => g a
  | false => none
/-- classes and their names -/
def hotG (n0 : Nat) (g : Addr → Option Obj) (cs : List Str) : List Addr := cs.flatMap fun c => match PySem.W.nsIn (He.frG g [mainGlobals]) mainGlobals c with
  | some (some (.ref a)) => (match g a with
    | some ⟨_, _, .cls cd, _⟩ => [a, cd.ns]
    | _ => [])
  | _ => []
def newAs (n0 n : Nat) (hot : List Addr) : List Addr := mainGlobals :: cStatics :: (hot.filter fun a => Nat.ble n0 a) ++ List.range' n0 (n - n0)
theorem frG_out {g : Addr → Option Obj} {a : Addr} : ∀ {as : List Addr}, a ∉ as → (He.frG g as).lookup a = none
  | [], _ => rfl
  | b :: r, h => by
    have h1 : a ≠ b := fun e => h (by simp [e])
    have ih := frG_out (g := g) (a := a) (as := r) fun z => h (by simp [z])
    unfold He.frG at ih ⊢
    rw [List.filterMap_cons]
    cases e : g b with
    | none => simpa [e] using ih
    | some o =>
      simp only [e, Option.map_some, List.lookup_cons]
      rw [show (a == b) = false by simpa using h1]
      exact ih
theorem frG_mem {g : Addr → Option Obj} {a : Addr} : ∀ {as : List Addr}, a ∈ as → (He.frG g as).lookup a = g a
  | b :: r, h => by
    unfold He.frG
    rw [List.filterMap_cons]
    by_cases e : a = b
    · subst e
      cases q : g a with
      | none =>
        simp only [Option.map_none]
        by_cases z : a ∈ r
        · exact (frG_mem z).trans q
        · exact frG_out z
      | some o => simp
    · have hr : a ∈ r := by simpa [e] using h
      have ih := frG_mem (g := g) hr
      unfold He.frG at ih
      cases q : g b with
      | none => simpa using ih
      | some o =>
        simp only [Option.map_some, List.lookup_cons]
        rw [show (a == b) = false by simpa using e]
        exact ih
theorem see_eq {n0 n : Nat} {g : Addr → Option Obj} {hot : List Addr} (hn : ∀ a, n ≤ a → g a = none) (a : Addr) : (He.frG g (newAs n0 n hot)).lookup a = seeG n0 g a := by
  unfold seeG
  cases e : lowA a || Nat.ble n0 a with
  | true =>
    show _ = g a
    rcases Bool.or_eq_true_iff.mp e with h | h
    · rcases Bool.or_eq_true_iff.mp h with h | h
      · rw [Nat.eq_of_beq_eq_true h]
        exact frG_mem (by simp [newAs])
      · rw [Nat.eq_of_beq_eq_true h]
        exact frG_mem (by simp [newAs])
    · have h1 : n0 ≤ a := Nat.le_of_ble_eq_true h
      rcases Nat.lt_or_ge a n with z | z
      · refine frG_mem ?_
        unfold newAs
        refine List.mem_append_right _ ?_
        refine List.mem_range'_1.mpr ⟨h1, ?_⟩
        have h2 : n0 + (n - n0) = n := by
          have : n0 ≤ n := Nat.le_trans h1 (Nat.le_of_lt z)
          omega
        rw [h2]; exact z
      · rw [hn a z]
        by_cases y : a ∈ newAs n0 n hot
        · exact (frG_mem y).trans (hn a z)
        · exact frG_out y
  | false =>
    show _ = none
    obtain ⟨h1, h2⟩ := Bool.or_eq_false_iff.mp e
    refine frG_out fun z => ?_
    unfold newAs at z
    rcases List.mem_append.mp z with z | z
    · obtain ⟨h3, h4⟩ := Bool.or_eq_false_iff.mp h1
      rcases List.mem_cons.mp z with z | z
      · subst z
        rw [Nat.beq_refl] at h3; cases h3
      rcases List.mem_cons.mp z with z | z
      · subst z
        rw [Nat.beq_refl] at h4; cases h4
      · have := (List.mem_filter.mp z).2
        rw [h2] at this; cases this
    · rw [List.mem_range'_1] at z
      have : Nat.ble n0 a = true := Nat.ble_eq_true_of_le z.1
      rw [h2] at this; cases this

/-! ### a def, by what is looked at -/
def fnA (L : Addr → Option Obj) (a : Addr) : He.FnW := match L a with
  | some ⟨_, _, .func fd, _⟩ => some (fd.name, fd.qualname, fd.params, fd.body, fd.scope, fd.globals, fd.closure, fd.builtins)
  | _ => none
def codeA (L : Addr → Option Obj) (cd : Value) (q : Str) : Bool := match cd with
  | .ref c => (match L c with
      | some ⟨_, _, .fields vs, _⟩ => (match vs.toList with | _ :: .str n _ :: _ => n == q | _ => false)
      | _ => false)
  | _ => false
/-- a default whose address is left open -/
def isWild : V → Bool
  | .ref 0 => true
  | _ => false
def isRefU : Value → Bool
  | .ref _ => true
  | _ => false
def relW : List V → List Value → Bool
  | [], [] => true
  | v :: vs, u :: us => (He.relB v u || (isWild v && isRefU u)) && relW vs us
  | _, _ => false
def WildAll : List V → List V → Prop
  | [], ws => ws = []
  | v :: vs, ws => ∃ w r, ws = w :: r ∧ (v = w ∨ isWild v = true) ∧ WildAll vs r
theorem WildAll.len : ∀ {vs ws : List V}, WildAll vs ws → ws.length = vs.length
  | [], _, h => by cases h; rfl
  | _ :: _, _, ⟨w, r, e, _, h⟩ => by rw [e, List.length_cons, List.length_cons, WildAll.len h]
theorem relW_ok : ∀ {vs : List V} {us : List Value}, relW vs us = true → ∃ ws, WildAll vs ws ∧ Vals ws us
  | [], [], _ => ⟨[], rfl, .nil⟩
  | [], _ :: _, h => by cases h
  | _ :: _, [], h => by cases h
  | v :: vs, u :: us, h => by
    obtain ⟨h1, h2⟩ := He.ba (show ((He.relB v u || (isWild v && isRefU u)) && relW vs us) = true from h)
    obtain ⟨ws, w1, w2⟩ := relW_ok h2
    rcases Bool.or_eq_true_iff.mp h1 with h3 | h3
    · exact ⟨v :: ws, ⟨v, ws, rfl, .inl rfl, w1⟩, .cons (He.relB_ok h3) w2⟩
    · obtain ⟨h4, h5⟩ := He.ba h3
      cases u with
      | ref a => exact ⟨.ref a :: ws, ⟨.ref a, ws, rfl, .inr h4, w1⟩, .cons (show RelV (.ref a) (.ref a) from rfl) w2⟩
      | _ => cases h5
/-- no defaults; or a tuple of them -/
def dflA (L : Addr → Option Obj) (dV : Value) (vs : List V) : Bool := match vs with
  | [] => (match dV with
    | .none => true
    | _ => false)
  | _ :: _ => (match dV with
    | .ref a => (match L a with
      | some ⟨_, _, .seq its _, _⟩ => relW vs its.toList
      | _ => false)
    | _ => false)
/-- where a def stands -/
inductive At where
  | glo (x : Str) | mak (c : Str) | met (c m : Str) | prp (c f : Str) | cme (c m : Str)
def recA (K : PySem.W.Frag) (p : Addr) (t : String) : Addr := match PySem.W.recIn K p t with
  | some (.ref g :: _) => g
  | _ => 0
def At.addr (K : PySem.W.Frag) : At → Addr
  | .glo x => He.ga K x
  | .mak c => He.ma K (He.ga K c) "__init__"
  | .met c m => He.ma K (He.ga K c) m
  | .prp c f => recA K (He.ma K (He.ga K c) f) "property"
  | .cme c m => recA K (He.ma K (He.ga K c) m) "classmethod"
structure DfH where
  at_ : At
  name : Str
  qual : Str
  st : Stmt
  dfl : List V
def DfH.val (d : DfH) : He.FnW := some (d.name, d.qual, defArgs d.st, .stmts (defBody d.st), defScope d.st, mainGlobals, [], builtinsNs)
def okA (L : Addr → Option Obj) (a : Addr) (d : DfH) : Bool := match L a with
  | some ⟨_, _, .func fd, _⟩ => codeA L fd.code d.qual && dflA L fd.defaults d.dfl
  | _ => false
structure Facts where
  hot : List Str
  fa : PySem.W.Frag → Bool
  fn : List DfH
  ts : List He.Tab
abbrev AlH : Type := Bool × List He.FnW × List (Option (List (Option (Str × Int))))
def obsK (F : Facts) (L : Addr → Option Obj) (K : PySem.W.Frag) : AlH := (F.fa K && F.fn.all fun d => HandSHeadRun.frNat (d.at_.addr K) fun a => okA L a d, F.fn.map fun d => HandSHeadRun.frNat (d.at_.addr K) fun a => fnA L a, F.ts.map fun t => He.dicW K (t.1 K))
def valK (F : Facts) (w : World) : AlH := (true, F.fn.map DfH.val, F.ts.map fun t => some (He.keysIn w.params t.2))
def kG (F : Facts) (n0 n : Nat) (g : Addr → Option Obj) : PySem.W.Frag := He.frG g (newAs n0 n (hotG n0 g F.hot))
def obsN (F : Facts) (n0 n : Nat) (g : Addr → Option Obj) : AlH := frK (kG F n0 n g) (obsK F (seeG n0 g))
structure SaysH (F : Facts) (w : World) (K : PySem.W.Frag) : Prop where
  eq : obsK F (fun a => K.lookup a) K = valK F w
def hookH (F : Facts) (n0 : Nat) : PySem.W.Hook where
  α := AlH
  obs := fun s => obsN F n0 s.heap.objs.size s.heap.get?
  val := fun w => valK F w
  says := fun w h => ∃ K : PySem.W.Frag, K.In h ∧ SaysH F w K
  of := fun w s e => ⟨kG F n0 s.heap.objs.size s.heap.get?, He.frG_in, ⟨by
    have e2 : (fun a => (kG F n0 s.heap.objs.size s.heap.get?).lookup a) = seeG n0 s.heap.get? := funext fun a => see_eq (fun a h => by
      cases q : s.heap.get? a with
      | none => rfl
      | some o => exact absurd (Heap.lt_size q) (Nat.not_lt.mpr h)) a
    rw [e2, ← e]
    unfold obsN
    rw [frK_eq]⟩⟩
  keeps := fun _ _ _ ⟨K, hK, c⟩ k => ⟨K, PySem.W.Frag.In.keeps hK k, c⟩
def obH (F : Facts) (n0 : Nat) (s : PySem.W.SharedT) : AlH := obsN F n0 s.n (HandSHeadRun.getT s)
theorem obH_eq (F : Facts) (n0 : Nat) (s : PySem.W.SharedT) : obH F n0 s = (hookH F n0).obs s.abs := by
  have e : HandSHeadRun.getT s = s.abs.heap.get? := funext (HandSHeadRun.getT_eq s)
  have e2 : s.abs.heap.objs.size = s.n := PySem.W.absHeap_size s.tree s.n s.life
  unfold obH hookH
  dsimp only
  rw [e, e2]
section
variable {F : Facts} {w : World} {K : PySem.W.Frag}
theorem dflA_ok {dV : Value} {vs : List V} (h : dflA (fun a => K.lookup a) dV vs = true) : ∃ ws, WildAll vs ws ∧ DflV K dV ws := by
  unfold dflA at h
  cases vs with
  | nil =>
    cases dV <;> first | exact ⟨[], rfl, .inl ⟨rfl, rfl⟩⟩ | cases h
  | cons v vs =>
    cases dV with
    | ref a =>
      dsimp only at h
      split at h
      · rename_i oc od its n sl q
        obtain ⟨ws, w1, w2⟩ := relW_ok h
        refine ⟨ws, w1, .inr ⟨?_, a, _, its.toList, n, rfl, q, by simp, w2⟩⟩
        obtain ⟨w, r, e, _⟩ := w1
        rw [e]
        exact List.cons_ne_nil _ _
      · cases h
    | _ => cases h
theorem fun_at {d : DfH} {a : Addr} (e : fnA (fun a => K.lookup a) a = d.val) (h : okA (fun a => K.lookup a) a d = true) : ∃ fd dvs, WildAll d.dfl dvs ∧ FunD K d.name d.qual (defArgs d.st) (defBody d.st) (defScope d.st) dvs [] a fd := by
  unfold okA at h
  unfold fnA DfH.val at e
  split at h
  · rename_i oc od fd sl q
    have q' : K.lookup a = some ⟨oc, od, .func fd, sl⟩ := q
    obtain ⟨c1, c2⟩ := He.ba h
    have c3 : PySem.W.codeIn K fd.code d.qual = true := c1
    have kp : PySem.W.keepIn K (.ref a) = true := by
      unfold PySem.W.keepIn
      simp [q']
    simp only [q'] at e
    rcases fd with ⟨a1, a2, a3, a4, a5, a6, a7, a8, a9, a10, a11, a12, a13, a14, a15⟩
    simp only [Option.some.injEq, Prod.mk.injEq] at e
    rcases e with ⟨rfl, rfl, rfl, rfl, rfl, rfl, rfl, rfl⟩
    obtain ⟨ws, w1, w2⟩ := dflA_ok c2
    exact ⟨_, ws, w1, ⟨_, _, _, _, _, _, _, _, _, _, rfl, q', c3, w2, .inl rfl⟩, kp⟩
  · cases h
theorem SaysH.fact (c : SaysH F w K) : F.fa K = true := (He.ba (congrArg (fun z : AlH => z.1) c.eq)).1
theorem SaysH.defs (c : SaysH F w K) {d : DfH} (h : d ∈ F.fn) : ∃ fd dvs, WildAll d.dfl dvs ∧ FunD K d.name d.qual (defArgs d.st) (defBody d.st) (defScope d.st) dvs [] (d.at_.addr K) fd := by
  have c2 := (He.ba (congrArg (fun z : AlH => z.1) c.eq)).2
  obtain ⟨i, hi, e⟩ := List.mem_iff_getElem.mp h
  have e0 : F.fn.map (fun d => HandSHeadRun.frNat (d.at_.addr K) fun a => fnA (fun a => K.lookup a) a) = F.fn.map DfH.val := congrArg (fun z : AlH => z.2.1) c.eq
  have e2 := congrArg (fun l => l[i]?) e0
  simp only [List.getElem?_map, List.getElem?_eq_getElem hi, e, Option.map_some, Option.some.injEq] at e2
  rw [HandSHeadRun.frNat_eq] at e2
  have c3 := List.all_eq_true.mp c2 d h
  rw [HandSHeadRun.frNat_eq] at c3
  exact fun_at e2 c3
theorem SaysH.tab (c : SaysH F w K) {t : He.Tab} (h : t ∈ F.ts) : ∃ es n, KDict K w (t.1 K) es n := by
  obtain ⟨i, hi, e⟩ := List.mem_iff_getElem.mp h
  have e0 : F.ts.map (fun t => He.dicW K (t.1 K)) = F.ts.map fun t => some (He.keysIn w.params t.2) := congrArg (fun z : AlH => z.2.2) c.eq
  have e2 : (F.ts.map fun t => He.dicW K (t.1 K))[i]? = (F.ts.map fun t => some (He.keysIn w.params t.2))[i]? := by rw [e0]
  rw [List.getElem?_map, List.getElem?_map, List.getElem?_eq_getElem hi, e] at e2
  exact He.dicW_ok (Option.some.inj e2)
end
end Rc

-- Rh3
set_option Elab.async false
set_option linter.all false
set_option maxRecDepth 100000
set_option maxHeartbeats 1000000
namespace Rc
open PySem PySem.Spec PyProof.Rows L2

/-! ### facts as truths over the objects -/
def gloA (K : PySem.W.Frag) (x : Str) : Bool := (He.Fa.glo x).ok K
def At.ok (K : PySem.W.Frag) : At → Bool
  | .glo x => gloA K x
  | .mak c => gloA K c && (He.Fa.mkr c).ok K
  | .met c m => (He.Fa.meth c m).ok K
  | .prp c f => He.eqO (PySem.W.findIn K (.ref (He.ga K c)) f) (some (some (.ref (He.ma K (He.ga K c) f)))) && He.eqO (PySem.W.specialIn K (.ref (He.ma K (He.ga K c) f)) "__get__") (some (some (.builtin "property.__get__"))) &&
      decide (PySem.W.takesIn K (.ref (He.ma K (He.ga K c) f)) = some true) && (match PySem.W.recIn K (He.ma K (He.ga K c) f) "property" with | some (.ref _ :: _) => true | _ => false)
  | .cme c m => gloA K c && PySem.W.readsIn K (He.ga K c) (.type "type") && He.eqO (PySem.W.specialIn K (.ref (He.ga K c)) "__getattribute__") (some (some (.builtin "type.__getattribute__"))) &&
      (match PySem.W.findCls K (.ref (He.ga K c)) (.type "type") m with
        | some (.get g p o t) => decide (g = .builtin "classmethod.__get__") && decide (p = .ref (He.ma K (He.ga K c) m)) && decide (o = .none) && decide (t = .ref (He.ga K c))
        | _ => false) &&
      (match PySem.W.recIn K (He.ma K (He.ga K c) m) "classmethod" with | some (.ref g :: _) => PySem.W.fnIn K g | _ => false)
def clsA (K : PySem.W.Frag) (c : Str) : Bool := (He.Fa.cls c).ok K
def isiA (K : PySem.W.Frag) (known : List Str) : Bool :=
  known.all (fun c => clsA K c && He.eqO (PySem.W.findIn K (.ref (He.ga K c)) "__class__") (some (some (.builtin "object.__class__"))) && decide (PySem.W.mroIn K (He.ga K c) (.type "object") = some true) &&
    builtTys.all (fun n => decide (PySem.W.kitOne K (.ref (He.ga K c)) (.type n) = some false)) && allTys.all (fun n => decide (PySem.W.kitOne K (.type n) (.ref (He.ga K c)) = some false)) &&
    known.all (fun c' => decide (PySem.W.kitOne K (.ref (He.ga K c')) (.ref (He.ga K c)) = some (c' == c)))) &&
  He.eqO (PySem.W.specialIn K (.builtin "object.__class__") "__get__") (some (some (.builtin "getset_descriptor.__get__"))) && decide (PySem.W.takesIn K (.builtin "object.__class__") = some true)
def refO : Option (Option Value) → Bool
  | some none => true
  | some (some (.ref _)) => true
  | _ => false
def opA (K : PySem.W.Frag) (known : List Str) : Bool :=
  known.all fun c => PySem.W.selfFirst K (He.ga K c) && ops.all (fun op => refO (PySem.W.findIn K (.ref (He.ga K c)) (PySem.dunderR op.info.2))) && He.eqO (PySem.W.findIn K (.ref (He.ga K c)) "__ne__") (some (some (.builtin "object.__ne__"))) &&
    known.all (fun c' => decide (c' = c) || (decide (PySem.W.subIn K (.ref (He.ga K c')) (.ref (He.ga K c)) = some false) && decide (He.ga K c' ≠ He.ga K c)))
mutual
def repA (K : PySem.W.Frag) : D → Value → Bool
  | .non, .none => true
  | .bl b, .bool c => b == c
  | .int i, .int j _ => decide (i = j)
  | .str x, .str y _ => decide (x = y) && PyData.strOk x
  | .tup ds, .ref a => (match K.lookup a with
    | some ⟨.type c, _, .seq its _, _⟩ => decide (c = "tuple") && decide (its.size ≤ sizeLine) && repAs K ds its.toList
    | _ => false)
  | .cls c, .ref a => decide (a = He.ga K c)
  | _, _ => false
def repAs (K : PySem.W.Frag) : List D → List Value → Bool
  | [], [] => true
  | d :: ds, u :: us => repA K d u && repAs K ds us
  | _, _ => false
end
def dataA (K : PySem.W.Frag) (x : Str) : D → Bool
  | .ty n => He.eqO (PySem.W.nsIn K mainGlobals x) (some none) && He.eqO (some (bootBuiltins x)) (some (some (.type n)))
  | d => (match PySem.W.nsIn K mainGlobals x with
    | some (some u) => repA K d u
    | _ => false)
def tabA (K : PySem.W.Frag) (x : Str) (kvs : List (Str × D)) : Bool := gloA K x && kvs.all fun q => match PySem.W.nsIn K (He.ga K x) q.1, conV q.2 with
  | some (some u), some v => He.relB v u
  | _, _ => false
def allA (ats : List At) (known : List Str) (fld : List (Str × Str)) (glo : List (Str × D)) (tab : List (Str × List (Str × D))) (K : PySem.W.Frag) : Bool :=
  ats.all (At.ok K) && isiA K known && opA K known && fld.all (fun q => clsA K q.1 && (He.Fa.noat q.1 q.2).ok K) && glo.all (fun q => dataA K q.1 q.2) && tab.all (fun q => tabA K q.1 q.2) && freeNames.all (fun x => (He.Fa.free x).ok K)
section
variable {K : PySem.W.Frag}
theorem cls_of {c : Str} (h : clsA K c = true) : Cls K (He.ga K c) := by
  unfold clsA He.Fa.ok at h
  simp only [Bool.and_eq_true] at h
  obtain ⟨h1, h2, h3, h4⟩ := h
  exact ⟨h1, h2, h3, He.eqO_ok h4⟩
theorem isi_of {known : List Str} (h : isiA K known = true) : IsiH K known := by
  unfold isiA at h
  simp only [Bool.and_eq_true, List.all_eq_true, decide_eq_true_eq] at h
  obtain ⟨⟨h1, h2⟩, h3⟩ := h
  exact ⟨fun c m => cls_of (h1 c m).1.1.1.1.1, fun c m => He.eqO_ok (h1 c m).1.1.1.1.2, He.eqO_ok h2, h3, fun c m => (h1 c m).1.1.1.2, fun c m n q => (h1 c m).1.1.2 n q, fun c m n q => (h1 c m).1.2 n q, fun c m c' m' => (h1 c m).2 c' m'⟩
theorem op_of {known : List Str} (h : opA K known = true) : OpH K known := by
  unfold opA at h
  simp only [Bool.and_eq_true, List.all_eq_true, decide_eq_true_eq, Bool.or_eq_true] at h
  refine ⟨fun c m => (h c m).1.1.1, fun c m c' m' n => ?_, fun c m op q => ?_, fun c m => He.eqO_ok (h c m).1.2, fun c m c' m' n => ?_⟩
  · rcases (h c m).2 c' m' with z | z
    · exact absurd z n
    · exact z.1
  · have z := (h c m).1.1.2 op q
    unfold refO at z
    split at z
    · rename_i e; exact ⟨_, e, .inl rfl⟩
    · rename_i g e; exact ⟨_, e, .inr ⟨_, rfl⟩⟩
    · cases z
  · rcases (h c m).2 c' m' with z | z
    · exact absurd z n
    · exact z.2
mutual
theorem rep_of : ∀ (d : D) {u : Value}, repA K d u = true → ∃ v, RelV v u ∧ ∀ pa M H, Rep K pa M H d v
  | .non, u, h => by
    cases u <;> first | (exact ⟨.non, rfl, fun _ _ _ => rfl⟩) | (simp [repA] at h)
  | .bl b, u, h => by
    cases u <;> first | (simp [repA] at h; subst h; exact ⟨.bl _, rfl, fun _ _ _ => rfl⟩) | (simp [repA] at h; done)
  | .int i, u, h => by
    cases u <;> first | (simp [repA] at h; subst h; exact ⟨.int _, ⟨_, rfl⟩, fun _ _ _ => rfl⟩) | (simp [repA] at h; done)
  | .str x, u, h => by
    cases u <;> first | (simp [repA] at h; obtain ⟨rfl, h2⟩ := h; exact ⟨.str _, ⟨_, rfl⟩, fun _ _ _ => ⟨rfl, h2⟩⟩) | (simp [repA] at h; done)
  | .tup ds, u, h => by
    cases u with
    | ref a =>
      unfold repA at h
      split at h
      · rename_i c od its n sl q
        simp only [Bool.and_eq_true, decide_eq_true_eq] at h
        obtain ⟨⟨rfl, h2⟩, h3⟩ := h
        obtain ⟨vs, r1, r2⟩ := reps_of ds h3
        exact ⟨.ref a, rfl, fun pa M H => ⟨a, vs, rfl, .inr ⟨_, its, n, q, rfl, rfl, h2, r1⟩, r2 pa M H⟩⟩
      · cases h
    | _ => simp [repA] at h
  | .cls c, u, h => by
    cases u <;> first | (simp [repA] at h; subst h; exact ⟨.ref _, rfl, fun _ _ _ => rfl⟩) | (simp [repA] at h; done)
  | .lst _, u, h => by simp [repA] at h
  | .dic _, u, h => by simp [repA] at h
  | .obj _ _, u, h => by simp [repA] at h
  | .ty _, u, h => by simp [repA] at h
  | .pot, u, h => by simp [repA] at h
  | .scr _, u, h => by simp [repA] at h
theorem reps_of : ∀ (ds : List D) {us : List Value}, repAs K ds us = true → ∃ vs, Vals vs us ∧ ∀ pa M H, Reps K pa M H ds vs
  | [], us, h => by
    cases us with
    | nil => exact ⟨[], .nil, fun _ _ _ => rfl⟩
    | cons _ _ => simp [repAs] at h
  | d :: ds, us, h => by
    cases us with
    | nil => simp [repAs] at h
    | cons u us =>
      simp only [repAs, Bool.and_eq_true] at h
      obtain ⟨v, r1, r2⟩ := rep_of d h.1
      obtain ⟨vs, r3, r4⟩ := reps_of ds h.2
      exact ⟨v :: vs, .cons r1 r3, fun pa M H => ⟨v, vs, rfl, r2 pa M H, r4 pa M H⟩⟩
end
end
end Rc

-- Rh4
set_option Elab.async false
set_option linter.all false
set_option maxRecDepth 100000
set_option maxHeartbeats 1000000
namespace Rc
open PySem PySem.Spec PyProof.Rows L2

/-! ### a program by its entries -/
structure Ent where
  d : DfH
  f : FnIR
  nm : List Str
  ps : List Str
def entG : Ent → Option (Str × FnIR)
  | ⟨⟨.glo x, _, _, _, _⟩, f, _, _⟩ => some (x, f)
  | _ => none
def entM : Ent → Option (Str × FnIR)
  | ⟨⟨.mak x, _, _, _, _⟩, f, _, _⟩ => some (x, f)
  | _ => none
def entP : Ent → Option ((Str × Str) × FnIR)
  | ⟨⟨.prp c x, _, _, _, _⟩, f, _, _⟩ => some ((c, x), f)
  | _ => none
def entT : Ent → Option ((Str × Str) × FnIR)
  | ⟨⟨.met c x, _, _, _, _⟩, f, _, _⟩ => some ((c, x), f)
  | _ => none
def entC : Ent → Option ((Str × Str) × FnIR)
  | ⟨⟨.cme c x, _, _, _, _⟩, f, _, _⟩ => some ((c, x), f)
  | _ => none
def progOf (L : List Ent) (glo : List (Str × D)) (tab : List (Str × List (Str × D))) (fld : List (Str × Str)) (known : List Str) (prim : List (Str × Fn)) : Prog :=
  ⟨glo, tab, L.filterMap entG, L.filterMap entM, fld, L.filterMap entP, L.filterMap entT, L.filterMap entC, known, prim⟩
def funcB (sc : Scope) : Bool := match sc.kind with
  | .function => true
  | _ => false
def nameB (k : Option NameKind) : Bool := match k with
  | some .local => true
  | some .cell => true
  | _ => false
def freeK (k : NameKind) : Bool := match k with
  | .free => true
  | _ => false
def scB (N ps : List Str) (sc : Scope) : Bool := funcB sc && !sc.isCoroutine && !sc.isGenerator && decide N.Nodup && decide (N.take ps.length = ps) && ps.all (fun x => nameB (sc.names.lookup x)) && sc.names.all (fun y => !freeK y.2)
theorem sc_of {N ps : List Str} {sc : Scope} (h : scB N ps sc = true) : FnScope N ps sc := by
  unfold scB at h
  simp only [Bool.and_eq_true, decide_eq_true_eq, List.all_eq_true, Bool.not_eq_true'] at h
  obtain ⟨⟨⟨⟨⟨⟨h1, h2⟩, h3⟩, h4⟩, h5⟩, h6⟩, h7⟩ := h
  refine ⟨?_, h2, h3, h4, h5, fun x m => ?_, fun y m z => ?_⟩
  · unfold funcB at h1
    split at h1
    · assumption
    · cases h1
  · have q := h6 x m
    unfold nameB at q
    split at q
    · rename_i e; exact .inl e
    · rename_i e; exact .inr e
    · cases q
  · have q := h7 y m
    rw [z] at q
    cases q
/-- how many values the def is given -/
def Ent.len (e : Ent) : Nat := match e.d.at_ with
  | .mak _ => e.f.n + 1
  | .prp _ _ => 1
  | _ => e.f.n
def isPrp (e : Ent) : Bool := match e.d.at_ with
  | .prp _ _ => true
  | _ => false
def plainB (e : Ent) : Bool := e.f.dfl.isEmpty && e.d.dfl.isEmpty && plainArgs (defArgs e.d.st) e.ps
def entB (fld : List (Str × Str)) (e : Ent) : Bool := chkSs e.nm (defScope e.d.st) e.f.ir (defBody e.d.st) && scB e.nm e.ps (defScope e.d.st) && decide (e.nm.length = e.f.m) && decide (e.ps.length = e.len) && (slfSs e.f.ir).all (fun q => fld.contains q) && (!isPrp e || e.f.dfl.isEmpty)
structure EntOk (fld : List (Str × Str)) (e : Ent) : Prop where
  st : entB fld e = true
  bn : ∀ (K : PySem.W.Frag) (fd : FuncData) (a : Addr) (dvs : List V), WildAll e.d.dfl dvs → FunD K e.d.name e.d.qual (defArgs e.d.st) (defBody e.d.st) (defScope e.d.st) dvs [] a fd → BindsAll K fd e.ps e.f.dfl
theorem binds_plain {e : Ent} (hp : plainB e = true) (nd : e.ps.Nodup) {K : PySem.W.Frag} {fd : FuncData} {a : Addr} {dvs : List V} (W : WildAll e.d.dfl dvs) (F : FunD K e.d.name e.d.qual (defArgs e.d.st) (defBody e.d.st) (defScope e.d.st) dvs [] a fd) : BindsAll K fd e.ps e.f.dfl := by
  unfold plainB at hp
  simp only [Bool.and_eq_true] at hp
  obtain ⟨⟨h1, h2⟩, h3⟩ := hp
  rw [List.isEmpty_iff.mp h2] at W
  cases W
  rw [List.isEmpty_iff.mp h1]
  intro j hj
  exact ⟨[], [], FunD.bindsN F fun kV doc pm an cdv ct us hl => plain_binds h3 nd kV doc pm an cdv ct us hl, fun _ _ _ => by simp; rfl, .nil⟩
theorem nodup_take {l : List Str} (h : l.Nodup) (n : Nat) : (l.take n).Nodup := h.sublist (List.take_sublist n l)
theorem ent_ok {fld : List (Str × Str)} {e : Ent} (h : entB fld e = true) (hp : plainB e = true) : EntOk fld e := by
  refine ⟨h, fun K fd a dvs W F => binds_plain hp ?_ W F⟩
  unfold entB at h
  simp only [Bool.and_eq_true] at h
  have S := sc_of h.1.1.1.1.2
  rw [← S.pre]
  exact nodup_take S.nd _
theorem look_mem {α β : Type} [BEq α] [LawfulBEq α] {x : α} {y : β} : ∀ {l : List (α × β)}, l.lookup x = some y → (x, y) ∈ l
  | [], h => by cases h
  | (a, b) :: r, h => by
    rw [List.lookup_cons] at h
    split at h
    · rename_i q
      cases h
      rw [beq_iff_eq] at q
      rw [q]; exact List.mem_cons_self
    · exact List.mem_cons_of_mem _ (look_mem h)
section
variable {T : Th} {P : Prog}
theorem gok0 (glo : ∀ x d, P.glo.lookup x = some d → GloH T x d) (tab : ∀ x kvs, P.tab.lookup x = some kvs → TabH T x kvs) (fld : ∀ c f, (c, f) ∈ P.fld → Cls T.K (He.ga T.K c) ∧ NoAttr T.K (He.ga T.K c) f)
    (isi : IsiH T.K P.known) (op : OpH T.K P.known) (free : ∀ x ∈ freeNames, T.mg x = none) : GOk T 0 (G0 P) where
  glo := glo
  tab := tab
  fn := fun _ _ e => by cases e
  mak := fun _ _ e => by cases e
  att := fun c f r e => by
    have e' : (if P.fld.contains (c, f) then some none else none) = some r := e
    split at e'
    · rename_i q
      cases e'
      exact fld c f (by simpa using q)
    · cases e'
  met := fun _ _ _ e => by cases e
  cme := fun _ _ _ e => by cases e
  isi := isi
  op := op
  free := free
theorem txt_of {fld : List (Str × Str)} {e : Ent} (o : EntOk fld e) {fd : FuncData} {a : Addr} {dvs : List V} (W : WildAll e.d.dfl dvs) (F : FunD T.K e.d.name e.d.qual (defArgs e.d.st) (defBody e.d.st) (defScope e.d.st) dvs [] a fd) : Txt T e.f e.len a fd e.ps := by
  have h := o.st
  unfold entB at h
  simp only [Bool.and_eq_true, decide_eq_true_eq] at h
  obtain ⟨⟨⟨⟨⟨h1, h2⟩, h3⟩, h4⟩, _⟩, _⟩ := h
  exact ⟨⟨_, _, _, _, _, _, _, _, F, sc_of h2, h1, h3⟩, h4, o.bn _ _ _ _ W F⟩
theorem fl_of {fld : List (Str × Str)} {e : Ent} (o : EntOk fld e) (hp : P.fld = fld) : Fl0 (G0 P) (slfSs e.f.ir) := by
  have h := o.st
  unfold entB at h
  simp only [Bool.and_eq_true, List.all_eq_true] at h
  intro q hq
  have z := h.1.2 q hq
  show (if P.fld.contains (q.1, q.2) then some none else none) = some none
  rw [hp, z]; rfl
end
/-- what the head must say -/
def factsOf (hot : List Str) (LX : List Ent) (glo : List (Str × D)) (tab : List (Str × List (Str × D))) (fld : List (Str × Str)) (known : List Str) : Facts :=
  ⟨hot, allA (LX.map fun e => e.d.at_) known fld glo tab, LX.map fun e => e.d, tab.map fun q => (fun K => He.ga K q.1, q.2.map fun z => z.1)⟩
section
variable {hot : List Str} {LX L : List Ent} {glo : List (Str × D)} {tab : List (Str × List (Str × D))} {fld : List (Str × Str)} {known : List Str} {prim : List (Str × Fn)} {T : Th} {h : Heap}
structure Says (hot : List Str) (LX : List Ent) (glo : List (Str × D)) (tab : List (Str × List (Str × D))) (fld : List (Str × Str)) (known : List Str) (T : Th) (h : Heap) : Prop where
  s : SaysH (factsOf hot LX glo tab fld known) T.w T.K
  X : T.K.In h
  G : h.Ns mainGlobals T.mg
theorem Says.all (S : Says hot LX glo tab fld known T h) : allA (LX.map fun e => e.d.at_) known fld glo tab T.K = true := S.s.fact
theorem Says.fn (S : Says hot LX glo tab fld known T h) {e : Ent} (m : e ∈ LX) : e.d.at_.ok T.K = true ∧ ∃ fd dvs, WildAll e.d.dfl dvs ∧ FunD T.K e.d.name e.d.qual (defArgs e.d.st) (defBody e.d.st) (defScope e.d.st) dvs [] (e.d.at_.addr T.K) fd := by
  have a := S.all
  unfold allA at a
  simp only [Bool.and_eq_true, List.all_eq_true] at a
  exact ⟨a.1.1.1.1.1.1 _ (List.mem_map.mpr ⟨e, m, rfl⟩), S.s.defs (List.mem_map.mpr ⟨e, m, rfl⟩)⟩
theorem Says.glo_ (S : Says hot LX glo tab fld known T h) (x : Str) (d : D) (e : glo.lookup x = some d) : GloH T x d := by
  have a := S.all
  unfold allA at a
  simp only [Bool.and_eq_true, List.all_eq_true] at a
  have q := a.1.1.2 _ (look_mem e)
  unfold dataA at q
  split at q
  · rename_i n en
    obtain rfl : d = .ty n := en
    simp only [Bool.and_eq_true] at q
    have e1 := He.eqO_ok q.1
    have e2 := He.eqO_ok q.2
    exact ⟨.type n, .ty n, .inr ⟨PySem.W.mg_none_of S.X S.G e1, Option.some.inj e2⟩, rfl, fun _ _ _ => rfl⟩
  · split at q
    · rename_i u e1
      obtain ⟨v, r1, r2⟩ := rep_of _ q
      exact ⟨u, v, .inl (PySem.W.mg_of S.X S.G e1), r1, r2⟩
    · cases q
theorem Says.tab_ (S : Says hot LX glo tab fld known T h) (x : Str) (kvs : List (Str × D)) (e : tab.lookup x = some kvs) : TabH T x kvs := by
  have a := S.all
  unfold allA at a
  simp only [Bool.and_eq_true, List.all_eq_true] at a
  have m := look_mem e
  have q := a.1.2 _ m
  unfold tabA at q
  simp only [Bool.and_eq_true, List.all_eq_true] at q
  obtain ⟨es, n, kd⟩ := S.s.tab (t := (fun K => He.ga K x, kvs.map fun z => z.1)) (List.mem_map.mpr ⟨(x, kvs), m, rfl⟩)
  refine ⟨_, es, n, He.glo_ok S.X S.G q.1, kd, fun z d l => ?_⟩
  have q2 := q.2 _ (look_mem l)
  split at q2
  · rename_i u v e1 e2
    exact ⟨u, v, e1, e2, He.relB_ok q2⟩
  · cases q2
theorem Says.fld_ (S : Says hot LX glo tab fld known T h) (c f : Str) (m : (c, f) ∈ fld) : Cls T.K (He.ga T.K c) ∧ NoAttr T.K (He.ga T.K c) f := by
  have a := S.all
  unfold allA at a
  simp only [Bool.and_eq_true, List.all_eq_true] at a
  have q := a.1.1.1.2 _ m
  exact ⟨cls_of q.1, He.eqO_ok q.2⟩
theorem Says.isi_ (S : Says hot LX glo tab fld known T h) : IsiH T.K known := by
  have a := S.all
  unfold allA at a
  simp only [Bool.and_eq_true] at a
  exact isi_of a.1.1.1.1.1.2
theorem Says.op_ (S : Says hot LX glo tab fld known T h) : OpH T.K known := by
  have a := S.all
  unfold allA at a
  simp only [Bool.and_eq_true] at a
  exact op_of a.1.1.1.1.2
theorem Says.free_ (S : Says hot LX glo tab fld known T h) (x : Str) (m : x ∈ freeNames) : T.mg x = none := by
  have a := S.all
  unfold allA at a
  simp only [Bool.and_eq_true, List.all_eq_true] at a
  exact He.free_ok S.X S.G (a.2 x m)
theorem told_of (S : Says hot LX glo tab fld known T h) (hL : ∀ e ∈ L, e ∈ LX) (hk : ∀ e ∈ L, EntOk fld e) (hc : ∀ e ∈ L, ∀ c m, (e.d.at_ = .met c m ∨ e.d.at_ = .prp c m) → c ∈ known)
    (hp : GOk T 0 (G0 (progOf L glo tab fld known prim)) → ∀ x f, prim.lookup x = some f → FnK T 4 x f) : Told T (progOf L glo tab fld known prim) := by
  have g0 : GOk T 0 (G0 (progOf L glo tab fld known prim)) := gok0 S.glo_ S.tab_ S.fld_ S.isi_ S.op_ S.free_
  refine ⟨S.glo_, S.tab_, fun x f e => ?_, fun c f e => ?_, S.fld_, fun c f q e => ?_, fun c m f e => ?_, fun c m f e => ?_, S.isi_, S.op_, S.free_, hp g0⟩
  · obtain ⟨en, m, q⟩ := List.mem_filterMap.mp (look_mem e)
    obtain ⟨a1, fd, dvs, W, F⟩ := S.fn (hL en m)
    have o := hk en m
    unfold entG at q
    split at q
    · cases q
      exact ⟨fl_of o rfl, _, fd, _, He.glo_ok S.X S.G a1, txt_of o W F⟩
    · cases q
  · obtain ⟨en, m, q⟩ := List.mem_filterMap.mp (look_mem e)
    obtain ⟨a1, fd, dvs, W, F⟩ := S.fn (hL en m)
    have o := hk en m
    unfold entM at q
    split at q
    · cases q
      simp only [At.ok, Bool.and_eq_true] at a1
      obtain ⟨a2, a3⟩ := a1
      unfold He.Fa.ok at a3
      simp only [Bool.and_eq_true] at a3
      obtain ⟨b1, b2, b3, b4⟩ := a3
      exact ⟨fl_of o rfl, _, fd, _, He.glo_ok S.X S.G a2, ⟨b1, He.eqO_ok b2, b3, b4⟩, txt_of o W F⟩
    · cases q
  · obtain ⟨en, m, q'⟩ := List.mem_filterMap.mp (look_mem e)
    obtain ⟨a1, fd, dvs, W, F⟩ := S.fn (hL en m)
    have o := hk en m
    unfold entP at q'
    split at q'
    · cases q'
      have h2 := o.st
      unfold entB isPrp at h2
      simp only [Bool.and_eq_true, Bool.not_true, Bool.false_or] at h2
      simp only [At.ok, Bool.and_eq_true, decide_eq_true_eq] at a1
      obtain ⟨⟨⟨a2, a3⟩, a4⟩, a5⟩ := a1
      refine ⟨fl_of o rfl, List.isEmpty_iff.mp h2.2, (S.isi_).cl c (hc _ m c f (.inr rfl)), _, _, fd, _, ⟨He.eqO_ok a2, He.eqO_ok a3, a4, ?_⟩, txt_of o W F⟩
      split at a5
      · rename_i g r e5
        refine ⟨r, ?_⟩
        show PySem.W.recIn T.K _ "property" = some (.ref (recA T.K _ "property") :: r)
        unfold recA
        rw [e5]
      · cases a5
    · cases q'
  · obtain ⟨en, m', q⟩ := List.mem_filterMap.mp (look_mem e)
    obtain ⟨a1, fd, dvs, W, F⟩ := S.fn (hL en m')
    have o := hk en m'
    unfold entT at q
    split at q
    · cases q
      simp only [At.ok] at a1
      unfold He.Fa.ok at a1
      simp only [Bool.and_eq_true] at a1
      obtain ⟨b1, b2, b3⟩ := a1
      exact ⟨fl_of o rfl, (S.isi_).cl c (hc _ m' c m (.inl rfl)), _, fd, _, ⟨He.eqO_ok b1, b2, b3⟩, txt_of o W F⟩
    · cases q
  · obtain ⟨en, m', q⟩ := List.mem_filterMap.mp (look_mem e)
    obtain ⟨a1, fd, dvs, W, F⟩ := S.fn (hL en m')
    have o := hk en m'
    unfold entC at q
    split at q
    · cases q
      simp only [At.ok, Bool.and_eq_true] at a1
      obtain ⟨⟨⟨⟨a2, a3⟩, a4⟩, a5⟩, a6⟩ := a1
      split at a6
      · rename_i g r e6
        have eg : recA T.K (He.ma T.K (He.ga T.K c) m) "classmethod" = g := by unfold recA; rw [e6]
        refine ⟨fl_of o rfl, He.glo_ok S.X S.G a2, .type "type", He.ma T.K (He.ga T.K c) m, _, fd, _, ⟨a3, He.eqO_ok a4⟩, ⟨?_, ⟨r, ?_⟩, ?_⟩, txt_of o W F⟩
        · split at a5
          · rename_i e5
            simp only [Bool.and_eq_true, decide_eq_true_eq] at a5
            obtain ⟨⟨⟨z1, z2⟩, z3⟩, z4⟩ := a5
            rw [e5, z1, z2, z3, z4]
          · cases a5
        · show PySem.W.recIn T.K _ "classmethod" = some (.ref (recA T.K _ "classmethod") :: r)
          rw [eg]; exact e6
        · show PySem.W.fnIn T.K (recA T.K _ "classmethod") = true
          rw [eg]; exact a6
      · cases a6
    · cases q
end
end Rc

-- Rh5
set_option Elab.async false
set_option linter.all false
set_option maxRecDepth 100000
set_option maxHeartbeats 4000000
namespace Rc
open PySem PySem.Spec PyProof.Rows L2
/-- the head's run, looked at three times: each look by itself takes less memory -/
theorem look3 {σ α β γ δ : Type} {o : Option σ} {f : σ → α} {g : σ → β} {h : σ → γ × δ} {a : α} {b : β} {c : γ × δ} (h1 : o.map (fun s => (f s, g s)) = some (a, b)) (h2 : o.map (fun s => (h s).1) = some c.1) (h3 : o.map (fun s => (h s).2) = some c.2) : o.map (fun s => (f s, g s, h s)) = some (a, b, c) := by
  cases o with
  | none => cases h1
  | some s =>
    simp only [Option.map_some, Option.some.injEq, Prod.mk.injEq] at h1 h2 h3 ⊢
    exact ⟨h1.1, h1.2, Prod.ext h2 h3⟩
end Rc

-- Ik09
set_option Elab.async false
set_option linter.all false
set_option maxRecDepth 100000
set_option maxHeartbeats 0
namespace Rc
open PySem PySem.Spec PyProof.Rows L2
def top (i : Nat) : Stmt := PySem.Challenge.pw_rangecells_k09_moved_and_mirrored.main.body.getD i (.Pass ⟨0, 0, 0, 0⟩)
def inCls (s : Stmt) (j : Nat) : Stmt := match s with
  | .ClassDef (body := b) .. => b.getD j (.Pass ⟨0, 0, 0, 0⟩)
  | _ => .Pass ⟨0, 0, 0, 0⟩
def ir_fnulaw_pot : FnIR := ⟨2, [], 6, [.asg (.name 2) (.ite (.cmp .Lt (.var 1) (.bi .len [(.var 0)])) (.ix (.var 0) (.var 1)) (.bin .Add (.bin .Mult (.con (.int (43))) (.var 1)) (.con (.int (19))))),
  .asg (.name 3) (.bin .Mult (.bin .Mod (.bi .int [(.bi .abs [(.var 2)])]) (.bin .Pow (.bin .Pow (.con (.int (10))) (.con (.int (60)))) (.con (.int (5))))) (.bi .int [(.cmp .GtE (.bi .abs [(.var 2)]) (.bin .Pow (.con (.int (10))) (.con (.int (18)))))])),
  .asg (.name 4) (.bin .Mod (.bi .int [(.var 2)]) (.con (.int (2305843009213693951)))),
  .asg (.name 5) (.bin .Mod (.bi .int [(.bin .Add (.bin .Add (.bin .Mult (.var 4) (.con (.int (70663)))) (.bin .Mult (.bin .Mult (.con (.int (6421))) (.var 1)) (.var 1))) (.con (.int (83))))]) (.con (.int (2305843009213693921)))),
  .ret (.lst [.one (.var 3), .one (.var 5), .one (.con (.int (0)))])]⟩
def nm_fnulaw_pot : List Str := ["_law_script", "_law_k", "_law_cell", "_law_own", "_law_small", "_law_mixed"]
def ir_fn_part_pieces : FnIR := ⟨2, [], 2, [.iff (.val (.call "is_value" [(.var 1)])) [.iff (.cmp .NotEq (.attr "own_line" (.var 1)) (.var 0)) [.never] [], .ret (.call "pieces_in" [(.var 1)])] [],
  .iff (.not (.val (.call "is_end" [(.var 0), (.var 1)]))) [.never] [],
  .ret (.tup [(.call "cuts_around" [(.var 0), (.var 1)])])]⟩
def nm_fn_part_pieces : List Str := ["line", "value"]
def ir_fn_is_value : FnIR := ⟨1, [], 1, [.ret (.or (.isi (.var 0) (.glo "Range")) (.isi (.var 0) (.glo "RangeSet")))]⟩
def nm_fn_is_value : List Str := ["value"]
def ir_fn_pieces_in : FnIR := ⟨1, [], 1, [.iff (.val (.isi (.var 0) (.glo "RangeSet"))) [.ret (.attr "own_pieces" (.var 0))] [],
  .ret (.ite (.cmp .Is (.attr "own_cuts" (.var 0)) (.con (.non))) (.tup []) (.tup [(.attr "own_cuts" (.var 0))]))]⟩
def nm_fn_pieces_in : List Str := ["value"]
def ir_fn_is_end : FnIR := ⟨2, [], 2, [.iff (.not (.val (.call "is_line" [(.var 0)]))) [.ret (.con (.bl false))] [],
  .ret (.ite (.cmp .Eq (.var 0) (.glo "WORDS")) (.call "is_letters" [(.var 1)]) (.call "is_integer" [(.var 1)]))]⟩
def nm_fn_is_end : List Str := ["line", "value"]
def ir_fn_is_integer : FnIR := ⟨1, [], 1, [.ret (.and (.isi (.var 0) (.glo "int")) (.not (.isi (.var 0) (.glo "bool"))))]⟩
def nm_fn_is_integer : List Str := ["value"]
def ir_fn_is_line : FnIR := ⟨1, [], 1, [.ret (.and (.isi (.var 0) (.glo "str")) (.cmp .In (.var 0) (.glo "LINES")))]⟩
def nm_fn_is_line : List Str := ["value"]
def ir_fn_is_letters : FnIR := ⟨1, [], 2, [.ret (.and (.isi (.var 0) (.glo "str")) (.and (.cmp .NotEq (.var 0) (.con (.str ""))) (.bi .all [(.lc (.name 1) [("letter", 1)] (.items (.var 0)) .no (.cmp .In (.var 1) (.glo "LETTERS")))])))]⟩
def nm_fn_is_letters : List Str := ["value", "letter"]
def ir_fn_cuts_around : FnIR := ⟨2, [], 3, [.iff (.val (.isi (.var 1) (.glo "tuple"))) [.asg (.name 2) (.bin .FloorDiv (.bi .int [(.ix (.var 1) (.con (.int (0))))]) (.ix (.var 1) (.con (.int (1))))), .ret (.tup [(.bin .Add (.bin .Mult (.con (.int (2))) (.var 2)) (.con (.int (1)))), (.bin .Add (.bin .Mult (.con (.int (2))) (.var 2)) (.con (.int (2))))])] [],
  .ret (.tup [(.call "cut_ahead" [(.var 0), (.var 1)]), (.call "cut_behind" [(.var 0), (.var 1)])])]⟩
def nm_fn_cuts_around : List Str := ["line", "point", "above"]
def ir_fn_cut_ahead : FnIR := ⟨2, [], 2, [.iff (.cmp .Eq (.var 0) (.glo "WORDS")) [.ret (.ite (.cmp .Eq (.var 1) (.glo "FIRST_WORD")) (.con (.non)) (.var 1))] [],
  .ret (.bin .Mult (.var 1) (.tab "STEPS" (.var 0)))]⟩
def nm_fn_cut_ahead : List Str := ["line", "end"]
def ir_fn_cut_behind : FnIR := ⟨2, [], 2, [.iff (.cmp .Eq (.var 0) (.glo "WORDS")) [.ret (.bin .Add (.var 1) (.glo "FIRST_WORD"))] [],
  .ret (.bin .Add (.bin .Mult (.var 1) (.tab "STEPS" (.var 0))) (.con (.int (1))))]⟩
def nm_fn_cut_behind : List Str := ["line", "end"]
def ir_fnulaw_take : FnIR := ⟨2, [], 5, [.iff (.cmp .Gt (.pix 0 0) (.con (.int (0)))) [.asg (.name 2) (.bin .Mod (.bi .int [(.pix 0 0)]) (.var 1)), .pput 0 0 (.bin .FloorDiv (.pix 0 0) (.var 1)), .ret (.var 2)] [],
  .pput 0 2 (.bin .Add (.pix 0 2) (.con (.int (1)))),
  .asg (.name 3) (.ix (.lst [.one (.con (.int (2147483647))), .one (.con (.int (2147483629))), .one (.con (.int (2147483587))), .one (.con (.int (2147483579))), .one (.con (.int (2147483563)))]) (.bin .Mod (.bi .int [(.pix 0 2)]) (.con (.int (5))))),
  .asg (.name 4) (.bin .Mod (.bi .int [(.bin .Pow (.bi .int [(.bin .Add (.bin .Add (.pix 0 1) (.bin .Mult (.bin .Mult (.con (.int (99989))) (.pix 0 2)) (.pix 0 2))) (.con (.int (61))))]) (.con (.int (3))))]) (.var 3)),
  .asg (.name 4) (.bin .Mod (.bi .int [(.bin .Mult (.var 4) (.bin .Add (.bin .Mod (.bi .int [(.var 4)]) (.con (.int (10009)))) (.bin .Mult (.con (.int (91))) (.pix 0 2))))]) (.con (.int (2305843009213693907)))),
  .ret (.bin .Mod (.bi .int [(.bin .FloorDiv (.var 4) (.con (.int (107))))]) (.var 1))]⟩
def nm_fnulaw_take : List Str := ["_law_pot_here", "_law_upto", "_law_digit", "_law_prime", "_law_mixed"]
def ir_fn_law : FnIR := ⟨1, [], 4, [.for (.name 1) (.rng1 (.bi .max [(.con (.int (1))), (.bi .min [(.con (.int (2))), (.bi .len [(.var 0)])])])) [.asg (.name 2) (.call "_law_pot" [(.var 0), (.var 1)]), .iff (.not (.val (.bi .all [(.lc (.name 3) [("_law_line", 3)] (.items (.tup [(.con (.str "whole")), (.con (.str "dense"))])) .no (.call "_law_right" [(.var 2), (.var 3)]))]))) [.ret (.con (.bl false))] []],
  .ret (.and (.cmp .Eq (.str1 (.un .USub (.mk "Range" [(.con (.str "dense")), (.con (.int (1))), (.con (.int (2)))]))) (.con (.str "(-2,-1]"))) (.cmp .Eq (.str1 (.un .USub (.mk "Range" [(.con (.str "whole")), (.con (.int (1))), (.con (.int (4)))]))) (.con (.str "[-3,0)"))))]⟩
def nm_fn_law : List Str := ["_law_script", "_law_k", "_law_pot_here", "_law_line"]
def ir_met_Rangeu_negu : FnIR := ⟨1, [], 1, [.ex (.call "check_move" [(.attr "own_line" (.var 0)), (.con (.int (0)))]),
  .ret (.call "one_range" [(.attr "own_line" (.var 0)), (.call "mirrored" [(.attr "own_line" (.var 0)), (.call "pieces_in" [(.var 0)])])])]⟩
def nm_met_Rangeu_negu : List Str := ["self"]
def ir_met_RangeSetu_negu : FnIR := ⟨1, [], 1, [.ex (.call "check_move" [(.attr "own_line" (.var 0)), (.con (.int (0)))]),
  .ret (.call "set_of" [(.attr "own_line" (.var 0)), (.call "mirrored" [(.attr "own_line" (.var 0)), (.attr "own_pieces" (.var 0))])])]⟩
def nm_met_RangeSetu_negu : List Str := ["self"]
def ir_fn_mirrored : FnIR := ⟨2, [], 4, [.ret (.bi .tuple [(.lc (.tup [(.name 2), (.name 3)]) [("low", 2), ("high", 3)] (.items (.rev (.var 1))) .no (.tup [(.call "mirrored_cut" [(.var 0), (.var 3)]), (.call "mirrored_cut" [(.var 0), (.var 2)])]))])]⟩
def nm_fn_mirrored : List Str := ["line", "pieces", "low", "high"]
def ir_fn_mirrored_cut : FnIR := ⟨2, [], 2, [.ret (.ite (.cmp .Is (.var 1) (.con (.non))) (.con (.non)) (.bin .Sub (.con (.int (1))) (.var 1)))]⟩
def nm_fn_mirrored_cut : List Str := ["line", "cut"]
def ir_fn_check_move : FnIR := ⟨2, [], 2, [.iff (.cmp .Eq (.var 0) (.glo "WORDS")) [.never] [],
  .iff (.not (.val (.call "is_integer" [(.var 1)]))) [.never] []]⟩
def nm_fn_check_move : List Str := ["line", "many"]
def ir_fn_set_of : FnIR := ⟨2, [], 3, [.ret (.mk "RangeSet" [(.var 0), (.bi .tuple [(.lc (.name 2) [("cuts", 2)] (.items (.var 1)) .no (.call "range_of" [(.var 0), (.var 2)]))])])]⟩
def nm_fn_set_of : List Str := ["line", "pieces", "cuts"]
def ir_mak_RangeSet : FnIR := ⟨2, [], 6, [.ex (.call "check_line" [(.var 1)]),
  .iff (.not (.val (.isi (.var 2) (.glo "tuple")))) [.never] [],
  .ownE 3 [],
  .for (.name 4) (.items (.var 2)) [.ext 3 (.call "part_pieces" [(.var 1), (.var 4)])],
  .fld "RangeSet" 0 "own_line" (.var 1),
  .frz 3,
  .fld "RangeSet" 0 "own_pieces" (.call "normal" [(.var 3)]),
  .fld "RangeSet" 0 "own_points" (.tup [(.var 1), (.slf "RangeSet" 0 "own_pieces")]),
  .fld "RangeSet" 0 "own_rows" (.bi .tuple [(.lc (.name 5) [("cuts", 5)] (.items (.slf "RangeSet" 0 "own_pieces")) .no (.call "range_of" [(.var 1), (.var 5)]))])]⟩
def nm_mak_RangeSet : List Str := ["self", "line", "parts", "found", "part", "cuts"]
def ir_fn_range_of : FnIR := ⟨2, [], 6, [.iff (.cmp .Is (.var 1) (.con (.non))) [.ret (.mk "Range" [(.var 0), (.tab "SOME_END" (.var 0)), (.tab "SOME_END" (.var 0))])] [],
  .asg (.tup [(.name 2), (.name 3)]) (.ite (.cmp .Is (.ix (.var 1) (.con (.int (0)))) (.con (.non))) (.tup [(.con (.non)), (.con (.bl false))]) (.call "end_of" [(.var 0), (.ix (.var 1) (.con (.int (0))))])),
  .asg (.tup [(.name 4), (.name 5)]) (.ite (.cmp .Is (.ix (.var 1) (.con (.int (1)))) (.con (.non))) (.tup [(.con (.non)), (.con (.bl false))]) (.call "end_of" [(.var 0), (.ix (.var 1) (.con (.int (1))))])),
  .ret (.mk "Range" [(.var 0), (.var 2), (.var 4), (.fs [.val (.ite (.val (.var 3)) (.con (.str "(")) (.con (.str "["))), .val (.ite (.val (.var 5)) (.con (.str "]")) (.con (.str ")")))])])]⟩
def nm_fn_range_of : List Str := ["line", "cuts", "low", "is_behind", "high", "is_full"]
def ir_mak_Range : FnIR := ⟨4, [(.non), (.non), (.str "[)")], 6, [.ex (.call "check_line" [(.var 1)]),
  .for (.name 5) (.items (.tup [(.var 2), (.var 3)])) [.iff (.and (.cmp .IsNot (.var 5) (.con (.non))) (.not (.val (.call "is_end" [(.var 1), (.var 5)])))) [.never] []],
  .iff (.or (.not (.val (.isi (.var 4) (.glo "str")))) (.cmp .NotIn (.var 4) (.glo "BRACKETS"))) [.never] [],
  .iff (.and (.cmp .IsNot (.var 2) (.con (.non))) (.and (.cmp .IsNot (.var 3) (.con (.non))) (.cmp .Gt (.var 2) (.var 3)))) [.never] [],
  .fld "Range" 0 "own_line" (.var 1),
  .fld "Range" 0 "own_cuts" (.call "cuts_of" [(.var 1), (.var 2), (.var 3), (.var 4)]),
  .fld "Range" 0 "own_place" (.call "place_of" [(.var 1), (.slf "Range" 0 "own_cuts")])]⟩
def nm_mak_Range : List Str := ["self", "line", "low", "high", "ends", "end"]
def ir_fn_cuts_of : FnIR := ⟨4, [], 6, [.asg (.tup [(.name 4), (.name 5)]) (.tup [(.con (.non)), (.con (.non))]),
  .iff (.cmp .IsNot (.var 1) (.con (.non))) [.asg (.name 4) (.ite (.cmp .Eq (.ix (.var 3) (.con (.int (0)))) (.con (.str "["))) (.call "cut_ahead" [(.var 0), (.var 1)]) (.call "cut_behind" [(.var 0), (.var 1)]))] [],
  .iff (.cmp .IsNot (.var 2) (.con (.non))) [.asg (.name 5) (.ite (.cmp .Eq (.ix (.var 3) (.con (.int (1)))) (.con (.str "]"))) (.call "cut_behind" [(.var 0), (.var 2)]) (.call "cut_ahead" [(.var 0), (.var 2)])), .iff (.or (.cmp .Is (.var 5) (.con (.non))) (.and (.cmp .IsNot (.var 4) (.con (.non))) (.cmp .GtE (.var 4) (.var 5)))) [.ret (.con (.non))] []] [],
  .ret (.tup [(.var 4), (.var 5)])]⟩
def nm_fn_cuts_of : List Str := ["line", "low", "high", "ends", "first", "last"]
def ir_fn_place_of : FnIR := ⟨2, [], 2, [.ret (.ite (.cmp .Is (.var 1) (.con (.non))) (.tup [(.var 0), (.con (.int (0)))]) (.tup [(.var 0), (.con (.int (1))), (.call "low_key" [(.ix (.var 1) (.con (.int (0))))]), (.call "high_key" [(.ix (.var 1) (.con (.int (1))))])]))]⟩
def nm_fn_place_of : List Str := ["line", "cuts"]
def ir_fn_high_key : FnIR := ⟨1, [], 1, [.ret (.ite (.cmp .Is (.var 0) (.con (.non))) (.tup [(.con (.int (2)))]) (.tup [(.con (.int (1))), (.var 0)]))]⟩
def nm_fn_high_key : List Str := ["cut"]
def ir_fn_low_key : FnIR := ⟨1, [], 1, [.ret (.ite (.cmp .Is (.var 0) (.con (.non))) (.tup [(.con (.int (0)))]) (.tup [(.con (.int (1))), (.var 0)]))]⟩
def nm_fn_low_key : List Str := ["cut"]
def ir_fn_check_line : FnIR := ⟨1, [], 1, [.iff (.not (.val (.call "is_line" [(.var 0)]))) [.never] []]⟩
def nm_fn_check_line : List Str := ["value"]
def ir_fn_end_of : FnIR := ⟨2, [], 2, [.iff (.cmp .Eq (.var 0) (.glo "DENSE")) [.ret (.tup [(.bin .FloorDiv (.bi .int [(.var 1)]) (.con (.int (2)))), (.cmp .Eq (.bin .Mod (.bi .int [(.var 1)]) (.con (.int (2)))) (.con (.int (1))))])] [],
  .ret (.tup [(.var 1), (.con (.bl false))])]⟩
def nm_fn_end_of : List Str := ["line", "cut"]
def ir_fn_normal : FnIR := ⟨1, [], 11, [.ownC 1 (.tup [(.name 9), (.name 10)]) [("low", 9), ("high", 10)] (.items (.var 0)) (.yes (.or (.cmp .Is (.var 9) (.con (.non))) (.or (.cmp .Is (.var 10) (.con (.non))) (.cmp .Lt (.var 9) (.var 10))))) (.tup [(.var 9), (.var 10)]),
  .frz 1,
  .asg (.name 2) (.bi .sorted [(.lc (.tup [(.name 9), (.name 10)]) [("low", 9), ("high", 10)] (.items (.var 1)) .no (.tup [(.call "low_key" [(.var 9)]), (.call "high_key" [(.var 10)]), (.var 9), (.var 10)]))]),
  .ownE 3 [],
  .asg (.tup [(.name 4), (.name 5), (.name 6)]) (.tup [(.con (.non)), (.con (.non)), (.con (.bl false))]),
  .for (.tup [(.name 7), (.name 8), (.name 9), (.name 10)]) (.items (.var 2)) [.iff (.and (.val (.var 6)) (.val (.call "is_reached" [(.var 5), (.var 9)]))) [.asg (.name 5) (.call "later_cut" [(.var 5), (.var 10)])] [.iff (.val (.var 6)) [.app 3 (.tup [(.var 4), (.var 5)])] [], .par3 4 5 6 (.var 9) (.var 10) (.con (.bl true))]],
  .iff (.val (.var 6)) [.app 3 (.tup [(.var 4), (.var 5)])] [],
  .ret (.bi .tuple [(.var 3)])]⟩
def nm_fn_normal : List Str := ["some", "pairs", "rising", "found", "begin", "end", "is_open", "low_at", "high_at", "low", "high"]
def ir_fn_later_cut : FnIR := ⟨2, [], 2, [.ret (.ite (.or (.cmp .Is (.var 0) (.con (.non))) (.cmp .Is (.var 1) (.con (.non)))) (.con (.non)) (.bi .max [(.var 0), (.var 1)]))]⟩
def nm_fn_later_cut : List Str := ["one", "other"]
def ir_fn_is_reached : FnIR := ⟨2, [], 2, [.ret (.or (.cmp .Is (.var 0) (.con (.non))) (.or (.cmp .Is (.var 1) (.con (.non))) (.cmp .LtE (.var 1) (.var 0))))]⟩
def nm_fn_is_reached : List Str := ["last", "low"]
def ir_fn_one_range : FnIR := ⟨2, [], 2, [.ret (.call "range_of" [(.var 0), (.ite (.cmp .NotEq (.var 1) (.tup [])) (.ix (.var 1) (.con (.int (0)))) (.con (.non)))])]⟩
def nm_fn_one_range : List Str := ["line", "pieces"]
def ir_met_Rangeu_equ : FnIR := ⟨2, [], 2, [.ret (.and (.isi (.var 1) (.glo "Range")) (.cmp .Eq (.attr "own_place" (.var 0)) (.attr "own_place" (.var 1))))]⟩
def nm_met_Rangeu_equ : List Str := ["self", "other"]
def ir_met_RangeSetu_equ : FnIR := ⟨2, [], 2, [.ret (.and (.isi (.var 1) (.glo "RangeSet")) (.cmp .Eq (.attr "own_points" (.var 0)) (.attr "own_points" (.var 1))))]⟩
def nm_met_RangeSetu_equ : List Str := ["self", "other"]
def ir_met_Rangeu_stru : FnIR := ⟨1, [], 1, [.ret (.fs1 (.call "cuts_text" [(.attr "own_line" (.var 0)), (.attr "own_cuts" (.var 0))]))]⟩
def nm_met_Rangeu_stru : List Str := ["self"]
def ir_fn_cuts_text : FnIR := ⟨2, [], 2, [.ret (.ite (.cmp .Is (.var 1) (.con (.non))) (.glo "EMPTY") (.fs [.val (.call "low_text" [(.var 0), (.ix (.var 1) (.con (.int (0))))]), .txt ",", .val (.call "high_text" [(.var 0), (.ix (.var 1) (.con (.int (1))))])]))]⟩
def nm_fn_cuts_text : List Str := ["line", "cuts"]
def ir_fn_low_text : FnIR := ⟨2, [], 4, [.iff (.cmp .Is (.var 1) (.con (.non))) [.ret (.con (.str "("))] [],
  .asg (.tup [(.name 2), (.name 3)]) (.call "end_of" [(.var 0), (.var 1)]),
  .ret (.ite (.val (.var 3)) (.fs [.txt "(", .val (.var 2)]) (.fs [.txt "[", .val (.var 2)]))]⟩
def nm_fn_low_text : List Str := ["line", "cut", "end", "is_behind"]
def ir_fn_high_text : FnIR := ⟨2, [], 4, [.iff (.cmp .Is (.var 1) (.con (.non))) [.ret (.con (.str ")"))] [],
  .asg (.tup [(.name 2), (.name 3)]) (.call "end_of" [(.var 0), (.var 1)]),
  .ret (.ite (.val (.var 3)) (.fs [.val (.var 2), .txt "]"]) (.fs [.val (.var 2), .txt ")"]))]⟩
def nm_fn_high_text : List Str := ["line", "cut", "end", "is_behind"]
def ir_fnulaw_right : FnIR := ⟨2, [], 7, [.for (.name 2) (.rng1 (.con (.int (8)))) [.asg (.tup [(.name 3), (.name 4), (.name 5)]) (.call "_law_range" [(.var 0), (.var 1)]), .iff (.not (.val (.call "_law_value_right" [(.var 0), (.var 1), (.mk "Range" [(.var 1), (.var 3), (.var 4), (.var 5)]), (.tup [(.tup [(.var 3), (.var 4), (.var 5)])]), (.con (.bl true))]))) [.ret (.con (.bl false))] [], .asg (.name 6) (.call "_law_lot" [(.var 0), (.var 1), (.con (.int (3)))]), .iff (.not (.val (.call "_law_value_right" [(.var 0), (.var 1), (.call "_law_made" [(.var 1), (.var 6)]), (.var 6), (.con (.bl false))]))) [.ret (.con (.bl false))] []],
  .ret (.con (.bl true))]⟩
def nm_fnulaw_right : List Str := ["_law_pot_here", "_law_line", "_law_lap", "_law_low", "_law_high", "_law_ends", "_law_lot_here"]
def ir_fnulaw_range : FnIR := ⟨2, [], 8, [.par2 2 3 (.call "_law_end" [(.var 0), (.var 1)]) (.call "_law_end" [(.var 0), (.var 1)]),
  .asg (.tup [(.name 4), (.name 5)]) (.ite (.cmp .LtE (.var 2) (.var 3)) (.tup [(.var 2), (.var 3)]) (.tup [(.var 3), (.var 2)])),
  .asg (.name 6) (.call "_law_take" [(.var 0), (.con (.int (12)))]),
  .asg (.name 7) (.call "_law_of" [(.var 0), (.lst [.one (.con (.str "[)")), .one (.con (.str "[]")), .one (.con (.str "(]")), .one (.con (.str "()")), .one (.con (.str "[)"))])]),
  .ret (.tup [(.ite (.cmp .In (.var 6) (.tup [(.con (.int (0))), (.con (.int (2)))])) (.con (.non)) (.var 4)), (.ite (.cmp .In (.var 6) (.tup [(.con (.int (1))), (.con (.int (2)))])) (.con (.non)) (.var 5)), (.var 7)])]⟩
def nm_fnulaw_range : List Str := ["_law_pot_here", "_law_line", "_law_one", "_law_other", "_law_low", "_law_high", "_law_way", "_law_ends"]
def ir_met_Rangeu_containsu : FnIR := ⟨2, [], 2, [.ret (.call "is_in" [(.attr "own_line" (.var 0)), (.call "pieces_in" [(.var 0)]), (.var 1)])]⟩
def nm_met_Rangeu_containsu : List Str := ["self", "value"]
def ir_met_RangeSetu_containsu : FnIR := ⟨2, [], 2, [.ret (.call "is_in" [(.attr "own_line" (.var 0)), (.attr "own_pieces" (.var 0)), (.var 1)])]⟩
def nm_met_RangeSetu_containsu : List Str := ["self", "value"]
def ir_fn_is_in : FnIR := ⟨3, [], 5, [.iff (.val (.call "is_value" [(.var 2)])) [.ret (.call "is_within" [(.call "part_pieces" [(.var 0), (.var 2)]), (.var 1)])] [],
  .iff (.not (.val (.call "is_point" [(.var 0), (.var 2)]))) [.never] [],
  .asg (.tup [(.name 3), (.name 4)]) (.call "cuts_around" [(.var 0), (.var 2)]),
  .ret (.call "has_between" [(.var 1), (.var 3), (.var 4)])]⟩
def nm_fn_is_in : List Str := ["line", "pieces", "value", "low", "high"]
def ir_fn_has_between : FnIR := ⟨3, [], 6, [.for (.tup [(.name 3), (.name 4)]) (.items (.var 0)) [.asg (.name 5) (.or (.cmp .Is (.var 3) (.con (.non))) (.and (.cmp .IsNot (.var 1) (.con (.non))) (.cmp .LtE (.var 3) (.var 1)))), .iff (.and (.val (.var 5)) (.or (.cmp .Is (.var 4) (.con (.non))) (.and (.cmp .IsNot (.var 2) (.con (.non))) (.cmp .LtE (.var 2) (.var 4))))) [.ret (.con (.bl true))] []],
  .ret (.con (.bl false))]⟩
def nm_fn_has_between : List Str := ["pieces", "low", "high", "first", "last", "is_begun"]
def ir_fn_is_point : FnIR := ⟨2, [], 2, [.ret (.or (.call "is_end" [(.var 0), (.var 1)]) (.and (.call "is_line" [(.var 0)]) (.and (.cmp .Eq (.var 0) (.glo "DENSE")) (.call "is_part" [(.var 1)]))))]⟩
def nm_fn_is_point : List Str := ["line", "value"]
def ir_fn_is_part : FnIR := ⟨1, [], 2, [.iff (.or (.not (.val (.isi (.var 0) (.glo "tuple")))) (.or (.cmp .NotEq (.bi .len [(.var 0)]) (.glo "PAIR")) (.not (.val (.bi .all [(.lc (.name 1) [("one", 1)] (.items (.var 0)) .no (.call "is_integer" [(.var 1)]))]))))) [.ret (.con (.bl false))] [],
  .ret (.and (.chain .LtE .LtE (.glo "LEAST_BOTTOM") (.ix (.var 0) (.con (.int (1)))) (.glo "MOST_BOTTOM")) (.call "is_lowest" [(.ix (.var 0) (.con (.int (0)))), (.ix (.var 0) (.con (.int (1))))]))]⟩
def nm_fn_is_part : List Str := ["value", "one"]
def ir_fn_is_lowest : FnIR := ⟨2, [], 4, [.par2 2 3 (.bi .abs [(.var 0)]) (.var 1),
  .whl 100 (.cmp .Gt (.var 3) (.con (.int (0)))) [.par2 2 3 (.var 3) (.bin .Mod (.bi .int [(.var 2)]) (.var 3))],
  .ret (.cmp .Eq (.var 2) (.con (.int (1))))]⟩
def nm_fn_is_lowest : List Str := ["top", "bottom", "one", "other"]
def ir_fnulaw_end : FnIR := ⟨2, [], 2, [.ret (.ite (.cmp .Eq (.var 1) (.con (.str "words"))) (.call "_law_of" [(.var 0), (.call "_law_words" [])]) (.bin .Sub (.call "_law_take" [(.var 0), (.con (.int (13)))]) (.con (.int (6)))))]⟩
def nm_fnulaw_end : List Str := ["_law_pot_here", "_law_line"]
def ir_fnulaw_words : FnIR := ⟨0, [], 0, [.ret (.lst [.one (.con (.str "a")), .one (.con (.str "aa")), .one (.con (.str "aaa")), .one (.con (.str "aab")), .one (.con (.str "ab")), .one (.con (.str "aba")), .one (.con (.str "b")), .one (.con (.str "ba")), .one (.con (.str "baa")), .one (.con (.str "baab")), .one (.con (.str "bab")), .one (.con (.str "bb")), .one (.con (.str "c")), .one (.con (.str "caa")), .one (.con (.str "z")), .one (.con (.str "zz"))])]⟩
def nm_fnulaw_words : List Str := []
def ir_fnulaw_of : FnIR := ⟨2, [], 2, [.ret (.ix (.var 1) (.call "_law_take" [(.var 0), (.bi .len [(.var 1)])]))]⟩
def nm_fnulaw_of : List Str := ["_law_pot_here", "_law_some"]
def ir_fnulaw_value_right : FnIR := ⟨5, [], 16, [.par2 5 6 (.bin .Sub (.call "_law_take" [(.var 0), (.con (.int (9)))]) (.con (.int (4)))) (.call "_law_of" [(.var 0), (.lst [.one (.con (.int (1))), .one (.un .USub (.con (.int (3)))), .one (.bin .Pow (.con (.int (10))) (.con (.int (6)))), .one (.un .USub (.bin .Pow (.con (.int (10))) (.con (.int (9)))))])]),
  .par3 7 8 9 (.bin .RShift (.var 2) (.var 5)) (.bin .LShift (.var 2) (.var 5)) (.un .USub (.var 2)),
  .asg (.name 10) (.lst [.one (.var 7), .one (.var 8), .one (.var 9)]),
  .iff (.not (.val (.bi .all [(.lc (.name 15) [("_law_one", 15)] (.items (.var 10)) .no (.call "_law_is_of" [(.var 1), (.var 15), (.var 4)]))]))) [.ret (.con (.bl false))] [],
  .for (.name 11) (.items (.call "_law_probes" [(.var 1)])) [.ownC 12 (.name 14) [("_law_by", 14)] (.items (.tup [(.var 5), (.un .USub (.var 5))])) .no (.call "_law_has" [(.var 3), (.call "_law_point_less" [(.var 11), (.var 14)])]), .app 12 (.call "_law_has" [(.var 3), (.call "_law_point_negative" [(.var 11)])]), .iff (.cmp .NotEq (.lc (.name 15) [("_law_one", 15)] (.items (.var 10)) .no (.cmp .In (.var 11) (.var 15))) (.own 12)) [.ret (.con (.bl false))] []],
  .iff (.or (.not (.cmp .Eq (.bin .LShift (.var 7) (.var 5)) (.var 2))) (.not (.cmp .Eq (.un .USub (.var 9)) (.var 2)))) [.ret (.con (.bl false))] [],
  .asg (.name 13) (.bin .RShift (.var 2) (.var 6)),
  .ret (.and (.cmp .Eq (.bin .LShift (.var 13) (.var 6)) (.var 2)) (.and (.cmp .Eq (.bin .RShift (.var 7) (.var 6)) (.bin .RShift (.var 2) (.bin .Add (.var 5) (.var 6)))) (.cmp .Eq (.un .USub (.var 13)) (.bin .LShift (.un .USub (.var 2)) (.var 6)))))]⟩
def nm_fnulaw_value_right : List Str := ["_law_pot_here", "_law_line", "_law_value", "_law_lot_here", "_law_is_range", "_law_many", "_law_more", "_law_up", "_law_down", "_law_mirrored_one", "_law_some", "_law_point", "_law_due", "_law_far", "_law_by", "_law_one"]
def ir_met_Rangeu_lshiftu : FnIR := ⟨2, [], 2, [.ex (.call "check_move" [(.attr "own_line" (.var 0)), (.var 1)]),
  .ret (.call "one_range" [(.attr "own_line" (.var 0)), (.call "moved" [(.attr "own_line" (.var 0)), (.call "pieces_in" [(.var 0)]), (.un .USub (.var 1))])])]⟩
def nm_met_Rangeu_lshiftu : List Str := ["self", "many"]
def ir_met_RangeSetu_lshiftu : FnIR := ⟨2, [], 2, [.ex (.call "check_move" [(.attr "own_line" (.var 0)), (.var 1)]),
  .ret (.call "set_of" [(.attr "own_line" (.var 0)), (.call "moved" [(.attr "own_line" (.var 0)), (.attr "own_pieces" (.var 0)), (.un .USub (.var 1))])])]⟩
def nm_met_RangeSetu_lshiftu : List Str := ["self", "many"]
def ir_fn_moved : FnIR := ⟨3, [], 5, [.ret (.bi .tuple [(.lc (.tup [(.name 3), (.name 4)]) [("low", 3), ("high", 4)] (.items (.var 1)) .no (.tup [(.call "moved_cut" [(.var 0), (.var 3), (.var 2)]), (.call "moved_cut" [(.var 0), (.var 4), (.var 2)])]))])]⟩
def nm_fn_moved : List Str := ["line", "pieces", "many", "low", "high"]
def ir_fn_moved_cut : FnIR := ⟨3, [], 3, [.ret (.ite (.cmp .Is (.var 1) (.con (.non))) (.con (.non)) (.bin .Add (.var 1) (.bin .Mult (.var 2) (.tab "STEPS" (.var 0)))))]⟩
def nm_fn_moved_cut : List Str := ["line", "cut", "many"]
def ir_met_Rangeu_rshiftu : FnIR := ⟨2, [], 2, [.ex (.call "check_move" [(.attr "own_line" (.var 0)), (.var 1)]),
  .ret (.call "one_range" [(.attr "own_line" (.var 0)), (.call "moved" [(.attr "own_line" (.var 0)), (.call "pieces_in" [(.var 0)]), (.var 1)])])]⟩
def nm_met_Rangeu_rshiftu : List Str := ["self", "many"]
def ir_met_RangeSetu_rshiftu : FnIR := ⟨2, [], 2, [.ex (.call "check_move" [(.attr "own_line" (.var 0)), (.var 1)]),
  .ret (.call "set_of" [(.attr "own_line" (.var 0)), (.call "moved" [(.attr "own_line" (.var 0)), (.attr "own_pieces" (.var 0)), (.var 1)])])]⟩
def nm_met_RangeSetu_rshiftu : List Str := ["self", "many"]
def ir_fnulaw_point_less : FnIR := ⟨2, [], 2, [.ret (.ite (.val (.isi (.var 0) (.glo "tuple"))) (.tup [(.bin .Sub (.ix (.var 0) (.con (.int (0)))) (.bin .Mult (.var 1) (.ix (.var 0) (.con (.int (1)))))), (.ix (.var 0) (.con (.int (1))))]) (.bin .Sub (.var 0) (.var 1)))]⟩
def nm_fnulaw_point_less : List Str := ["_law_point", "_law_many"]
def ir_fnulaw_has : FnIR := ⟨2, [], 8, [.asg (.name 2) (.call "_law_key" [(.var 1)]),
  .for (.tup [(.name 3), (.name 4), (.name 5)]) (.items (.var 0)) [.asg (.name 6) (.or (.cmp .Is (.var 3) (.con (.non))) (.or (.cmp .Lt (.call "_law_key" [(.var 3)]) (.var 2)) (.and (.cmp .Eq (.call "_law_key" [(.var 3)]) (.var 2)) (.cmp .Eq (.ix (.var 5) (.con (.int (0)))) (.con (.str "[")))))), .asg (.name 7) (.and (.cmp .IsNot (.var 4) (.con (.non))) (.or (.cmp .Lt (.call "_law_key" [(.var 4)]) (.var 2)) (.and (.cmp .Eq (.call "_law_key" [(.var 4)]) (.var 2)) (.cmp .Eq (.ix (.var 5) (.con (.int (1)))) (.con (.str ")")))))), .iff (.and (.val (.var 6)) (.not (.val (.var 7)))) [.ret (.con (.bl true))] []],
  .ret (.con (.bl false))]⟩
def nm_fnulaw_has : List Str := ["_law_parts", "_law_point", "_law_here", "_law_low", "_law_high", "_law_ends", "_law_begun", "_law_past"]
def ir_fnulaw_key : FnIR := ⟨1, [], 1, [.iff (.val (.isi (.var 0) (.glo "tuple"))) [.ret (.bin .Mult (.ix (.var 0) (.con (.int (0)))) (.bin .FloorDiv (.con (.int (2520))) (.ix (.var 0) (.con (.int (1))))))] [],
  .ret (.ite (.val (.isi (.var 0) (.glo "str"))) (.var 0) (.bin .Mult (.var 0) (.con (.int (2520)))))]⟩
def nm_fnulaw_key : List Str := ["_law_point"]
def ir_fnulaw_point_negative : FnIR := ⟨1, [], 1, [.ret (.ite (.val (.isi (.var 0) (.glo "tuple"))) (.tup [(.un .USub (.ix (.var 0) (.con (.int (0))))), (.ix (.var 0) (.con (.int (1))))]) (.un .USub (.var 0)))]⟩
def nm_fnulaw_point_negative : List Str := ["_law_point"]
def ir_fnulaw_probes : FnIR := ⟨1, [], 4, [.iff (.cmp .Eq (.var 0) (.con (.str "whole"))) [.ret (.bin .Add (.lrng [(.un .USub (.con (.int (9)))), (.con (.int (10)))]) (.lst [.one (.un .USub (.con (.int (1000)))), .one (.con (.int (1000)))]))] [],
  .iff (.cmp .Eq (.var 0) (.con (.str "dense"))) [.ret (.bin .Add (.bin .Add (.lrng [(.un .USub (.con (.int (8)))), (.con (.int (9)))]) (.lc (.name 3) [("_law_k", 3)] (.rng2 (.un .USub (.con (.int (8)))) (.con (.int (8)))) .no (.tup [(.bin .Add (.bin .Mult (.con (.int (2))) (.var 3)) (.con (.int (1)))), (.con (.int (2)))]))) (.lst [.one (.tup [(.con (.int (1))), (.con (.int (3)))]), .one (.tup [(.un .USub (.con (.int (1)))), (.con (.int (9)))]), .one (.un .USub (.con (.int (1000)))), .one (.con (.int (1000)))]))] [],
  .ownE 1 [],
  .for (.name 2) (.items (.call "_law_words" [])) [.ext 1 (.lst [.one (.var 2), .one (.bin .Add (.var 2) (.con (.str "a"))), .one (.bin .Add (.var 2) (.con (.str "aa"))), .one (.bin .Add (.var 2) (.con (.str "b"))), .one (.bin .Add (.var 2) (.con (.str "z")))])],
  .ret (.bin .Add (.var 1) (.lst [.one (.con (.str "zzz"))]))]⟩
def nm_fnulaw_probes : List Str := ["_law_line", "_law_found", "_law_word", "_law_k"]
def ir_fnulaw_is_of : FnIR := ⟨3, [], 4, [.asg (.name 3) (.ite (.val (.var 2)) (.isi (.var 1) (.glo "Range")) (.isi (.var 1) (.glo "RangeSet"))),
  .ret (.and (.var 3) (.cmp .Eq (.attr "line" (.var 1)) (.var 0)))]⟩
def nm_fnulaw_is_of : List Str := ["_law_line", "_law_value", "_law_is_range", "_law_is_right"]
def ir_prp_Range_line : FnIR := ⟨1, [], 1, [.ret (.attr "own_line" (.var 0))]⟩
def nm_prp_Range_line : List Str := ["self"]
def ir_prp_RangeSet_line : FnIR := ⟨1, [], 1, [.ret (.attr "own_line" (.var 0))]⟩
def nm_prp_RangeSet_line : List Str := ["self"]
def ir_fnulaw_lot : FnIR := ⟨3, [], 4, [.ret (.bi .tuple [(.lc (.name 3) [("_law_lap", 3)] (.rng1 (.call "_law_take" [(.var 0), (.bin .Add (.var 2) (.con (.int (1))))])) .no (.call "_law_range" [(.var 0), (.var 1)]))])]⟩
def nm_fnulaw_lot : List Str := ["_law_pot_here", "_law_line", "_law_upto", "_law_lap"]
def ir_fnulaw_made : FnIR := ⟨2, [], 5, [.ret (.mk "RangeSet" [(.var 0), (.bi .tuple [(.lc (.tup [(.name 2), (.name 3), (.name 4)]) [("_law_low", 2), ("_law_high", 3), ("_law_ends", 4)] (.items (.var 1)) .no (.mk "Range" [(.var 0), (.var 2), (.var 3), (.var 4)]))])])]⟩
def nm_fnulaw_made : List Str := ["_law_line", "_law_parts", "_law_low", "_law_high", "_law_ends"]
def en_fnulaw_pot : Ent := ⟨⟨.glo "_law_pot", "_law_pot", "_law_pot", top 90, []⟩, ir_fnulaw_pot, nm_fnulaw_pot, ["_law_script", "_law_k"]⟩
def en_fn_part_pieces : Ent := ⟨⟨.glo "part_pieces", "part_pieces", "part_pieces", top 83, []⟩, ir_fn_part_pieces, nm_fn_part_pieces, ["line", "value"]⟩
def en_fn_is_value : Ent := ⟨⟨.glo "is_value", "is_value", "is_value", top 81, []⟩, ir_fn_is_value, nm_fn_is_value, ["value"]⟩
def en_fn_pieces_in : Ent := ⟨⟨.glo "pieces_in", "pieces_in", "pieces_in", top 80, []⟩, ir_fn_pieces_in, nm_fn_pieces_in, ["value"]⟩
def en_fn_is_end : Ent := ⟨⟨.glo "is_end", "is_end", "is_end", top 39, []⟩, ir_fn_is_end, nm_fn_is_end, ["line", "value"]⟩
def en_fn_is_integer : Ent := ⟨⟨.glo "is_integer", "is_integer", "is_integer", top 33, []⟩, ir_fn_is_integer, nm_fn_is_integer, ["value"]⟩
def en_fn_is_line : Ent := ⟨⟨.glo "is_line", "is_line", "is_line", top 35, []⟩, ir_fn_is_line, nm_fn_is_line, ["value"]⟩
def en_fn_is_letters : Ent := ⟨⟨.glo "is_letters", "is_letters", "is_letters", top 34, []⟩, ir_fn_is_letters, nm_fn_is_letters, ["value"]⟩
def en_fn_cuts_around : Ent := ⟨⟨.glo "cuts_around", "cuts_around", "cuts_around", top 12, []⟩, ir_fn_cuts_around, nm_fn_cuts_around, ["line", "point"]⟩
def en_fn_cut_ahead : Ent := ⟨⟨.glo "cut_ahead", "cut_ahead", "cut_ahead", top 8, []⟩, ir_fn_cut_ahead, nm_fn_cut_ahead, ["line", "end"]⟩
def en_fn_cut_behind : Ent := ⟨⟨.glo "cut_behind", "cut_behind", "cut_behind", top 9, []⟩, ir_fn_cut_behind, nm_fn_cut_behind, ["line", "end"]⟩
def en_fnulaw_take : Ent := ⟨⟨.glo "_law_take", "_law_take", "_law_take", top 91, []⟩, ir_fnulaw_take, nm_fnulaw_take, ["_law_pot_here", "_law_upto"]⟩
def en_fn_law : Ent := ⟨⟨.glo "law", "law", "law", top 106, []⟩, ir_fn_law, nm_fn_law, ["_law_script"]⟩
def en_met_Rangeu_negu : Ent := ⟨⟨.met "Range" "__neg__", "__neg__", "Range.__neg__", inCls (top 78) 29, []⟩, ir_met_Rangeu_negu, nm_met_Rangeu_negu, ["self"]⟩
def en_met_RangeSetu_negu : Ent := ⟨⟨.met "RangeSet" "__neg__", "__neg__", "RangeSet.__neg__", inCls (top 79) 29, []⟩, ir_met_RangeSetu_negu, nm_met_RangeSetu_negu, ["self"]⟩
def en_fn_mirrored : Ent := ⟨⟨.glo "mirrored", "mirrored", "mirrored", top 66, []⟩, ir_fn_mirrored, nm_fn_mirrored, ["line", "pieces"]⟩
def en_fn_mirrored_cut : Ent := ⟨⟨.glo "mirrored_cut", "mirrored_cut", "mirrored_cut", top 14, []⟩, ir_fn_mirrored_cut, nm_fn_mirrored_cut, ["line", "cut"]⟩
def en_fn_check_move : Ent := ⟨⟨.glo "check_move", "check_move", "check_move", top 64, []⟩, ir_fn_check_move, nm_fn_check_move, ["line", "many"]⟩
def en_fn_set_of : Ent := ⟨⟨.glo "set_of", "set_of", "set_of", top 87, []⟩, ir_fn_set_of, nm_fn_set_of, ["line", "pieces"]⟩
def en_mak_RangeSet : Ent := ⟨⟨.mak "RangeSet", "__init__", "RangeSet.__init__", inCls (top 79) 0, [.ref 0]⟩, ir_mak_RangeSet, nm_mak_RangeSet, ["self", "line", "parts"]⟩
def en_fn_range_of : Ent := ⟨⟨.glo "range_of", "range_of", "range_of", top 85, []⟩, ir_fn_range_of, nm_fn_range_of, ["line", "cuts"]⟩
def en_mak_Range : Ent := ⟨⟨.mak "Range", "__init__", "Range.__init__", inCls (top 78) 0, [.non, .non, .str "[)"]⟩, ir_mak_Range, nm_mak_Range, ["self", "line", "low", "high", "ends"]⟩
def en_fn_cuts_of : Ent := ⟨⟨.glo "cuts_of", "cuts_of", "cuts_of", top 11, []⟩, ir_fn_cuts_of, nm_fn_cuts_of, ["line", "low", "high", "ends"]⟩
def en_fn_place_of : Ent := ⟨⟨.glo "place_of", "place_of", "place_of", top 62, []⟩, ir_fn_place_of, nm_fn_place_of, ["line", "cuts"]⟩
def en_fn_high_key : Ent := ⟨⟨.glo "high_key", "high_key", "high_key", top 17, []⟩, ir_fn_high_key, nm_fn_high_key, ["cut"]⟩
def en_fn_low_key : Ent := ⟨⟨.glo "low_key", "low_key", "low_key", top 16, []⟩, ir_fn_low_key, nm_fn_low_key, ["cut"]⟩
def en_fn_check_line : Ent := ⟨⟨.glo "check_line", "check_line", "check_line", top 36, []⟩, ir_fn_check_line, nm_fn_check_line, ["value"]⟩
def en_fn_end_of : Ent := ⟨⟨.glo "end_of", "end_of", "end_of", top 10, []⟩, ir_fn_end_of, nm_fn_end_of, ["line", "cut"]⟩
def en_fn_normal : Ent := ⟨⟨.glo "normal", "normal", "normal", top 57, []⟩, ir_fn_normal, nm_fn_normal, ["some"]⟩
def en_fn_later_cut : Ent := ⟨⟨.glo "later_cut", "later_cut", "later_cut", top 56, []⟩, ir_fn_later_cut, nm_fn_later_cut, ["one", "other"]⟩
def en_fn_is_reached : Ent := ⟨⟨.glo "is_reached", "is_reached", "is_reached", top 55, []⟩, ir_fn_is_reached, nm_fn_is_reached, ["last", "low"]⟩
def en_fn_one_range : Ent := ⟨⟨.glo "one_range", "one_range", "one_range", top 86, []⟩, ir_fn_one_range, nm_fn_one_range, ["line", "pieces"]⟩
def en_met_Rangeu_equ : Ent := ⟨⟨.met "Range" "__eq__", "__eq__", "Range.__eq__", inCls (top 78) 12, []⟩, ir_met_Rangeu_equ, nm_met_Rangeu_equ, ["self", "other"]⟩
def en_met_RangeSetu_equ : Ent := ⟨⟨.met "RangeSet" "__eq__", "__eq__", "RangeSet.__eq__", inCls (top 79) 16, []⟩, ir_met_RangeSetu_equ, nm_met_RangeSetu_equ, ["self", "other"]⟩
def en_met_Rangeu_stru : Ent := ⟨⟨.met "Range" "__str__", "__str__", "Range.__str__", inCls (top 78) 11, []⟩, ir_met_Rangeu_stru, nm_met_Rangeu_stru, ["self"]⟩
def en_fn_cuts_text : Ent := ⟨⟨.glo "cuts_text", "cuts_text", "cuts_text", top 71, []⟩, ir_fn_cuts_text, nm_fn_cuts_text, ["line", "cuts"]⟩
def en_fn_low_text : Ent := ⟨⟨.glo "low_text", "low_text", "low_text", top 69, []⟩, ir_fn_low_text, nm_fn_low_text, ["line", "cut"]⟩
def en_fn_high_text : Ent := ⟨⟨.glo "high_text", "high_text", "high_text", top 70, []⟩, ir_fn_high_text, nm_fn_high_text, ["line", "cut"]⟩
def en_fnulaw_right : Ent := ⟨⟨.glo "_law_right", "_law_right", "_law_right", top 105, []⟩, ir_fnulaw_right, nm_fnulaw_right, ["_law_pot_here", "_law_line"]⟩
def en_fnulaw_range : Ent := ⟨⟨.glo "_law_range", "_law_range", "_law_range", top 95, []⟩, ir_fnulaw_range, nm_fnulaw_range, ["_law_pot_here", "_law_line"]⟩
def en_met_Rangeu_containsu : Ent := ⟨⟨.met "Range" "__contains__", "__contains__", "Range.__contains__", inCls (top 78) 10, []⟩, ir_met_Rangeu_containsu, nm_met_Rangeu_containsu, ["self", "value"]⟩
def en_met_RangeSetu_containsu : Ent := ⟨⟨.met "RangeSet" "__contains__", "__contains__", "RangeSet.__contains__", inCls (top 79) 14, []⟩, ir_met_RangeSetu_containsu, nm_met_RangeSetu_containsu, ["self", "value"]⟩
def en_fn_is_in : Ent := ⟨⟨.glo "is_in", "is_in", "is_in", top 84, []⟩, ir_fn_is_in, nm_fn_is_in, ["line", "pieces", "value"]⟩
def en_fn_has_between : Ent := ⟨⟨.glo "has_between", "has_between", "has_between", top 48, []⟩, ir_fn_has_between, nm_fn_has_between, ["pieces", "low", "high"]⟩
def en_fn_is_point : Ent := ⟨⟨.glo "is_point", "is_point", "is_point", top 40, []⟩, ir_fn_is_point, nm_fn_is_point, ["line", "value"]⟩
def en_fn_is_part : Ent := ⟨⟨.glo "is_part", "is_part", "is_part", top 38, []⟩, ir_fn_is_part, nm_fn_is_part, ["value"]⟩
def en_fn_is_lowest : Ent := ⟨⟨.glo "is_lowest", "is_lowest", "is_lowest", top 37, []⟩, ir_fn_is_lowest, nm_fn_is_lowest, ["top", "bottom"]⟩
def en_fnulaw_end : Ent := ⟨⟨.glo "_law_end", "_law_end", "_law_end", top 94, []⟩, ir_fnulaw_end, nm_fnulaw_end, ["_law_pot_here", "_law_line"]⟩
def en_fnulaw_words : Ent := ⟨⟨.glo "_law_words", "_law_words", "_law_words", top 93, []⟩, ir_fnulaw_words, nm_fnulaw_words, []⟩
def en_fnulaw_of : Ent := ⟨⟨.glo "_law_of", "_law_of", "_law_of", top 92, []⟩, ir_fnulaw_of, nm_fnulaw_of, ["_law_pot_here", "_law_some"]⟩
def en_fnulaw_value_right : Ent := ⟨⟨.glo "_law_value_right", "_law_value_right", "_law_value_right", top 104, []⟩, ir_fnulaw_value_right, nm_fnulaw_value_right, ["_law_pot_here", "_law_line", "_law_value", "_law_lot_here", "_law_is_range"]⟩
def en_met_Rangeu_lshiftu : Ent := ⟨⟨.met "Range" "__lshift__", "__lshift__", "Range.__lshift__", inCls (top 78) 28, []⟩, ir_met_Rangeu_lshiftu, nm_met_Rangeu_lshiftu, ["self", "many"]⟩
def en_met_RangeSetu_lshiftu : Ent := ⟨⟨.met "RangeSet" "__lshift__", "__lshift__", "RangeSet.__lshift__", inCls (top 79) 28, []⟩, ir_met_RangeSetu_lshiftu, nm_met_RangeSetu_lshiftu, ["self", "many"]⟩
def en_fn_moved : Ent := ⟨⟨.glo "moved", "moved", "moved", top 65, []⟩, ir_fn_moved, nm_fn_moved, ["line", "pieces", "many"]⟩
def en_fn_moved_cut : Ent := ⟨⟨.glo "moved_cut", "moved_cut", "moved_cut", top 13, []⟩, ir_fn_moved_cut, nm_fn_moved_cut, ["line", "cut", "many"]⟩
def en_met_Rangeu_rshiftu : Ent := ⟨⟨.met "Range" "__rshift__", "__rshift__", "Range.__rshift__", inCls (top 78) 27, []⟩, ir_met_Rangeu_rshiftu, nm_met_Rangeu_rshiftu, ["self", "many"]⟩
def en_met_RangeSetu_rshiftu : Ent := ⟨⟨.met "RangeSet" "__rshift__", "__rshift__", "RangeSet.__rshift__", inCls (top 79) 27, []⟩, ir_met_RangeSetu_rshiftu, nm_met_RangeSetu_rshiftu, ["self", "many"]⟩
def en_fnulaw_point_less : Ent := ⟨⟨.glo "_law_point_less", "_law_point_less", "_law_point_less", top 101, []⟩, ir_fnulaw_point_less, nm_fnulaw_point_less, ["_law_point", "_law_many"]⟩
def en_fnulaw_has : Ent := ⟨⟨.glo "_law_has", "_law_has", "_law_has", top 99, []⟩, ir_fnulaw_has, nm_fnulaw_has, ["_law_parts", "_law_point"]⟩
def en_fnulaw_key : Ent := ⟨⟨.glo "_law_key", "_law_key", "_law_key", top 98, []⟩, ir_fnulaw_key, nm_fnulaw_key, ["_law_point"]⟩
def en_fnulaw_point_negative : Ent := ⟨⟨.glo "_law_point_negative", "_law_point_negative", "_law_point_negative", top 102, []⟩, ir_fnulaw_point_negative, nm_fnulaw_point_negative, ["_law_point"]⟩
def en_fnulaw_probes : Ent := ⟨⟨.glo "_law_probes", "_law_probes", "_law_probes", top 100, []⟩, ir_fnulaw_probes, nm_fnulaw_probes, ["_law_line"]⟩
def en_fnulaw_is_of : Ent := ⟨⟨.glo "_law_is_of", "_law_is_of", "_law_is_of", top 103, []⟩, ir_fnulaw_is_of, nm_fnulaw_is_of, ["_law_line", "_law_value", "_law_is_range"]⟩
def en_prp_Range_line : Ent := ⟨⟨.prp "Range" "line", "line", "Range.line", inCls (top 78) 2, []⟩, ir_prp_Range_line, nm_prp_Range_line, ["self"]⟩
def en_prp_RangeSet_line : Ent := ⟨⟨.prp "RangeSet" "line", "line", "RangeSet.line", inCls (top 79) 2, []⟩, ir_prp_RangeSet_line, nm_prp_RangeSet_line, ["self"]⟩
def en_fnulaw_lot : Ent := ⟨⟨.glo "_law_lot", "_law_lot", "_law_lot", top 96, []⟩, ir_fnulaw_lot, nm_fnulaw_lot, ["_law_pot_here", "_law_line", "_law_upto"]⟩
def en_fnulaw_made : Ent := ⟨⟨.glo "_law_made", "_law_made", "_law_made", top 97, []⟩, ir_fnulaw_made, nm_fnulaw_made, ["_law_line", "_law_parts"]⟩
def ls0 : List Ent := [en_fn_part_pieces, en_fn_is_value, en_fn_pieces_in, en_fn_is_end, en_fn_is_integer, en_fn_is_line, en_fn_is_letters, en_fn_cuts_around, en_fn_cut_ahead, en_fn_cut_behind, en_met_Rangeu_negu, en_met_RangeSetu_negu]
def ls1 : List Ent := [en_fn_mirrored, en_fn_mirrored_cut, en_fn_check_move, en_fn_set_of, en_fn_range_of, en_fn_cuts_of, en_fn_place_of, en_fn_high_key, en_fn_low_key, en_fn_check_line, en_fn_end_of, en_fn_normal]
def ls2 : List Ent := [en_fn_later_cut, en_fn_is_reached, en_fn_one_range, en_met_Rangeu_equ, en_met_RangeSetu_equ, en_met_Rangeu_stru, en_fn_cuts_text, en_fn_low_text, en_fn_high_text, en_fnulaw_right, en_fnulaw_range, en_met_Rangeu_containsu]
def ls3 : List Ent := [en_met_RangeSetu_containsu, en_fn_is_in, en_fn_has_between, en_fn_is_point, en_fn_is_part, en_fn_is_lowest, en_fnulaw_end, en_fnulaw_words, en_fnulaw_of, en_fnulaw_value_right, en_met_Rangeu_lshiftu, en_met_RangeSetu_lshiftu]
def ls4 : List Ent := [en_fn_moved, en_fn_moved_cut, en_met_Rangeu_rshiftu, en_met_RangeSetu_rshiftu, en_fnulaw_point_less, en_fnulaw_has, en_fnulaw_key, en_fnulaw_point_negative, en_fnulaw_probes, en_fnulaw_is_of, en_prp_Range_line, en_prp_RangeSet_line]
def ls5 : List Ent := [en_fnulaw_lot, en_fnulaw_made]
def lsD : List Ent := [en_mak_RangeSet, en_mak_Range]
def lsX : List Ent := [en_fnulaw_take, en_fnulaw_pot, en_fn_law]
def LS : List Ent := ls0 ++ (ls1 ++ (ls2 ++ (ls3 ++ (ls4 ++ (ls5 ++ (lsD))))))
def LX : List Ent := LS ++ lsX
def p_glo : List (Str × D) := [("Range", .cls "Range"),
  ("RangeSet", .cls "RangeSet"),
  ("WORDS", (.str "words")),
  ("int", .ty "int"),
  ("bool", .ty "bool"),
  ("str", .ty "str"),
  ("LINES", (.tup [(.str "whole"), (.str "dense"), (.str "words")])),
  ("LETTERS", (.str "abcdefghijklmnopqrstuvwxyz")),
  ("tuple", .ty "tuple"),
  ("FIRST_WORD", (.str "a")),
  ("BRACKETS", (.tup [(.str "[)"), (.str "[]"), (.str "(]"), (.str "()")])),
  ("DENSE", (.str "dense")),
  ("EMPTY", (.str "empty")),
  ("PAIR", (.int (2))),
  ("LEAST_BOTTOM", (.int (2))),
  ("MOST_BOTTOM", (.int (9)))]
def p_tab : List (Str × List (Str × D)) := [("STEPS", [("whole", (.int (1))), ("dense", (.int (2)))]), ("SOME_END", [("whole", (.int (0))), ("dense", (.int (0))), ("words", (.str "b"))])]
def p_fld : List (Str × Str) := [("Range", "own_line"), ("Range", "own_cuts"), ("Range", "own_place"), ("RangeSet", "own_line"), ("RangeSet", "own_pieces"), ("RangeSet", "own_points"), ("RangeSet", "own_rows")]
def p_known : List Str := ["Range", "RangeSet"]
def prog : Prog := progOf LS p_glo p_tab p_fld p_known [("_law_take", ⟨2, [], takeT⟩)]
theorem ok_ls0 : ls0.all (fun e => entB p_fld e && plainB e) = true := by decide +kernel
theorem ok_ls1 : ls1.all (fun e => entB p_fld e && plainB e) = true := by decide +kernel
theorem ok_ls2 : ls2.all (fun e => entB p_fld e && plainB e) = true := by decide +kernel
theorem ok_ls3 : ls3.all (fun e => entB p_fld e && plainB e) = true := by decide +kernel
theorem ok_ls4 : ls4.all (fun e => entB p_fld e && plainB e) = true := by decide +kernel
theorem ok_ls5 : ls5.all (fun e => entB p_fld e && plainB e) = true := by decide +kernel
theorem ok_lsD : lsD.all (fun e => entB p_fld e) = true := by decide +kernel
theorem ok_lsX : lsX.all (fun e => entB p_fld e && plainB e) = true := by decide +kernel
end Rc

-- Hk09
set_option Elab.async false
set_option linter.all false
set_option maxRecDepth 100000
set_option maxHeartbeats 0
namespace Rc
open PySem PySem.Spec PyProof.Rows L2
def lo0 : List Str := ["_wall", "WHOLE", "DENSE", "WORDS", "LINES", "FIRST_WORD", "STEPS", "cut_ahead", "cut_behind", "end_of", "cuts_of", "cuts_around", "moved_cut", "mirrored_cut", "least_of", "low_key", "high_key", "RangeError", "BadLine", "BadPoint", "BadEnds", "Turned", "UnlikeLines", "NoMove", "BadMove"]
def lo1 : List Str := ["BadParts", "LETTERS", "LEAST_BOTTOM", "MOST_BOTTOM", "PAIR", "is_integer", "is_letters", "is_line", "check_line", "is_lowest", "is_part", "is_end", "is_point", "EITHER", "BOTH", "LESS", "ONE_ALONE", "ALL", "cuts_in", "has_between", "combined", "either", "both", "less", "one_alone"]
def lo2 : List Str := ["rest", "is_reached", "later_cut", "normal", "hull", "is_within", "told_end", "place_of", "least_in", "check_move", "moved", "mirrored", "EMPTY", "low_text", "high_text", "cuts_text", "pieces_text", "brackets_of", "BRACKETS", "AT_AN_END", "SOME_END", "Range", "RangeSet", "pieces_in", "is_value"]
def lo3 : List Str := ["is_operand", "part_pieces", "is_in", "range_of", "one_range", "set_of", "hull_of", "_law_pot", "_law_take", "_law_of", "_law_words", "_law_end", "_law_range", "_law_lot", "_law_made", "_law_key", "_law_has", "_law_probes", "_law_point_less", "_law_point_negative", "_law_is_of", "_law_value_right", "_law_right"]
def loose : List Str := lo0 ++ lo1 ++ lo2 ++ lo3
def facts : Facts := factsOf p_known LX p_glo p_tab p_fld p_known
open PySem.W PySem.Calls HandSHeadRun
abbrev R : PySem.W.OpenRow := PySem.W.OpenLaw.row PySem.Challenge.rw_rangecells_k09_moved_and_mirrored
abbrev hk : PySem.W.Hook := hookH facts 11
abbrev vw : Program := PySem.W.view R.prog [106]
theorem run_fa (w : World) (os : OsState) : (endF (stepQ (denQ tabQ) R.prog (w.withFollow "special-get-raises" false)) 20000 R.prog (w.withFollow "special-get-raises" false) os).map (fun s => (looksF R.prog (boot_heap (w.withFollow "special-get-raises" false).params) s.abs, seenQ vw loose (importedModules R.prog.main.body) (fun s => xlAt vw [] s && recOk R.toRowW.records s) s.abs)) = some ((true, openGood vw loose)) := by
  kernel_rfl
theorem run_fb (w : World) (os : OsState) : (endF (stepQ (denQ tabQ) R.prog (w.withFollow "special-get-raises" false)) 20000 R.prog (w.withFollow "special-get-raises" false) os).map (fun s => (obH facts 11 s).1) = some (true) := by
  kernel_rfl
theorem run_fc (w : World) (os : OsState) : (endF (stepQ (denQ tabQ) R.prog (w.withFollow "special-get-raises" false)) 20000 R.prog (w.withFollow "special-get-raises" false) os).map (fun s => (obH facts 11 s).2) = some ((valK facts (w.withFollow "special-get-raises" false)).2) := by
  kernel_rfl
theorem run_f (w : World) : RunEq R vw hk (obH facts 11) 20000 loose (w.withFollow "special-get-raises" false) := fun os => look3 (h := obH facts 11) (c := valK facts (w.withFollow "special-get-raises" false)) (run_fa w os) (run_fb w os) (run_fc w os)
theorem run_ta (w : World) (os : OsState) : (endF (stepQ (denQ tabQ) R.prog (w.withFollow "special-get-raises" true)) 20000 R.prog (w.withFollow "special-get-raises" true) os).map (fun s => (looksF R.prog (boot_heap (w.withFollow "special-get-raises" true).params) s.abs, seenQ vw loose (importedModules R.prog.main.body) (fun s => xlAt vw [] s && recOk R.toRowW.records s) s.abs)) = some ((true, openGood vw loose)) := by
  kernel_rfl
theorem run_tb (w : World) (os : OsState) : (endF (stepQ (denQ tabQ) R.prog (w.withFollow "special-get-raises" true)) 20000 R.prog (w.withFollow "special-get-raises" true) os).map (fun s => (obH facts 11 s).1) = some (true) := by
  kernel_rfl
theorem run_tc (w : World) (os : OsState) : (endF (stepQ (denQ tabQ) R.prog (w.withFollow "special-get-raises" true)) 20000 R.prog (w.withFollow "special-get-raises" true) os).map (fun s => (obH facts 11 s).2) = some ((valK facts (w.withFollow "special-get-raises" true)).2) := by
  kernel_rfl
theorem run_t (w : World) : RunEq R vw hk (obH facts 11) 20000 loose (w.withFollow "special-get-raises" true) := fun os => look3 (h := obH facts 11) (c := valK facts (w.withFollow "special-get-raises" true)) (run_ta w os) (run_tb w os) (run_tc w os)
theorem run_w (w : World) : RunEq R vw hk (obH facts 11) 20000 loose w := PySem.W.byRow2 "special-get-raises" run_f run_t w
end Rc

-- Rp1
set_option Elab.async false
set_option linter.all false
set_option maxRecDepth 100000
set_option maxHeartbeats 1000000
namespace Rc
open PySem PySem.Spec PyProof.Rows L2

/-! ### whatever is drawn -/
def Tr.ok {α : Type} (Q : α → Prop) : Nat → Tr α → Prop
  | _, .ret a => Q a
  | n + 1, .ask m k => 0 < m ∧ m < 2 ^ 30 ∧ ∀ i, 0 ≤ i → i < m → (k i).ok Q n
  | _, _ => False
theorem Tr.ok_more {α : Type} {Q Q' : α → Prop} (hq : ∀ a, Q a → Q' a) : ∀ {n m : Nat} {t : Tr α}, n ≤ m → t.ok Q n → t.ok Q' m
  | n, m, .ret a, _, h => by cases n <;> cases m <;> exact hq a h
  | 0, m, .ask _ _, _, h => h.elim
  | n + 1, 0, .ask _ _, l, h => by omega
  | n + 1, m + 1, .ask c k, l, ⟨h1, h2, h3⟩ => ⟨h1, h2, fun i a b => Tr.ok_more hq (by omega) (h3 i a b)⟩
  | n, m, .fail, _, h => by cases n <;> exact h.elim
  | n, m, .get _, _, h => by cases n <;> exact h.elim
  | n, m, .put _ _, _, h => by cases n <;> exact h.elim
theorem Tr.ok_bind {α β : Type} {Q : β → Prop} {f : α → Tr β} {m : Nat} : ∀ {n : Nat} {t : Tr α}, t.ok (fun a => (f a).ok Q m) n → (t.bind f).ok Q (n + m)
  | n, .ret a, h => by
    have h' : (f a).ok Q m := by cases n <;> exact h
    exact Tr.ok_more (fun _ z => z) (by omega) h'
  | 0, .ask _ _, h => h.elim
  | n + 1, .ask c k, ⟨h1, h2, h3⟩ => by
    rw [show n + 1 + m = (n + m) + 1 by omega]
    exact ⟨h1, h2, fun i a b => Tr.ok_bind (h3 i a b)⟩
  | n, .fail, h => by cases n <;> exact h.elim
  | n, .get _, h => by cases n <;> exact h.elim
  | n, .put _ _, h => by cases n <;> exact h.elim
theorem Tr.ok_ret {α : Type} {Q : α → Prop} {a : α} (h : Q a) (n : Nat) : (Tr.ret a).ok Q n := by cases n <;> exact h
theorem take_ok {p : Pot} {m : Int} (hp : potB p = true) (hc : p.c + 1 < 2 ^ 30) (h1 : 0 < m) (h2 : m < 2 ^ 30) : ∃ i p', takeP p m = some (i, p') ∧ 0 ≤ i ∧ i < m ∧ potB p' = true ∧ p'.c ≤ p.c + 1 := by
  have hp' := hp
  unfold potB at hp'
  simp only [decide_eq_true_eq] at hp'
  obtain ⟨b1, b2, b3, b4, b5, b6⟩ := hp'
  unfold takeP
  rw [if_pos ⟨hp, h1, h2⟩]
  by_cases ho : 0 < p.o
  · rw [if_pos ho]
    refine ⟨_, _, rfl, Int.emod_nonneg _ (by omega), Int.emod_lt_of_pos _ h1, ?_, by show p.c ≤ p.c + 1; omega⟩
    unfold potB
    simp only [decide_eq_true_eq]
    have q1 : 0 ≤ p.o / m := Int.ediv_nonneg b1 (by omega)
    have q2 : p.o / m ≤ p.o := Int.ediv_le_self _ b1
    exact ⟨q1, Int.lt_of_le_of_lt q2 b2, b3, b4, b5, b6⟩
  · rw [if_neg ho]
    refine ⟨_, _, rfl, Int.emod_nonneg _ (by omega), Int.emod_lt_of_pos _ h1, ?_, Int.le_refl _⟩
    unfold potB
    simp only [decide_eq_true_eq]
    exact ⟨b1, b2, b3, b4, by omega, hc⟩
theorem Tr.ok_run {α : Type} {Q : α → Prop} : ∀ {n : Nat} {t : Tr α} {p : Pot}, t.ok Q n → potB p = true → p.c + n < 2 ^ 30 → ∃ a p', t.run p = some (a, p') ∧ Q a ∧ potB p' = true ∧ p'.c ≤ p.c + n
  | n, .ret a, p, h, hp, hc => ⟨a, p, rfl, by cases n <;> exact h, hp, by omega⟩
  | 0, .ask _ _, _, h, _, _ => h.elim
  | n + 1, .ask m k, p, ⟨h1, h2, h3⟩, hp, hc => by
    obtain ⟨i, p1, e1, i1, i2, b1, c1⟩ := take_ok hp (by omega) h1 h2
    obtain ⟨a, p2, e2, q, b2, c2⟩ := Tr.ok_run (h3 i i1 i2) b1 (by omega)
    refine ⟨a, p2, ?_, q, b2, by omega⟩
    show (takeP p m).bind (fun r => (k r.1).run r.2) = _
    rw [e1]
    exact e2
  | n, .fail, _, h, _, _ => by cases n <;> exact h.elim
  | n, .get _, _, h, _, _ => by cases n <;> exact h.elim
  | n, .put _ _, _, h, _, _ => by cases n <;> exact h.elim
/-- by running it at every draw -/
def Tr.okB {α : Type} (q : α → Bool) : Nat → Tr α → Bool
  | _, .ret a => q a
  | n + 1, .ask m k => decide (0 < m) && decide (m < 2 ^ 30) && (List.range m.toNat).all fun i => (k (Int.ofNat i)).okB q n
  | _, _ => false
theorem Tr.ok_of {α : Type} {q : α → Bool} : ∀ {n : Nat} {t : Tr α}, t.okB q n = true → t.ok (fun a => q a = true) n
  | n, .ret a, h => by cases n <;> exact h
  | 0, .ask _ _, h => by cases h
  | n + 1, .ask m k, h => by
    simp only [Tr.okB, Bool.and_eq_true, decide_eq_true_eq, List.all_eq_true] at h
    refine ⟨h.1.1, h.1.2, fun i a b => ?_⟩
    have z := h.2 i.toNat (by simp; omega)
    have e : Int.ofNat i.toNat = i := Int.toNat_of_nonneg a
    rw [e] at z
    exact Tr.ok_of z
  | n, .fail, h => by cases n <;> cases h
  | n, .get _, h => by cases n <;> cases h
  | n, .put _ _, h => by cases n <;> cases h
end Rc

-- Rp2
set_option Elab.async false
set_option linter.all false
set_option maxRecDepth 100000
set_option maxHeartbeats 1000000
namespace Rc
open PySem PySem.Spec PyProof.Rows L2
/-! ### statements that draw -/
theorem Tr.bind_bind {α β γ : Type} (f : α → Tr β) (g : β → Tr γ) : ∀ t : Tr α, (t.bind f).bind g = t.bind fun a => (f a).bind g
  | .ret a => rfl
  | .fail => rfl
  | .ask n k => by
    show Tr.ask n _ = Tr.ask n _
    congr 1; funext i; exact Tr.bind_bind f g (k i)
  | .get k => by
    show Tr.get _ = Tr.get _
    congr 1; funext i; exact Tr.bind_bind f g (k i)
  | .put p t => by
    show Tr.put p _ = Tr.put p _
    congr 1; exact Tr.bind_bind f g t
theorem Tr.bind_ret {α : Type} : ∀ t : Tr α, t.bind Tr.ret = t
  | .ret a => rfl
  | .fail => rfl
  | .ask n k => by
    show Tr.ask n _ = Tr.ask n _
    congr 1; funext i; exact Tr.bind_ret (k i)
  | .get k => by
    show Tr.get _ = Tr.get _
    congr 1; funext i; exact Tr.bind_ret (k i)
  | .put p t => by
    show Tr.put p _ = Tr.put p _
    congr 1; exact Tr.bind_ret t
/-- whatever is drawn, shut -/
structure Kp {α : Type} (Q : α → Prop) (n : Nat) (t : Tr α) : Prop where
  ok : t.ok Q n
theorem Kp.ret {α : Type} {Q : α → Prop} {a : α} {n : Nat} (h : Q a) : Kp Q n (.ret a) := ⟨Tr.ok_ret h n⟩
theorem Kp.of {α : Type} {Q : α → Prop} {a : α} {n : Nat} {t : Tr α} (e : t = .ret a) (h : Q a) : Kp Q n t := by rw [e]; exact .ret h
theorem Kp.eq {α : Type} {Q : α → Prop} {n : Nat} {t t' : Tr α} (e : t = t') (h : Kp Q n t') : Kp Q n t := by rw [e]; exact h
theorem Kp.ask {α : Type} {Q : α → Prop} {n : Nat} {m : Int} {k : Int → Tr α} (h1 : 0 < m) (h2 : m < 2 ^ 30) (h : ∀ i, 0 ≤ i → i < m → Kp Q n (k i)) : Kp Q (n + 1) (.ask m k) := ⟨⟨h1, h2, fun i a b => (h i a b).ok⟩⟩
theorem Kp.im {α : Type} {Q Q' : α → Prop} {n m : Nat} {t : Tr α} (h : Kp Q n t) (hn : n ≤ m) (hq : ∀ a, Q a → Q' a) : Kp Q' m t := ⟨Tr.ok_more hq hn h.ok⟩
theorem Kp.le {α : Type} {Q : α → Prop} {n m : Nat} {t : Tr α} (h : Kp Q n t) (hn : n ≤ m) : Kp Q m t := h.im hn fun _ z => z
theorem Kp.bind {α β : Type} {P : α → Prop} {Q : β → Prop} {f : α → Tr β} {n m : Nat} {t : Tr α} (h : Kp P n t) (hf : ∀ a, P a → Kp Q m (f a)) : Kp Q (n + m) (t.bind f) :=
  ⟨Tr.ok_bind (Tr.ok_more (fun a z => (hf a z).ok) (Nat.le_refl _) h.ok)⟩
theorem Kp.to0 {α : Type} {a : α} {t : Tr α} (h : Kp (· = a) 0 t) : t = .ret a := by
  cases t with
  | ret b => exact congrArg _ h.ok
  | _ => exact h.ok.elim
section
variable {G : Gs} {env : Env} {a b : IE} {c : IT} {r s : List IS} {Q : Fw → Prop} {P : D → Prop} {n m k i j l : Nat}
theorem k_asg (h : Kp P n (em G a env)) (hr : ∀ d, P d → Kp Q m (sss G r (env.set i (some (.dat d))))) : Kp Q (n + m) (sss G (.asg (.name i) a :: r) env) := by
  have e : sss G (.asg (.name i) a :: r) env = (em G a env).bind fun d => sss G r (env.set i (some (.dat d))) := by
    simp only [sss, ss, Tr.bind_bind, setT, Tr.of, Tr.bind]
  exact .eq e (h.bind hr)
theorem k_asg2 (h : Kp (fun d => ∃ x y, d = .tup [x, y] ∧ P d) n (em G a env)) (hr : ∀ x y, P (.tup [x, y]) → Kp Q m (sss G r ((env.set i (some (.dat x))).set j (some (.dat y))))) : Kp Q (n + m) (sss G (.asg (.tup [.name i, .name j]) a :: r) env) := by
  have e : sss G (.asg (.tup [.name i, .name j]) a :: r) env = (em G a env).bind fun d => (Tr.of (setT (.tup [.name i, .name j]) d env)).bind fun e => sss G r e := by
    simp only [sss, ss, Tr.bind_bind, Tr.of, Tr.bind]
  refine .eq e (h.bind fun d hd => ?_)
  obtain ⟨x, y, rfl, q⟩ := hd
  exact hr x y q
theorem k_asg3 (h : Kp (fun d => ∃ x y z, d = .tup [x, y, z] ∧ P d) n (em G a env)) (hr : ∀ x y z, P (.tup [x, y, z]) → Kp Q m (sss G r (((env.set i (some (.dat x))).set j (some (.dat y))).set l (some (.dat z))))) : Kp Q (n + m) (sss G (.asg (.tup [.name i, .name j, .name l]) a :: r) env) := by
  have e : sss G (.asg (.tup [.name i, .name j, .name l]) a :: r) env = (em G a env).bind fun d => (Tr.of (setT (.tup [.name i, .name j, .name l]) d env)).bind fun e => sss G r e := by
    simp only [sss, ss, Tr.bind_bind, Tr.of, Tr.bind]
  refine .eq e (h.bind fun d hd => ?_)
  obtain ⟨x, y, z, rfl, q⟩ := hd
  exact hr x y z q
theorem k_par2 {P2 : D → D → Prop} (h : Kp P n (em G a env)) (h2 : ∀ x, P x → Kp (P2 x) k (em G b env)) (hr : ∀ x y, P x → P2 x y → Kp Q m (sss G r ((env.set i (some (.dat x))).set j (some (.dat y))))) : Kp Q (n + (k + m)) (sss G (.par2 i j a b :: r) env) := by
  have e : sss G (.par2 i j a b :: r) env = (em G a env).bind fun x => (em G b env).bind fun y => sss G r ((env.set i (some (.dat x))).set j (some (.dat y))) := by
    simp only [sss, ss, ems, Tr.bind_bind, setTs, setT, Tr.of, Tr.bind, Option.bind_some]
  exact .eq e (h.bind fun x hx => (h2 x hx).bind fun y hy => hr x y hx hy)
theorem k_iff {t : List IS} {PB : Bool → Prop} (h : Kp PB n (emT G c env)) (h1 : PB true → Kp Q m (sss G (s ++ r) env)) (h2 : PB false → Kp Q m (sss G (t ++ r) env)) : Kp Q (n + m) (sss G (.iff c s t :: r) env) := by
  have ap : ∀ (s : List IS) (env : Env), sss G (s ++ r) env = (sss G s env).bind fun w => match w with
      | .nx e => sss G r e
      | w => .ret w := by
    intro s
    induction s with
    | nil => intro env; simp only [List.nil_append, sss, Tr.bind]
    | cons x s ih =>
      intro env
      simp only [List.cons_append, sss, Tr.bind_bind]
      congr 1; funext w
      cases w <;> simp only [Tr.bind, ih]
  have e : sss G (.iff c s t :: r) env = (emT G c env).bind fun b => if b then sss G (s ++ r) env else sss G (t ++ r) env := by
    simp only [sss, ss, Tr.bind_bind]
    congr 1; funext b
    cases b
    · exact (ap t env).symm
    · exact (ap s env).symm
  refine .eq e (h.bind fun b hb => ?_)
  cases b
  · exact h2 hb
  · exact h1 hb
theorem k_ret {P : D → Prop} (h : Kp P n (em G a (freeze env))) : Kp (fun w => ∃ d, w = .rt d ∧ P d) n (sss G (.ret a :: r) env) := by
  have e : sss G (.ret a :: r) env = (em G a (freeze env)).bind fun d => .ret (.rt d) := by
    simp only [sss, ss, Tr.bind_bind, Tr.bind]
  exact .eq e ((h.bind (m := 0) fun d hd => .ret ⟨d, rfl, hd⟩))
theorem k_run {ds : List D} {ir : List IS} {k : Nat} {Q : D → Prop} (he : env0 m ds = env) (h : Kp (fun w => ∃ d, w = .rt d ∧ Q d) k (sss G ir env)) : Kp Q k (runT G m ir ds) := by
  subst he
  exact h.bind (m := 0) fun w hw => by obtain ⟨d, rfl, q⟩ := hw; exact .ret q
theorem run_call {ds args : List D} {x : Str} {as : List IE} (h : ems G as (freeze (env0 m ds)) = .ret args) : runT G m [.ret (.call x as)] ds = callT (G.fn x) args := by
  simp only [runT, sss, ss, em, h, Tr.bind, Tr.bind_bind, endT]
  exact Tr.bind_ret _
end
/-- a list comprehension whose items draw -/
theorem k_lc {g : D → Option Env} {c : Env → Tr Bool} {e : Env → Tr D} {P : D → Prop} {n : Nat} : ∀ {ds : List D}, (∀ d ∈ ds, ∃ env1, g d = some env1 ∧ c env1 = .ret true ∧ Kp P n (e env1)) → Kp (fun r => r.length = ds.length ∧ ∀ x ∈ r, P x) (n * ds.length) (lcT g c e ds)
  | [], _ => .ret ⟨rfl, fun _ z => by cases z⟩
  | d :: ds, h => by
    obtain ⟨env1, h1, h2, h3⟩ := h d List.mem_cons_self
    have ih := k_lc (g := g) (c := c) (e := e) (P := P) (n := n) (ds := ds) fun x hx => h x (List.mem_cons_of_mem _ hx)
    have e1 : lcT g c e (d :: ds) = (e env1).bind fun r => (lcT g c e ds).bind fun q => .ret (r :: q) := by
      simp only [lcT, h1, h2, Tr.of, Tr.bind, if_true]
    rw [e1, List.length_cons, Nat.mul_succ, Nat.add_comm (n * ds.length) n]
    refine h3.bind (m := n * ds.length) fun x hx => (ih.bind (m := 0) fun q hq => Kp.ret ⟨by simp [hq.1], fun y hy => ?_⟩)
    rcases List.mem_cons.mp hy with rfl | z
    · exact hx
    · exact hq.2 y z
end Rc

-- Rp3
set_option Elab.async false
set_option linter.all false
set_option maxRecDepth 100000
set_option maxHeartbeats 1000000
namespace Rc
open PySem PySem.Spec PyProof.Rows L2
/-! ### repr of flat tuples -/
def leafD : D → Prop
  | .non => True
  | .int x => x.natAbs < 10 ^ 12
  | .str x => (∀ c ∈ x.cps.toList, c < 16 ^ 8) ∧ x.length ≤ 10000
  | _ => False
theorem leaf_ok {d : D} (h : leafD d) : plainD d = true ∧ depD d = 0 ∧ (toPy d).showable = true ∧ (toPy d).shown.length ≤ 100010 := by
  cases d <;> first | (exact h.elim) | skip
  · exact ⟨rfl, rfl, rfl, by decide +kernel⟩
  · rename_i x
    have h' : x.natAbs < 10 ^ 12 := h
    refine ⟨rfl, rfl, ?_, ?_⟩
    · show decide (x.natAbs.log2 < 1920) = true
      apply decide_eq_true
      by_cases z : x.natAbs = 0
      · rw [z]; decide
      · exact (Nat.log2_lt z).mpr (Nat.lt_of_lt_of_le h' (by decide +kernel))
    · show (PyData.shown (.int x)).length ≤ _
      exact Nat.le_trans (PyData.shown_int_le h') (by decide)
  · rename_i x
    have h' : (∀ c ∈ x.cps.toList, c < 16 ^ 8) ∧ x.length ≤ 10000 := h
    refine ⟨rfl, rfl, rfl, ?_⟩
    show (reprText x).length ≤ _
    have := StrLaws.reprText_len x h'.1
    omega
theorem leaves_ok : ∀ {ds : List D}, (∀ d ∈ ds, leafD d) → plainDs ds = true ∧ depDs ds = 0 ∧ PyData.showableAll (toPys ds) = true ∧ ((PyData.shownAll (toPys ds)).map (·.length)).sum ≤ 100010 * ds.length ∧ (PyData.shownAll (toPys ds)).length = ds.length
  | [], _ => ⟨rfl, rfl, rfl, Nat.le_refl _, rfl⟩
  | d :: ds, h => by
    obtain ⟨a1, a2, a3, a4⟩ := leaf_ok (h d List.mem_cons_self)
    obtain ⟨b1, b2, b3, b4, b5⟩ := leaves_ok (ds := ds) fun x hx => h x (List.mem_cons_of_mem _ hx)
    refine ⟨?_, ?_, ?_, ?_, ?_⟩
    · simp only [plainDs, a1, b1, Bool.and_self]
    · simp only [depDs, a2, b2, Nat.max_self]
    · simp only [toPys, PyData.showableAll, a3, b3, Bool.and_self]
    · simp only [toPys, PyData.shownAll, List.map_cons, List.sum_cons, List.length_cons]
      omega
    · simp only [toPys, PyData.shownAll, List.length_cons, b5]
theorem rep_tup {ds : List D} (h : ∀ d ∈ ds, leafD d) (hl : ds.length ≤ 100) : repOk (.tup ds) = true := by
  obtain ⟨b1, b2, b3, b4, b5⟩ := leaves_ok h
  have z : (tupleText (PyData.shownAll (toPys ds))).length ≤ sizeLine := by
    have := tupleText_len_le (PyData.shownAll (toPys ds))
    have e : sizeLine = 16777216 := by decide
    omega
  unfold repOk okD
  simp only [plainD, depD, b1, b2, toPy, PyData.showable, PyData.shown, b3, z, decide_true, Bool.and_self]
  rfl
theorem rcmp_same {eq : Bool} {d : D} (h : repOk d = true) : rcmpD eq d d = some (.bl eq) := by
  unfold rcmpD
  rw [h]
  cases eq <;> simp
end Rc

-- Rp4
set_option Elab.async false
set_option linter.all false
set_option maxRecDepth 100000
set_option maxHeartbeats 1000000
namespace Rc
open PySem PySem.Spec PyProof.Rows L2
/-! ### the law's frame in plain terms -/
theorem turn_of {G : Gs} {R : List IS} {env : Env} {m N : Nat} {ns : List Int} {j : Nat} (hN : N < 2 ^ 30) (h : Kp (fun w => ∃ env', w = .nx env' ∧ env'[0]? = some (some (.dat (.scr ns))) ∧ env'.length = m) N (sss G R env)) :
    ∃ env' p', (sss G R env).run (newP ns j) = some (.nx env', p') ∧ env'[0]? = some (some (.dat (.scr ns))) ∧ env'.length = m := by
  have hc : (newP ns j).c = 0 := rfl
  obtain ⟨a, p', e, ⟨env', rfl, q1, q2⟩, _, _⟩ := Tr.ok_run h.ok (newP_ok ns j) (by rw [hc]; omega)
  exact ⟨env', p', e, q1, q2⟩
theorem it_of (G : Gs) (m : Nat) (b : Nat) (hm : 1 ≤ m) (hb : 1 ≤ b ∧ b ≤ 100) (ns : List Int) : ∃ n : Nat, n ≤ 1000 ∧ emI G (.rng1 (.bi .max [.con (.int 1), .bi .min [.con (.int b), .bi .len [.var 0]]])) (env0 m [.scr ns]) = .ret ((List.range n).map fun (i : Nat) => D.int i) := by
  obtain ⟨m, rfl⟩ : ∃ k, m = k + 1 := ⟨m - 1, by omega⟩
  have e0 : env0 (m + 1) [.scr ns] = some (.dat (.scr ns)) :: List.replicate m none := rfl
  have key : ∃ n : Nat, n ≤ 1000 ∧ (if (if (ns.length : Int) < (b : Int) then (ns.length : Int) else (b : Int)) > 1 then (if (ns.length : Int) < (b : Int) then (ns.length : Int) else (b : Int)) else 1) = (n : Int) := by
    refine ⟨max 1 (min b ns.length), by omega, ?_⟩
    repeat' split
    all_goals omega
  obtain ⟨n, hn, e⟩ := key
  refine ⟨n, hn, ?_⟩
  rw [e0]
  simp only [emI, em, ems, mVar, Tr.bind, bifT, lenD, minD, maxD, Tr.of, List.getElem?_cons_zero, e]
  have hr : rngD [.int (n : Int)] = some ((List.range n).map fun (i : Nat) => D.int i) := by
    simp only [rngD]
    rw [if_pos (by constructor <;> omega)]
    simp
  rw [hr]
theorem bools_true : ∀ {ds : List D}, (∀ d ∈ ds, d = .bl true) → bools ds = some (ds.map fun _ => true)
  | [], _ => rfl
  | d :: ds, h => by
    have e := h d List.mem_cons_self
    subst e
    simp [bools, bools_true (ds := ds) fun x hx => h x (List.mem_cons_of_mem _ hx)]
theorem all_true {G : Gs} {ds : List D} (h : ∀ d ∈ ds, d = .bl true) : bifT G .all [.lst ds] = .ret (.bl true) := by
  simp [bifT, allD, bools_true h, Tr.of]
/-- all([f(pot) for lap in range(k)]) where each is True -/
theorem k_laps {G : Gs} {env : Env} {x : Str} {i j k n : Nat} {nm : Str} (hj : env[j]? = some (some (.dat .pot))) (hij : i ≠ j) (hk : k ≤ 1000) (h : Kp (fun d => d = .bl true) n (callT (G.fn x) [.pot])) : Kp (fun d => d = .bl true) (n * k) (em G (.bi .all [.lc (.name i) [(nm, i)] (.rng1 (.con (.int k))) .no (.call x [.var j])]) env) := by
  have hr : emI G (.rng1 (.con (.int k))) env = .ret ((List.range k).map fun (i : Nat) => D.int (0 + i)) := by
    simp only [emI, em, Tr.bind, rngD]
    rw [if_pos (by constructor <;> omega)]
    simp [Tr.of]
  have hl : ((List.range k).map fun (i : Nat) => D.int (0 + i)).length ≤ sizeLine := by
    simp only [List.length_map, List.length_range]
    exact Nat.le_trans hk (by decide)
  have hw : ∀ d : D, ((wipeE env [i]).set i (some (.dat d)))[j]? = some (some (.dat .pot)) := by
    intro d
    rw [List.getElem?_set_ne hij]
    have : ∀ (env : Env), env[j]? = some (some (.dat .pot)) → (wipeE env [i])[j]? = some (some (.dat .pot)) := by
      intro env hj
      show (env.set i none)[j]? = _
      rw [List.getElem?_set_ne hij]
      exact hj
    exact this env hj
  have L := k_lc (g := fun d => setT (.name i) d (wipeE env [i])) (c := emC G .no) (e := em G (.call x [.var j])) (P := fun d => d = .bl true) (n := n) (ds := (List.range k).map fun (i : Nat) => D.int (0 + i)) (by
    intro d hd
    refine ⟨_, rfl, rfl, ?_⟩
    have e : em G (.call x [.var j]) ((wipeE env [i]).set i (some (.dat d))) = callT (G.fn x) [.pot] := by
      simp only [em, ems, mVar, hw, Tr.bind]
    exact .eq e h)
  have e : em G (.bi .all [.lc (.name i) [(nm, i)] (.rng1 (.con (.int k))) .no (.call x [.var j])]) env = (lcT (fun d => setT (.name i) d (wipeE env [i])) (emC G .no) (em G (.call x [.var j])) ((List.range k).map fun (i : Nat) => D.int (0 + i))).bind fun r => bifT G .all [.lst r] := by
    have e2 : em G (.lc (.name i) [(nm, i)] (.rng1 (.con (.int k))) .no (.call x [.var j])) env = (lcT (fun d => setT (.name i) d (wipeE env [i])) (emC G .no) (em G (.call x [.var j])) ((List.range k).map fun (i : Nat) => D.int (0 + i))).bind fun r => .ret (.lst r) := by
      conv => lhs; rw [em]
      dsimp only
      rw [hr]
      simp only [Tr.bind, optT, hl, decide_true, if_true, List.map_cons, List.map_nil]
    conv => lhs; rw [em]
    dsimp only
    simp only [ems, e2, Tr.bind_bind, Tr.bind]
  rw [List.length_map, List.length_range] at L
  exact .eq e (L.bind (m := 0) fun r hr => .of (all_true hr.2) rfl)
end Rc

-- Rp5
set_option Elab.async false
set_option linter.all false
set_option maxRecDepth 100000
set_option maxHeartbeats 1000000
namespace Rc
open PySem PySem.Spec PyProof.Rows L2
/-! ### statements, one by one -/
section
variable {G : Gs} {env e : Env} {a : IE} {c : IT} {r s t : List IS} {d : D} {i j l : Nat} {ds : List D}
theorem sss_app : ∀ (s : List IS) (env : Env), sss G (s ++ r) env = (sss G s env).bind fun w => match w with
      | .nx e => sss G r e
      | w => .ret w := by
  intro s
  induction s with
  | nil => intro env; simp only [List.nil_append, sss, Tr.bind]
  | cons x s ih =>
    intro env
    simp only [List.cons_append, sss, Tr.bind_bind]
    congr 1; funext w
    cases w <;> simp only [Tr.bind, ih]
theorem st_if {b : Bool} (h : emT G c env = .ret b) : sss G (.iff c s t :: r) env = sss G ((if b then s else t) ++ r) env := by
  rw [sss_app]
  simp only [sss, ss, h, Tr.bind]
  cases b <;> rfl
theorem st_asgT {tg : Tg} (h : em G a env = .ret d) (hs : setT tg d env = some e) : sss G (.asg tg a :: r) env = sss G r e := by
  simp only [sss, ss, h, Tr.bind, hs, Tr.of]
theorem st_ownC {tg : Tg} {own : List (Str × Nat)} {it : II} {ic : IC} {q : List D} (hi : emI G it env = .ret ds) (hl : ds.length ≤ sizeLine) (h : lcT (fun d => setT tg d (wipeE env (own.map (·.2)))) (emC G ic) (em G a) ds = .ret q) : sss G (.ownC i tg own it ic a :: r) env = sss G r (env.set i (some (.own q))) := by
  simp only [sss, ss, hi, Tr.bind, optT, hl, decide_true, if_true, h]
theorem st_frz (h : env[i]? = some (some (.own ds))) : sss G (.frz i :: r) env = sss G r (env.set i (some (.dat (.lst ds)))) := by
  simp only [sss, ss, frzT, h, Tr.bind]
theorem st_own0 : sss G (.ownE i [] :: r) env = sss G r (env.set i (some (.own []))) := by
  simp [sss, ss, emX, Tr.bind, optT]
theorem st_for {tg : Tg} {it : II} (hi : emI G it env = .ret ds) (h : loopT tg (sss G s) ds env = .ret (.nx e)) : sss G (.for tg it s :: r) env = sss G r e := by
  simp only [sss, ss, hi, Tr.bind, h]
theorem st_forR {tg : Tg} {it : II} (hi : emI G it env = .ret ds) (h : loopT tg (sss G s) ds env = .ret (.rt d)) : sss G (.for tg it s :: r) env = .ret (.rt d) := by
  simp only [sss, ss, hi, Tr.bind, h]
theorem st_app (h : em G a env = .ret d) (ho : env[i]? = some (some (.own ds))) (hl : ds.length < sizeLine) : sss G (.app i a :: r) env = sss G r (env.set i (some (.own (ds ++ [d])))) := by
  simp only [sss, ss, h, Tr.bind, appT, ho, hl, if_true]
theorem st_extT {es : List D} (h : em G a env = .ret (.tup es)) (ho : env[i]? = some (some (.own ds))) (hl : ds.length + es.length ≤ sizeLine) : sss G (.ext i a :: r) env = sss G r (env.set i (some (.own (ds ++ es)))) := by
  simp only [sss, ss, h, Tr.bind, extT, ho, hl, if_true]
theorem st_nil : sss G [] env = .ret (.nx env) := rfl
end
/-- a loop whose turns are told by a function -/
theorem loop_rel {σ : Type} {tg : Tg} {body : Env → Tr Fw} (R : σ → Env → Prop) (step : σ → D → σ) : ∀ (ds : List D), (∀ s d env, d ∈ ds → R s env → ∃ e1 e2, setT tg d env = some e1 ∧ body e1 = .ret (.nx e2) ∧ R (step s d) e2) → ∀ s env, R s env → ∃ env', loopT tg body ds env = .ret (.nx env') ∧ R (ds.foldl step s) env'
  | [], _, s, env, h => ⟨env, rfl, h⟩
  | d :: ds, hb, s, env, h => by
    obtain ⟨e1, e2, h1, h2, h3⟩ := hb s d env List.mem_cons_self h
    obtain ⟨env', h4, h5⟩ := loop_rel R step ds (fun s d env m => hb s d env (List.mem_cons_of_mem _ m)) (step s d) e2 h3
    refine ⟨env', ?_, h5⟩
    simp only [loopT, h1, Tr.of, Tr.bind, h2, h4]
theorem loop_map {σ α : Type} {tg : Tg} {body : Env → Tr Fw} {f : α → D} (R : Nat → σ → Env → Prop) (step : σ → α → σ) : ∀ (l : List α) (i : Nat), (∀ j s a env, j < i + l.length → a ∈ l → R j s env → ∃ e1 e2, setT tg (f a) env = some e1 ∧ body e1 = .ret (.nx e2) ∧ R (j + 1) (step s a) e2) → ∀ s env, R i s env → ∃ env', loopT tg body (l.map f) env = .ret (.nx env') ∧ R (i + l.length) (l.foldl step s) env'
  | [], i, _, s, env, h => ⟨env, rfl, h⟩
  | a :: l, i, hb, s, env, h => by
    obtain ⟨e1, e2, h1, h2, h3⟩ := hb i s a env (by simp) List.mem_cons_self h
    obtain ⟨env', h4, h5⟩ := loop_map R step l (i + 1) (fun j s a env hj m => hb j s a env (by simp; omega) (List.mem_cons_of_mem _ m)) (step s a) e2 h3
    refine ⟨env', ?_, ?_⟩
    · simp only [List.map_cons, loopT, h1, Tr.of, Tr.bind, h2, h4]
    · rw [List.length_cons, List.foldl_cons, show i + (l.length + 1) = i + 1 + l.length by omega]
      exact h5
/-- a loop that ends with return d as soon as p is so, else goes on with an env of the same sort -/
theorem loop_find {tg : Tg} {body : Env → Tr Fw} {R : Env → Prop} {d0 : D} {p : D → Bool} : ∀ (ds : List D), (∀ d env, d ∈ ds → R env → ∃ e1, setT tg d env = some e1 ∧ (p d = true → body e1 = .ret (.rt d0)) ∧ (p d = false → ∃ e2, body e1 = .ret (.nx e2) ∧ R e2)) → ∀ env, R env → (ds.any p = true → loopT tg body ds env = .ret (.rt d0)) ∧ (ds.any p = false → ∃ env', loopT tg body ds env = .ret (.nx env') ∧ R env')
  | [], _, env, h => ⟨fun z => by simp at z, fun _ => ⟨env, rfl, h⟩⟩
  | d :: ds, hb, env, h => by
    obtain ⟨e1, h1, h2, h3⟩ := hb d env List.mem_cons_self h
    have ih := loop_find (R := R) (d0 := d0) (p := p) ds fun d env m => hb d env (List.mem_cons_of_mem _ m)
    cases q : p d with
    | true =>
      refine ⟨fun _ => ?_, fun z => by simp [q] at z⟩
      simp only [loopT, h1, Tr.of, Tr.bind, h2 q]
    | false =>
      obtain ⟨e2, h4, h5⟩ := h3 q
      obtain ⟨i1, i2⟩ := ih e2 h5
      refine ⟨fun z => ?_, fun z => ?_⟩
      · have z' : ds.any p = true := by simpa [q] using z
        simp only [loopT, h1, Tr.of, Tr.bind, h4, i1 z']
      · have z' : ds.any p = false := by simpa [q] using z
        obtain ⟨env', h6, h7⟩ := i2 z'
        exact ⟨env', by simp only [loopT, h1, Tr.of, Tr.bind, h4, h6], h7⟩
theorem loop_findM {α : Type} {tg : Tg} {body : Env → Tr Fw} {R : Env → Prop} {d0 : D} {f : α → D} {p : α → Bool} : ∀ (l : List α), (∀ a env, a ∈ l → R env → ∃ e1, setT tg (f a) env = some e1 ∧ (p a = true → body e1 = .ret (.rt d0)) ∧ (p a = false → ∃ e2, body e1 = .ret (.nx e2) ∧ R e2)) → ∀ env, R env → (l.any p = true → loopT tg body (l.map f) env = .ret (.rt d0)) ∧ (l.any p = false → ∃ env', loopT tg body (l.map f) env = .ret (.nx env') ∧ R env')
  | [], _, env, h => ⟨fun z => by simp at z, fun _ => ⟨env, rfl, h⟩⟩
  | a :: l, hb, env, h => by
    obtain ⟨e1, h1, h2, h3⟩ := hb a env List.mem_cons_self h
    have ih := loop_findM (R := R) (d0 := d0) (f := f) (p := p) l fun d env m => hb d env (List.mem_cons_of_mem _ m)
    cases q : p a with
    | true =>
      refine ⟨fun _ => ?_, fun z => by simp [q] at z⟩
      simp only [List.map_cons, loopT, h1, Tr.of, Tr.bind, h2 q]
    | false =>
      obtain ⟨e2, h4, h5⟩ := h3 q
      obtain ⟨i1, i2⟩ := ih e2 h5
      refine ⟨fun z => ?_, fun z => ?_⟩
      · have z' : l.any p = true := by simpa [q] using z
        simp only [List.map_cons, loopT, h1, Tr.of, Tr.bind, h4, i1 z']
      · have z' : l.any p = false := by simpa [q] using z
        obtain ⟨env', h6, h7⟩ := i2 z'
        exact ⟨env', by simp only [List.map_cons, loopT, h1, Tr.of, Tr.bind, h4, h6], h7⟩
/-- comprehensions: of all, of some -/
theorem lc_map {α : Type} {g : D → Option Env} {c : Env → Tr Bool} {e : Env → Tr D} {f : α → D} {h : α → D} : ∀ {l : List α}, (∀ a ∈ l, ∃ env1, g (f a) = some env1 ∧ c env1 = .ret true ∧ e env1 = .ret (h a)) → lcT g c e (l.map f) = .ret (l.map h)
  | [], _ => rfl
  | a :: l, hh => by
    obtain ⟨env1, h1, h2, h3⟩ := hh a List.mem_cons_self
    have ih := lc_map (g := g) (c := c) (e := e) (f := f) (h := h) (l := l) fun x hx => hh x (List.mem_cons_of_mem _ hx)
    simp only [List.map_cons, lcT, h1, h2, h3, ih, Tr.of, Tr.bind, if_true]
theorem lc_filter {α : Type} {g : D → Option Env} {c : Env → Tr Bool} {e : Env → Tr D} {f : α → D} {h : α → D} {p : α → Bool} : ∀ {l : List α}, (∀ a ∈ l, ∃ env1, g (f a) = some env1 ∧ c env1 = .ret (p a) ∧ e env1 = .ret (h a)) → lcT g c e (l.map f) = .ret ((l.filter p).map h)
  | [], _ => rfl
  | a :: l, hh => by
    obtain ⟨env1, h1, h2, h3⟩ := hh a List.mem_cons_self
    have ih := lc_filter (g := g) (c := c) (e := e) (f := f) (h := h) (p := p) (l := l) fun x hx => hh x (List.mem_cons_of_mem _ hx)
    cases q : p a with
    | true =>
      rw [q] at h2
      simp only [List.map_cons, lcT, h1, h2, h3, ih, Tr.of, Tr.bind, if_true, List.filter_cons, q]
    | false =>
      rw [q] at h2
      simp [List.map_cons, lcT, h1, h2, ih, Tr.of, Tr.bind, List.filter_cons, q]
theorem em_lcE {G : Gs} {env : Env} {tg : Tg} {own : List (Str × Nat)} {it : II} {c : IC} {a : IE} {ds q : List D} (hi : emI G it env = .ret ds) (hl : ds.length ≤ sizeLine) (h : lcT (fun d => setT tg d (wipeE env (own.map (·.2)))) (emC G c) (em G a) ds = .ret q) : em G (.lc tg own it c a) env = .ret (.lst q) := by
  rw [em]
  simp only [hi, Tr.bind, optT, hl, decide_true, if_true, h]
theorem em_bi {G : Gs} {env : Env} {f : Bif} {a : IE} {x : D} (h : em G a env = .ret x) : em G (.bi f [a]) env = bifT G f [x] := by
  rw [em]
  simp only [ems, h, Tr.bind]
end Rc

-- Zp1
set_option Elab.async false
set_option linter.all false
set_option maxRecDepth 100000
set_option maxHeartbeats 1000000
namespace Rc
open PySem PySem.Spec PyProof.Rows L2
/-! ### pieces with whole cuts: the plain theory -/
abbrev Cu := Option Int
abbrev Pc := Cu × Cu
/-- x is in a piece: between the cuts x and x + 1 -/
def inP (x : Int) (p : Pc) : Bool := (match p.1 with | none => true | some a => decide (a ≤ x)) && (match p.2 with | none => true | some b => decide (x < b))
def has (ps : List Pc) (x : Int) : Bool := ps.any (inP x)
def fullP : Pc → Bool
  | (some a, some b) => decide (a < b)
  | _ => true
def lowLt : Cu → Cu → Bool
  | none, some _ => true
  | some a, some b => decide (a < b)
  | _, none => false
def highLt : Cu → Cu → Bool
  | some _, none => true
  | some a, some b => decide (a < b)
  | none, _ => false
def ltPc (p q : Pc) : Bool := if p.1 = q.1 then highLt p.2 q.2 else lowLt p.1 q.1
def reached : Cu → Cu → Bool
  | some e, some l => decide (l ≤ e)
  | _, _ => true
def later : Cu → Cu → Cu
  | some a, some b => some (if b > a then b else a)
  | _, _ => none
def mrg : Pc → List Pc → List Pc
  | c, [] => [c]
  | c, p :: r => if reached c.2 p.1 then mrg (c.1, later c.2 p.2) r else c :: mrg p r
def mrgs : List Pc → List Pc
  | [] => []
  | p :: r => mrg p r
def sortPc (ps : List Pc) : List Pc := sortB ltPc ps
def normalI (ps : List Pc) : List Pc := mrgs (sortPc (ps.filter fullP))
/-- rising, none empty, none touches the next one -/
def VP : List Pc → Prop
  | [] => True
  | [p] => fullP p = true
  | p :: q :: r => fullP p = true ∧ (∃ h l, p.2 = some h ∧ q.1 = some l ∧ h < l) ∧ VP (q :: r)
def lowLe (a b : Cu) : Prop := lowLt b a = false
theorem lt_iff (p q : Pc) : ltPc p q = true ↔ lowLt p.1 q.1 = true ∨ (p.1 = q.1 ∧ highLt p.2 q.2 = true) := by
  unfold ltPc
  by_cases e : p.1 = q.1
  · rw [if_pos e]
    have : lowLt p.1 q.1 = false := by rw [e]; cases q.1 <;> simp [lowLt]
    rw [this]
    simp [e]
  · rw [if_neg e]
    simp [e]
theorem lt_no (p q : Pc) : ltPc p q = false ↔ ¬ (lowLt p.1 q.1 = true ∨ (p.1 = q.1 ∧ highLt p.2 q.2 = true)) := by
  rw [← lt_iff]
  simp
theorem lt_asymP (p q : Pc) (h : ltPc p q = true) : ltPc q p = false := by
  rw [lt_iff] at h
  rw [lt_no]
  obtain ⟨a, b⟩ := p
  obtain ⟨c, d⟩ := q
  rcases a with _ | a <;> rcases c with _ | c <;> rcases b with _ | b <;> rcases d with _ | d <;> simp [lowLt, highLt] at h ⊢ <;> omega
theorem lt_trP (p q r : Pc) (h1 : ltPc q p = false) (h2 : ltPc r q = false) : ltPc r p = false := by
  rw [lt_no] at h1 h2 ⊢
  obtain ⟨a, b⟩ := p
  obtain ⟨c, d⟩ := q
  obtain ⟨e, f⟩ := r
  rcases a with _ | a <;> rcases c with _ | c <;> rcases e with _ | e <;> rcases b with _ | b <;> rcases d with _ | d <;> rcases f with _ | f <;> simp [lowLt, highLt] at h1 h2 ⊢ <;> omega
theorem lt_totP (p q : Pc) (h1 : ltPc p q = false) (h2 : ltPc q p = false) : p = q := by
  rw [lt_no] at h1 h2
  obtain ⟨a, b⟩ := p
  obtain ⟨c, d⟩ := q
  rcases a with _ | a <;> rcases c with _ | c <;> rcases b with _ | b <;> rcases d with _ | d <;> simp [lowLt, highLt] at h1 h2 ⊢ <;> omega
theorem low_of_lt {p q : Pc} (h : ltPc q p = false) : lowLe p.1 q.1 := by
  rw [lt_no] at h
  unfold lowLe
  cases e : lowLt q.1 p.1 with
  | false => rfl
  | true => exact absurd (.inl e) h
theorem lowLe_trans {a b c : Cu} (h1 : lowLe a b) (h2 : lowLe b c) : lowLe a c := by
  rcases a with _ | a <;> rcases b with _ | b <;> rcases c with _ | c <;> simp [lowLe, lowLt] at h1 h2 ⊢ <;> omega
theorem mrg_head : ∀ (r : List Pc) (c : Pc), ∃ q t, mrg c r = q :: t ∧ q.1 = c.1
  | [], c => ⟨c, [], rfl, rfl⟩
  | p :: r, c => by
    unfold mrg
    split
    · obtain ⟨q, t, e, h⟩ := mrg_head r (c.1, later c.2 p.2)
      exact ⟨q, t, e, h⟩
    · exact ⟨c, _, rfl, rfl⟩
theorem full_later {c p : Pc} (h1 : fullP c = true) (h2 : fullP p = true) (hr : reached c.2 p.1 = true) : fullP (c.1, later c.2 p.2) = true := by
  obtain ⟨a, b⟩ := c
  obtain ⟨d, e⟩ := p
  rcases a with _ | a <;> rcases b with _ | b <;> rcases d with _ | d <;> rcases e with _ | e <;> simp [fullP, later, reached] at h1 h2 hr ⊢ <;> split <;> omega
theorem in_later {c p : Pc} (x : Int) (hl : lowLe c.1 p.1) (h1 : fullP c = true) (h2 : fullP p = true) (hr : reached c.2 p.1 = true) : inP x (c.1, later c.2 p.2) = (inP x c || inP x p) := by
  obtain ⟨a, b⟩ := c
  obtain ⟨d, e⟩ := p
  rw [Bool.eq_iff_iff]
  rcases a with _ | a <;> rcases b with _ | b <;> rcases d with _ | d <;> rcases e with _ | e <;> simp [fullP, later, reached, inP, lowLe, lowLt] at h1 h2 hr hl ⊢ <;> (try split) <;> omega
theorem mrg_ok : ∀ (r : List Pc) (c : Pc), fullP c = true → (∀ p ∈ r, fullP p = true) → (∀ p ∈ r, lowLe c.1 p.1) → r.Pairwise (fun p q => lowLe p.1 q.1) → VP (mrg c r) ∧ ∀ x, has (mrg c r) x = (inP x c || has r x)
  | [], c, hc, _, _, _ => ⟨hc, fun x => by simp [mrg, has]⟩
  | p :: r, c, hc, hf, hl, hs => by
    obtain ⟨s1, s2⟩ := List.pairwise_cons.mp hs
    have fp := hf p List.mem_cons_self
    have fr : ∀ q ∈ r, fullP q = true := fun q hq => hf q (List.mem_cons_of_mem _ hq)
    unfold mrg
    by_cases e : reached c.2 p.1 = true
    · rw [if_pos e]
      obtain ⟨v, i⟩ := mrg_ok r (c.1, later c.2 p.2) (full_later hc fp e) fr (fun q hq => hl q (List.mem_cons_of_mem _ hq)) s2
      refine ⟨v, fun x => ?_⟩
      rw [i x, in_later x (hl p List.mem_cons_self) hc fp e]
      simp [has, Bool.or_assoc]
    · rw [if_neg e]
      obtain ⟨v, i⟩ := mrg_ok r p fp fr s1 s2
      obtain ⟨q, t, em, eq⟩ := mrg_head r p
      constructor
      · rw [em] at v ⊢
        refine ⟨hc, ?_, v⟩
        rw [eq]
        generalize c.2 = a at e
        generalize p.1 = b at e
        rcases a with _ | a <;> rcases b with _ | b <;> simp [reached] at e
        exact ⟨a, b, rfl, rfl, by omega⟩
      · intro x
        show (inP x c || has (mrg p r) x) = _
        rw [i x]
        rfl
theorem sort_ok (ps : List Pc) : (sortPc ps).Perm ps ∧ Up1 ltPc (sortPc ps) := ⟨sortB_perm ps, sortB_up2 lt_asymP lt_trP ps⟩
theorem normal_ok (ps : List Pc) : VP (normalI ps) ∧ ∀ x, has (normalI ps) x = has (ps.filter fullP) x := by
  obtain ⟨hp, hu⟩ := sort_ok (ps.filter fullP)
  unfold normalI
  have hx : ∀ x, has (sortPc (ps.filter fullP)) x = has (ps.filter fullP) x := fun x => by
    unfold has
    rw [Bool.eq_iff_iff, List.any_eq_true, List.any_eq_true]
    exact ⟨fun ⟨p, h1, h2⟩ => ⟨p, hp.mem_iff.mp h1, h2⟩, fun ⟨p, h1, h2⟩ => ⟨p, hp.mem_iff.mpr h1, h2⟩⟩
  have hf : ∀ p ∈ sortPc (ps.filter fullP), fullP p = true := fun p m => (List.mem_filter.mp (hp.mem_iff.mp m)).2
  generalize sortPc (ps.filter fullP) = l at hu hf hx
  cases l with
  | nil => exact ⟨trivial, fun x => by rw [← hx x]; rfl⟩
  | cons p r =>
    obtain ⟨u1, u2⟩ := List.pairwise_cons.mp hu
    obtain ⟨v, i⟩ := mrg_ok r p (hf p List.mem_cons_self) (fun q hq => hf q (List.mem_cons_of_mem _ hq)) (fun q hq => low_of_lt (u1 q hq)) (u2.imp fun {a b} h => low_of_lt h)
    refine ⟨v, fun x => ?_⟩
    show has (mrg p r) x = _
    rw [i x, ← hx x]
    rfl
theorem in_full {x : Int} {p : Pc} (h : fullP p = false) : inP x p = false := by
  obtain ⟨a, b⟩ := p
  rcases a with _ | a <;> rcases b with _ | b <;> simp [fullP, inP] at h ⊢
  omega
theorem has_filter (ps : List Pc) (x : Int) : has (ps.filter fullP) x = has ps x := by
  induction ps with
  | nil => rfl
  | cons p r ih =>
    rw [List.filter_cons]
    cases h : fullP p with
    | true =>
      rw [if_pos rfl]
      show (inP x p || has (r.filter fullP) x) = (inP x p || has r x)
      rw [ih]
    | false =>
      rw [if_neg (by simp)]
      show has (r.filter fullP) x = (inP x p || has r x)
      rw [ih, in_full h, Bool.false_or]
theorem normal_has (ps : List Pc) (x : Int) : has (normalI ps) x = has ps x := ((normal_ok ps).2 x).trans (has_filter ps x)
theorem VP.tail {p : Pc} {r : List Pc} (h : VP (p :: r)) : VP r := by
  cases r with
  | nil => trivial
  | cons q r => exact h.2.2
theorem VP.full : ∀ {ps : List Pc}, VP ps → ∀ p ∈ ps, fullP p = true
  | [p], h, q, m => by
    have : q = p := by simpa using m
    rw [this]; exact h
  | p :: q :: r, h, z, m => by
    rcases List.mem_cons.mp m with rfl | m
    · exact h.1
    · exact VP.full h.2.2 z m
/-- in a row of pieces each one stands ahead of the next one -/
theorem VP.lt {p q : Pc} {r : List Pc} (h : VP (p :: q :: r)) : ltPc p q = true := by
  obtain ⟨h1, ⟨e, l, e1, e2, e3⟩, _⟩ := h
  obtain ⟨a, b⟩ := p
  obtain ⟨c, d⟩ := q
  cases e1
  cases e2
  rcases a with _ | a
  · simp [ltPc, lowLt]
  · have : a < e := by simpa [fullP] using h1
    have n : ¬ a = l := by omega
    simp [ltPc, lowLt, n]
    omega
theorem sort_id : ∀ {ps : List Pc}, VP ps → sortPc ps = ps
  | [], _ => rfl
  | [p], _ => rfl
  | p :: q :: r, h => by
    have ih := sort_id h.tail
    show insB ltPc p (sortPc (q :: r)) = _
    rw [ih]
    unfold insB
    rw [if_neg (by rw [lt_asymP p q h.lt]; simp)]
theorem mrg_id : ∀ {r : List Pc} {p : Pc}, VP (p :: r) → mrg p r = p :: r
  | [], p, _ => rfl
  | q :: r, p, h => by
    obtain ⟨_, ⟨e, l, e1, e2, e3⟩, v⟩ := h
    unfold mrg
    have : reached p.2 q.1 = false := by rw [e1, e2]; simp [reached]; omega
    rw [if_neg (by rw [this]; simp), mrg_id v]
theorem normal_id {ps : List Pc} (h : VP ps) : normalI ps = ps := by
  have e : ps.filter fullP = ps := List.filter_eq_self.mpr h.full
  unfold normalI
  rw [e, sort_id h]
  cases ps with
  | nil => rfl
  | cons p r => exact mrg_id h
/-! ### moved, mirrored -/
def shC (m : Int) (c : Cu) : Cu := c.map (· + m)
def shP (m : Int) (ps : List Pc) : List Pc := ps.map fun p => (shC m p.1, shC m p.2)
def miC (c : Cu) : Cu := c.map (1 - ·)
def miP (ps : List Pc) : List Pc := ps.reverse.map fun p => (miC p.2, miC p.1)
theorem sh_in (m x : Int) (p : Pc) : inP x (shC m p.1, shC m p.2) = inP (x - m) p := by
  obtain ⟨a, b⟩ := p
  rw [Bool.eq_iff_iff]
  rcases a with _ | a <;> rcases b with _ | b <;> simp [inP, shC] <;> omega
theorem sh_has (m x : Int) (ps : List Pc) : has (shP m ps) x = has ps (x - m) := by
  unfold has shP
  rw [List.any_map]
  congr 1
  funext p
  exact sh_in m x p
theorem mi_in (x : Int) (p : Pc) : inP x (miC p.2, miC p.1) = inP (-x) p := by
  obtain ⟨a, b⟩ := p
  rw [Bool.eq_iff_iff]
  rcases a with _ | a <;> rcases b with _ | b <;> simp [inP, miC] <;> omega
theorem mi_has (x : Int) (ps : List Pc) : has (miP ps) x = has ps (-x) := by
  unfold has miP
  rw [List.any_map, List.any_reverse]
  congr 1
  funext p
  exact mi_in x p
theorem sh_V (m : Int) : ∀ {ps : List Pc}, VP ps → VP (shP m ps)
  | [], _ => trivial
  | [p], h => by
    obtain ⟨a, b⟩ := p
    rcases a with _ | a <;> rcases b with _ | b <;> simp [shP, VP, fullP, shC] at h ⊢
    omega
  | p :: q :: r, h => by
    obtain ⟨h1, ⟨e, l, e1, e2, e3⟩, v⟩ := h
    refine ⟨?_, ⟨e + m, l + m, by simp [shC, e1], by simp [shC, e2], by omega⟩, sh_V m v⟩
    obtain ⟨a, b⟩ := p
    rcases a with _ | a <;> rcases b with _ | b <;> simp [fullP, shC] at h1 ⊢
    omega
theorem sh_sh (m k : Int) (ps : List Pc) : shP m (shP k ps) = shP (k + m) ps := by
  unfold shP
  rw [List.map_map]
  refine List.map_congr_left fun p _ => ?_
  obtain ⟨a, b⟩ := p
  rcases a with _ | a <;> rcases b with _ | b <;> simp [shC] <;> omega
theorem sh_0 (ps : List Pc) : shP 0 ps = ps := by
  unfold shP
  have : (fun p : Pc => (shC 0 p.1, shC 0 p.2)) = id := by
    funext p
    obtain ⟨a, b⟩ := p
    rcases a with _ | a <;> rcases b with _ | b <;> simp [shC]
  rw [this, List.map_id]
theorem mi_mi (ps : List Pc) : miP (miP ps) = ps := by
  unfold miP
  rw [← List.map_reverse, List.reverse_reverse, List.map_map]
  have : ((fun p : Pc => (miC p.2, miC p.1)) ∘ fun p : Pc => (miC p.2, miC p.1)) = id := by
    funext p
    obtain ⟨a, b⟩ := p
    rcases a with _ | a <;> rcases b with _ | b <;> simp [miC] <;> omega
  rw [this, List.map_id]
theorem mi_sh (m : Int) (ps : List Pc) : miP (shP m ps) = shP (-m) (miP ps) := by
  unfold miP shP
  rw [← List.map_reverse, List.map_map, List.map_map]
  refine List.map_congr_left fun p _ => ?_
  obtain ⟨a, b⟩ := p
  rcases a with _ | a <;> rcases b with _ | b <;> simp [miC, shC] <;> omega
theorem VP_append : ∀ {ps : List Pc} {q : Pc}, VP (ps ++ [q]) ↔ VP ps ∧ fullP q = true ∧ ∀ p, ps.getLast? = some p → ∃ h l, p.2 = some h ∧ q.1 = some l ∧ h < l
  | [], q => by simp [VP]
  | [p], q => by
    show fullP p = true ∧ (∃ h l, p.2 = some h ∧ q.1 = some l ∧ h < l) ∧ fullP q = true ↔ fullP p = true ∧ fullP q = true ∧ _
    constructor
    · rintro ⟨a, b, c⟩
      exact ⟨a, c, fun z hz => by cases hz; exact b⟩
    · rintro ⟨a, b, c⟩
      exact ⟨a, c p rfl, b⟩
  | p :: p2 :: r, q => by
    have ih := VP_append (ps := p2 :: r) (q := q)
    show fullP p = true ∧ _ ∧ VP (p2 :: r ++ [q]) ↔ (fullP p = true ∧ _ ∧ VP (p2 :: r)) ∧ _
    rw [ih, List.getLast?_cons_cons]
    constructor
    · rintro ⟨a, b, c, d, e⟩; exact ⟨⟨a, b, c⟩, d, e⟩
    · rintro ⟨⟨a, b, c⟩, d, e⟩; exact ⟨a, b, c, d, e⟩
theorem mi_V : ∀ {ps : List Pc}, VP ps → VP (miP ps)
  | [], _ => trivial
  | p :: r, h => by
    have ih := mi_V h.tail
    have e : miP (p :: r) = miP r ++ [(miC p.2, miC p.1)] := by simp [miP]
    rw [e, VP_append]
    refine ⟨ih, ?_, ?_⟩
    · have := h.full p List.mem_cons_self
      obtain ⟨a, b⟩ := p
      rcases a with _ | a <;> rcases b with _ | b <;> simp [fullP, miC] at this ⊢
      omega
    · intro z hz
      cases r with
      | nil => cases hz
      | cons q r =>
        obtain ⟨_, ⟨e, l, e1, e2, e3⟩, _⟩ := h
        have : z = (miC q.2, miC q.1) := by
          have : (miP (q :: r)).getLast? = some (miC q.2, miC q.1) := by simp [miP]
          rw [this] at hz
          exact (Option.some.inj hz).symm
        subst this
        refine ⟨1 - l, 1 - e, by simp [miC, e2], by simp [miC, e1], by omega⟩
end Rc

-- Pk09a
set_option Elab.async false
set_option linter.all false
set_option maxRecDepth 100000
set_option maxHeartbeats 0
namespace Rc
open PySem PySem.Spec PyProof.Rows L2
theorem lk_fn_part_pieces (n : Nat) : (Gn prog (n + 1)).fn "part_pieces" = some (ir_fn_part_pieces.fn (Gn prog n)) := by kernel_rfl
theorem lk_fn_is_value (n : Nat) : (Gn prog (n + 1)).fn "is_value" = some (ir_fn_is_value.fn (Gn prog n)) := by kernel_rfl
theorem lk_fn_pieces_in (n : Nat) : (Gn prog (n + 1)).fn "pieces_in" = some (ir_fn_pieces_in.fn (Gn prog n)) := by kernel_rfl
theorem lk_fn_is_end (n : Nat) : (Gn prog (n + 1)).fn "is_end" = some (ir_fn_is_end.fn (Gn prog n)) := by kernel_rfl
theorem lk_fn_is_integer (n : Nat) : (Gn prog (n + 1)).fn "is_integer" = some (ir_fn_is_integer.fn (Gn prog n)) := by kernel_rfl
theorem lk_fn_is_line (n : Nat) : (Gn prog (n + 1)).fn "is_line" = some (ir_fn_is_line.fn (Gn prog n)) := by kernel_rfl
theorem lk_fn_is_letters (n : Nat) : (Gn prog (n + 1)).fn "is_letters" = some (ir_fn_is_letters.fn (Gn prog n)) := by kernel_rfl
theorem lk_fn_cuts_around (n : Nat) : (Gn prog (n + 1)).fn "cuts_around" = some (ir_fn_cuts_around.fn (Gn prog n)) := by kernel_rfl
theorem lk_fn_cut_ahead (n : Nat) : (Gn prog (n + 1)).fn "cut_ahead" = some (ir_fn_cut_ahead.fn (Gn prog n)) := by kernel_rfl
theorem lk_fn_cut_behind (n : Nat) : (Gn prog (n + 1)).fn "cut_behind" = some (ir_fn_cut_behind.fn (Gn prog n)) := by kernel_rfl
theorem lk_met_Rangeu_negu (n : Nat) : (Gn prog (n + 1)).met "Range" "__neg__" = some (ir_met_Rangeu_negu.fn (Gn prog n)) := by kernel_rfl
theorem lk_met_RangeSetu_negu (n : Nat) : (Gn prog (n + 1)).met "RangeSet" "__neg__" = some (ir_met_RangeSetu_negu.fn (Gn prog n)) := by kernel_rfl
theorem lk_fn_mirrored (n : Nat) : (Gn prog (n + 1)).fn "mirrored" = some (ir_fn_mirrored.fn (Gn prog n)) := by kernel_rfl
theorem lk_fn_mirrored_cut (n : Nat) : (Gn prog (n + 1)).fn "mirrored_cut" = some (ir_fn_mirrored_cut.fn (Gn prog n)) := by kernel_rfl
theorem lk_fn_check_move (n : Nat) : (Gn prog (n + 1)).fn "check_move" = some (ir_fn_check_move.fn (Gn prog n)) := by kernel_rfl
theorem lk_fn_set_of (n : Nat) : (Gn prog (n + 1)).fn "set_of" = some (ir_fn_set_of.fn (Gn prog n)) := by kernel_rfl
theorem lk_mak_RangeSet (n : Nat) : (Gn prog (n + 1)).mak "RangeSet" = some (ir_mak_RangeSet.ini "RangeSet" (Gn prog n)) := by kernel_rfl
theorem lk_fn_range_of (n : Nat) : (Gn prog (n + 1)).fn "range_of" = some (ir_fn_range_of.fn (Gn prog n)) := by kernel_rfl
theorem lk_mak_Range (n : Nat) : (Gn prog (n + 1)).mak "Range" = some (ir_mak_Range.ini "Range" (Gn prog n)) := by kernel_rfl
theorem lk_fn_cuts_of (n : Nat) : (Gn prog (n + 1)).fn "cuts_of" = some (ir_fn_cuts_of.fn (Gn prog n)) := by kernel_rfl
theorem lk_fn_place_of (n : Nat) : (Gn prog (n + 1)).fn "place_of" = some (ir_fn_place_of.fn (Gn prog n)) := by kernel_rfl
theorem lk_fn_high_key (n : Nat) : (Gn prog (n + 1)).fn "high_key" = some (ir_fn_high_key.fn (Gn prog n)) := by kernel_rfl
theorem lk_fn_low_key (n : Nat) : (Gn prog (n + 1)).fn "low_key" = some (ir_fn_low_key.fn (Gn prog n)) := by kernel_rfl
theorem lk_fn_check_line (n : Nat) : (Gn prog (n + 1)).fn "check_line" = some (ir_fn_check_line.fn (Gn prog n)) := by kernel_rfl
theorem lk_fn_end_of (n : Nat) : (Gn prog (n + 1)).fn "end_of" = some (ir_fn_end_of.fn (Gn prog n)) := by kernel_rfl
theorem lk_fn_normal (n : Nat) : (Gn prog (n + 1)).fn "normal" = some (ir_fn_normal.fn (Gn prog n)) := by kernel_rfl
theorem lk_fn_later_cut (n : Nat) : (Gn prog (n + 1)).fn "later_cut" = some (ir_fn_later_cut.fn (Gn prog n)) := by kernel_rfl
theorem lk_fn_is_reached (n : Nat) : (Gn prog (n + 1)).fn "is_reached" = some (ir_fn_is_reached.fn (Gn prog n)) := by kernel_rfl
theorem lk_fn_one_range (n : Nat) : (Gn prog (n + 1)).fn "one_range" = some (ir_fn_one_range.fn (Gn prog n)) := by kernel_rfl
theorem lk_met_Rangeu_equ (n : Nat) : (Gn prog (n + 1)).met "Range" "__eq__" = some (ir_met_Rangeu_equ.fn (Gn prog n)) := by kernel_rfl
theorem lk_met_RangeSetu_equ (n : Nat) : (Gn prog (n + 1)).met "RangeSet" "__eq__" = some (ir_met_RangeSetu_equ.fn (Gn prog n)) := by kernel_rfl
theorem lk_met_Rangeu_stru (n : Nat) : (Gn prog (n + 1)).met "Range" "__str__" = some (ir_met_Rangeu_stru.fn (Gn prog n)) := by kernel_rfl
theorem lk_fn_cuts_text (n : Nat) : (Gn prog (n + 1)).fn "cuts_text" = some (ir_fn_cuts_text.fn (Gn prog n)) := by kernel_rfl
theorem lk_fn_low_text (n : Nat) : (Gn prog (n + 1)).fn "low_text" = some (ir_fn_low_text.fn (Gn prog n)) := by kernel_rfl
theorem lk_fn_high_text (n : Nat) : (Gn prog (n + 1)).fn "high_text" = some (ir_fn_high_text.fn (Gn prog n)) := by kernel_rfl
theorem lk_fnulaw_right (n : Nat) : (Gn prog (n + 1)).fn "_law_right" = some (ir_fnulaw_right.fn (Gn prog n)) := by kernel_rfl
theorem lk_fnulaw_range (n : Nat) : (Gn prog (n + 1)).fn "_law_range" = some (ir_fnulaw_range.fn (Gn prog n)) := by kernel_rfl
theorem lk_met_Rangeu_containsu (n : Nat) : (Gn prog (n + 1)).met "Range" "__contains__" = some (ir_met_Rangeu_containsu.fn (Gn prog n)) := by kernel_rfl
theorem lk_met_RangeSetu_containsu (n : Nat) : (Gn prog (n + 1)).met "RangeSet" "__contains__" = some (ir_met_RangeSetu_containsu.fn (Gn prog n)) := by kernel_rfl
theorem lk_fn_is_in (n : Nat) : (Gn prog (n + 1)).fn "is_in" = some (ir_fn_is_in.fn (Gn prog n)) := by kernel_rfl
theorem lk_fn_has_between (n : Nat) : (Gn prog (n + 1)).fn "has_between" = some (ir_fn_has_between.fn (Gn prog n)) := by kernel_rfl
theorem lk_fn_is_point (n : Nat) : (Gn prog (n + 1)).fn "is_point" = some (ir_fn_is_point.fn (Gn prog n)) := by kernel_rfl
theorem lk_fn_is_part (n : Nat) : (Gn prog (n + 1)).fn "is_part" = some (ir_fn_is_part.fn (Gn prog n)) := by kernel_rfl
theorem lk_fn_is_lowest (n : Nat) : (Gn prog (n + 1)).fn "is_lowest" = some (ir_fn_is_lowest.fn (Gn prog n)) := by kernel_rfl
theorem lk_fnulaw_end (n : Nat) : (Gn prog (n + 1)).fn "_law_end" = some (ir_fnulaw_end.fn (Gn prog n)) := by kernel_rfl
theorem lk_fnulaw_words (n : Nat) : (Gn prog (n + 1)).fn "_law_words" = some (ir_fnulaw_words.fn (Gn prog n)) := by kernel_rfl
theorem lk_fnulaw_of (n : Nat) : (Gn prog (n + 1)).fn "_law_of" = some (ir_fnulaw_of.fn (Gn prog n)) := by kernel_rfl
theorem lk_fnulaw_value_right (n : Nat) : (Gn prog (n + 1)).fn "_law_value_right" = some (ir_fnulaw_value_right.fn (Gn prog n)) := by kernel_rfl
theorem lk_met_Rangeu_lshiftu (n : Nat) : (Gn prog (n + 1)).met "Range" "__lshift__" = some (ir_met_Rangeu_lshiftu.fn (Gn prog n)) := by kernel_rfl
theorem lk_met_RangeSetu_lshiftu (n : Nat) : (Gn prog (n + 1)).met "RangeSet" "__lshift__" = some (ir_met_RangeSetu_lshiftu.fn (Gn prog n)) := by kernel_rfl
theorem lk_fn_moved (n : Nat) : (Gn prog (n + 1)).fn "moved" = some (ir_fn_moved.fn (Gn prog n)) := by kernel_rfl
theorem lk_fn_moved_cut (n : Nat) : (Gn prog (n + 1)).fn "moved_cut" = some (ir_fn_moved_cut.fn (Gn prog n)) := by kernel_rfl
theorem lk_met_Rangeu_rshiftu (n : Nat) : (Gn prog (n + 1)).met "Range" "__rshift__" = some (ir_met_Rangeu_rshiftu.fn (Gn prog n)) := by kernel_rfl
theorem lk_met_RangeSetu_rshiftu (n : Nat) : (Gn prog (n + 1)).met "RangeSet" "__rshift__" = some (ir_met_RangeSetu_rshiftu.fn (Gn prog n)) := by kernel_rfl
theorem lk_fnulaw_point_less (n : Nat) : (Gn prog (n + 1)).fn "_law_point_less" = some (ir_fnulaw_point_less.fn (Gn prog n)) := by kernel_rfl
theorem lk_fnulaw_has (n : Nat) : (Gn prog (n + 1)).fn "_law_has" = some (ir_fnulaw_has.fn (Gn prog n)) := by kernel_rfl
theorem lk_fnulaw_key (n : Nat) : (Gn prog (n + 1)).fn "_law_key" = some (ir_fnulaw_key.fn (Gn prog n)) := by kernel_rfl
theorem lk_fnulaw_point_negative (n : Nat) : (Gn prog (n + 1)).fn "_law_point_negative" = some (ir_fnulaw_point_negative.fn (Gn prog n)) := by kernel_rfl
theorem lk_fnulaw_probes (n : Nat) : (Gn prog (n + 1)).fn "_law_probes" = some (ir_fnulaw_probes.fn (Gn prog n)) := by kernel_rfl
theorem lk_fnulaw_is_of (n : Nat) : (Gn prog (n + 1)).fn "_law_is_of" = some (ir_fnulaw_is_of.fn (Gn prog n)) := by kernel_rfl
theorem lk_prp_Range_line (n : Nat) : (Gn prog (n + 1)).att "Range" "line" = some (some (runT (Gn prog n) ir_prp_Range_line.m ir_prp_Range_line.ir)) := by kernel_rfl
theorem lk_prp_RangeSet_line (n : Nat) : (Gn prog (n + 1)).att "RangeSet" "line" = some (some (runT (Gn prog n) ir_prp_RangeSet_line.m ir_prp_RangeSet_line.ir)) := by kernel_rfl
theorem lk_fnulaw_lot (n : Nat) : (Gn prog (n + 1)).fn "_law_lot" = some (ir_fnulaw_lot.fn (Gn prog n)) := by kernel_rfl
theorem lk_fnulaw_made (n : Nat) : (Gn prog (n + 1)).fn "_law_made" = some (ir_fnulaw_made.fn (Gn prog n)) := by kernel_rfl
theorem gl_Range (n : Nat) : (Gn prog n).glo "Range" = some (.cls "Range") := by cases n <;> kernel_rfl
theorem gl_RangeSet (n : Nat) : (Gn prog n).glo "RangeSet" = some (.cls "RangeSet") := by cases n <;> kernel_rfl
theorem gl_WORDS (n : Nat) : (Gn prog n).glo "WORDS" = some ((.str "words")) := by cases n <;> kernel_rfl
theorem gl_int (n : Nat) : (Gn prog n).glo "int" = some (.ty "int") := by cases n <;> kernel_rfl
theorem gl_bool (n : Nat) : (Gn prog n).glo "bool" = some (.ty "bool") := by cases n <;> kernel_rfl
theorem gl_str (n : Nat) : (Gn prog n).glo "str" = some (.ty "str") := by cases n <;> kernel_rfl
theorem gl_LINES (n : Nat) : (Gn prog n).glo "LINES" = some ((.tup [(.str "whole"), (.str "dense"), (.str "words")])) := by cases n <;> kernel_rfl
theorem gl_LETTERS (n : Nat) : (Gn prog n).glo "LETTERS" = some ((.str "abcdefghijklmnopqrstuvwxyz")) := by cases n <;> kernel_rfl
theorem gl_tuple (n : Nat) : (Gn prog n).glo "tuple" = some (.ty "tuple") := by cases n <;> kernel_rfl
theorem gl_FIRST_WORD (n : Nat) : (Gn prog n).glo "FIRST_WORD" = some ((.str "a")) := by cases n <;> kernel_rfl
theorem gl_BRACKETS (n : Nat) : (Gn prog n).glo "BRACKETS" = some ((.tup [(.str "[)"), (.str "[]"), (.str "(]"), (.str "()")])) := by cases n <;> kernel_rfl
theorem gl_DENSE (n : Nat) : (Gn prog n).glo "DENSE" = some ((.str "dense")) := by cases n <;> kernel_rfl
theorem gl_EMPTY (n : Nat) : (Gn prog n).glo "EMPTY" = some ((.str "empty")) := by cases n <;> kernel_rfl
theorem gl_PAIR (n : Nat) : (Gn prog n).glo "PAIR" = some ((.int (2))) := by cases n <;> kernel_rfl
theorem gl_LEAST_BOTTOM (n : Nat) : (Gn prog n).glo "LEAST_BOTTOM" = some ((.int (2))) := by cases n <;> kernel_rfl
theorem gl_MOST_BOTTOM (n : Nat) : (Gn prog n).glo "MOST_BOTTOM" = some ((.int (9))) := by cases n <;> kernel_rfl
theorem tb_STEPS (n : Nat) : (Gn prog n).tab "STEPS" = some ([("whole", (.int (1))), ("dense", (.int (2)))] : List (Str × D)) := by cases n <;> kernel_rfl
theorem tb_SOME_END (n : Nat) : (Gn prog n).tab "SOME_END" = some ([("whole", (.int (0))), ("dense", (.int (0))), ("words", (.str "b"))] : List (Str × D)) := by cases n <;> kernel_rfl
theorem fl_Range_own_line (n : Nat) : (Gn prog n).att "Range" "own_line" = some none := by cases n <;> kernel_rfl
theorem fl_Range_own_cuts (n : Nat) : (Gn prog n).att "Range" "own_cuts" = some none := by cases n <;> kernel_rfl
theorem fl_Range_own_place (n : Nat) : (Gn prog n).att "Range" "own_place" = some none := by cases n <;> kernel_rfl
theorem fl_RangeSet_own_line (n : Nat) : (Gn prog n).att "RangeSet" "own_line" = some none := by cases n <;> kernel_rfl
theorem fl_RangeSet_own_pieces (n : Nat) : (Gn prog n).att "RangeSet" "own_pieces" = some none := by cases n <;> kernel_rfl
theorem fl_RangeSet_own_points (n : Nat) : (Gn prog n).att "RangeSet" "own_points" = some none := by cases n <;> kernel_rfl
theorem fl_RangeSet_own_rows (n : Nat) : (Gn prog n).att "RangeSet" "own_rows" = some none := by cases n <;> kernel_rfl
theorem lk_take (n : Nat) : (Gn prog (n + 1)).fn "_law_take" = some ⟨2, [], takeT⟩ := by kernel_rfl
theorem kn (n : Nat) : (Gn prog n).known = p_known := by cases n <;> rfl
end Rc

-- Pk09b
set_option Elab.async false
set_option linter.all false
set_option maxRecDepth 100000
set_option maxHeartbeats 1000000
namespace Rc
open PySem PySem.Spec PyProof.Rows L2

/-! ### lines, ends, cuts -/
inductive Ln where
  | whole | dense | words
def Ln.s : Ln → Str
  | .whole => "whole"
  | .dense => "dense"
  | .words => "words"
abbrev Ln.d (l : Ln) : D := .str l.s
inductive Pt where
  | i (x : Int) | s (x : Str)
def Pt.d : Pt → D
  | .i x => .int x
  | .s x => .str x
def optD : Option Pt → D
  | none => .non
  | some p => p.d
inductive Br where
  | co | cc | oc | oo
def Br.s : Br → Str
  | .co => "[)"
  | .cc => "[]"
  | .oc => "(]"
  | .oo => "()"
abbrev Br.d (b : Br) : D := .str b.s
def Br.lo : Br → Bool
  | .co => true
  | .cc => true
  | _ => false
def Br.hi : Br → Bool
  | .cc => true
  | .oc => true
  | _ => false
def isLet (c : Nat) : Bool := decide (97 ≤ c ∧ c ≤ 122)
/-- an end of the line, of at most m signs -/
def okP (m : Nat) : Ln → Pt → Prop
  | .words, .s x => x.cps.toList ≠ [] ∧ (∀ c ∈ x.cps.toList, isLet c = true) ∧ x.length ≤ m
  | .words, _ => False
  | _, .i x => True
  | _, .s _ => False
theorem n_wh_de : ((Str.ofString "whole") = (Str.ofString "dense")) = False := eq_false (by decide +kernel)
theorem n_wh_wo : ((Str.ofString "whole") = (Str.ofString "words")) = False := eq_false (by decide +kernel)
theorem n_de_wh : ((Str.ofString "dense") = (Str.ofString "whole")) = False := eq_false (by decide +kernel)
theorem n_de_wo : ((Str.ofString "dense") = (Str.ofString "words")) = False := eq_false (by decide +kernel)
theorem n_wo_wh : ((Str.ofString "words") = (Str.ofString "whole")) = False := eq_false (by decide +kernel)
theorem n_wo_de : ((Str.ofString "words") = (Str.ofString "dense")) = False := eq_false (by decide +kernel)
section
variable (n : Nat) (G : Gs)
theorem s_is_line (l : Ln) : callT ((Gn prog (n + 1)).fn "is_line") [l.d] = .ret (.bl true) := by
  cases n <;> cases l <;> kernel_rfl
theorem s_check_line (l : Ln) : callT ((Gn prog (n + 2)).fn "check_line") [l.d] = .ret .non := by
  cases n <;> cases l <;> kernel_rfl
theorem s_is_integer (x : Int) : callT ((Gn prog (n + 1)).fn "is_integer") [.int x] = .ret (.bl true) := by cases n <;> kernel_rfl
end
theorem callE {G : Gs} {f : FnIR} {ds : List D} (h : ds.length = f.n) (hd : f.dfl = []) : callT (some (f.fn G)) ds = runT G f.m f.ir ds := by
  simp [callT, full, FnIR.fn, hd, h, Tr.of, Tr.bind]
theorem sz1 : 1 ≤ sizeLine := by decide
theorem sz2 : 2 ≤ sizeLine := by decide
theorem sz3 : 3 ≤ sizeLine := by decide
theorem sz4 : 4 ≤ sizeLine := by decide
theorem sz5 : 5 ≤ sizeLine := by decide
theorem mulT (G : Gs) {x y : Int} (h : CMul x y) : binT G .Mult (.int x) (.int y) = .ret (.int (x * y)) := by
  simp only [binT, binD, mulD_ok _ _ h, Tr.of]
theorem cm1 (x : Int) : CMul x 1 := .inr (by decide)
theorem cm2 (x : Int) : CMul x 2 := .inr (by decide)
def aheadS : Ln → Pt → Option Pt
  | .words, .s x => if x = ("a" : Str) then none else some (.s x)
  | .dense, .i x => some (.i (x * 2))
  | _, .i x => some (.i (x * 1))
  | _, .s x => some (.s x)
def behindS : Ln → Pt → Pt
  | .words, .s x => .s (x ++ ("a" : Str))
  | .dense, .i x => .i (x * 2 + 1)
  | _, .i x => .i (x * 1 + 1)
  | _, .s x => .s x
theorem eqT_str (G : Gs) (x y : Str) : cmpT G .Eq (.str x) (.str y) = .ret (.bl (decide (x = y))) := by
  simp [cmpT, cmpD, eqD, okD, plainD, depD, eqB, toPy, Tr.of, PyData.eqv]
  by_cases h : x = y <;> simp [h]
theorem tab_h : tabD [("whole", .int 1), ("dense", .int 2)] (.str "whole") = some (.int 1) := by kernel_rfl
theorem tab_d : tabD [("whole", .int 1), ("dense", .int 2)] (.str "dense") = some (.int 2) := by kernel_rfl
theorem addT (G : Gs) (x y : Int) : binT G .Add (.int x) (.int y) = .ret (.int (x + y)) := rfl
theorem addS (G : Gs) (x y : Str) (h : x.length + y.length ≤ sizeLine) : binT G .Add (.str x) (.str y) = .ret (.str (x ++ y)) := by
  simp only [binT, binD, addD, if_pos h, Tr.of]
theorem tru_bl (b : Bool) : truT (.bl b) = .ret b := rfl
section
variable (n : Nat)
theorem s_ahead (l : Ln) (p : Pt) {m : Nat} (hm : m ≤ 1000) (h : okP m l p) : callT ((Gn prog (n + 1)).fn "cut_ahead") [l.d, p.d] = .ret (optD (aheadS l p)) := by
  cases l <;> cases p <;> first | (exact h.elim) | skip
  · rw [lk_fn_cut_ahead, callE rfl rfl]; simp [runT, sss, ss, em, ems, emT, emX, mVar, env0, dats, Tr.bind, Tr.of, tru_bl, endT, freeze, setT, setTs, optT, sz1, sz2, sz3, sz4, sz5, cm1, cm2, mulT, addT, eqT_str, tab_h, tab_d, n_wh_de, n_wh_wo, n_de_wh, n_de_wo, n_wo_wh, n_wo_de, ir_fn_cut_ahead, gl_WORDS, gl_FIRST_WORD, tb_STEPS, aheadS, Pt.d, Ln.d, Ln.s, optD]
  · rw [lk_fn_cut_ahead, callE rfl rfl]; simp [runT, sss, ss, em, ems, emT, emX, mVar, env0, dats, Tr.bind, Tr.of, tru_bl, endT, freeze, setT, setTs, optT, sz1, sz2, sz3, sz4, sz5, cm1, cm2, mulT, addT, eqT_str, tab_h, tab_d, n_wh_de, n_wh_wo, n_de_wh, n_de_wo, n_wo_wh, n_wo_de, ir_fn_cut_ahead, gl_WORDS, gl_FIRST_WORD, tb_STEPS, aheadS, Pt.d, Ln.d, Ln.s, optD]
  · rename_i x
    rw [lk_fn_cut_ahead, callE rfl rfl]
    by_cases e : x = ("a" : Str) <;> simp [runT, sss, ss, em, ems, emT, emX, mVar, env0, dats, Tr.bind, Tr.of, tru_bl, endT, freeze, setT, setTs, optT, sz1, sz2, sz3, sz4, sz5, cm1, cm2, mulT, addT, eqT_str, tab_h, tab_d, n_wh_de, n_wh_wo, n_de_wh, n_de_wo, n_wo_wh, n_wo_de, ir_fn_cut_ahead, gl_WORDS, gl_FIRST_WORD, tb_STEPS, aheadS, Pt.d, Ln.d, Ln.s, optD, e]
theorem s_behind (l : Ln) (p : Pt) {m : Nat} (hm : m ≤ 1000) (h : okP m l p) : callT ((Gn prog (n + 1)).fn "cut_behind") [l.d, p.d] = .ret (behindS l p).d := by
  cases l <;> cases p <;> first | (exact h.elim) | skip
  · rw [lk_fn_cut_behind, callE rfl rfl]; simp [runT, sss, ss, em, ems, emT, emX, mVar, env0, dats, Tr.bind, Tr.of, tru_bl, endT, freeze, setT, setTs, optT, sz1, sz2, sz3, sz4, sz5, cm1, cm2, mulT, addT, eqT_str, tab_h, tab_d, n_wh_de, n_wh_wo, n_de_wh, n_de_wo, n_wo_wh, n_wo_de, ir_fn_cut_behind, gl_WORDS, gl_FIRST_WORD, tb_STEPS, behindS, Pt.d, Ln.d, Ln.s]
  · rw [lk_fn_cut_behind, callE rfl rfl]; simp [runT, sss, ss, em, ems, emT, emX, mVar, env0, dats, Tr.bind, Tr.of, tru_bl, endT, freeze, setT, setTs, optT, sz1, sz2, sz3, sz4, sz5, cm1, cm2, mulT, addT, eqT_str, tab_h, tab_d, n_wh_de, n_wh_wo, n_de_wh, n_de_wo, n_wo_wh, n_wo_de, ir_fn_cut_behind, gl_WORDS, gl_FIRST_WORD, tb_STEPS, behindS, Pt.d, Ln.d, Ln.s]
  · rename_i x
    have hx : x.length + (Str.ofString "a").length ≤ sizeLine := Nat.le_trans (Nat.add_le_add (Nat.le_trans h.2.2 hm) (show (Str.ofString "a").length ≤ 1 by decide +kernel)) (by decide)
    rw [lk_fn_cut_behind, callE rfl rfl]; simp [runT, sss, ss, em, ems, emT, emX, mVar, env0, dats, Tr.bind, Tr.of, tru_bl, endT, freeze, setT, setTs, optT, sz1, sz2, sz3, sz4, sz5, cm1, cm2, mulT, addT, eqT_str, tab_h, tab_d, n_wh_de, n_wh_wo, n_de_wh, n_de_wo, n_wo_wh, n_wo_de, ir_fn_cut_behind, gl_WORDS, gl_FIRST_WORD, tb_STEPS, behindS, Pt.d, Ln.d, Ln.s, addS _ _ _ hx]
end
/-! ### comparisons -/
def geP : Pt → Pt → Bool
  | .i a, .i b => decide (b ≤ a)
  | .s a, .s b => !decide (a.cps.toList < b.cps.toList)
  | _, _ => false
def gtP : Pt → Pt → Bool
  | .i a, .i b => decide (b < a)
  | .s a, .s b => decide (b.cps.toList < a.cps.toList)
  | _, _ => false
theorem geT (G : Gs) {m m' : Nat} {l : Ln} {p q : Pt} (hp : okP m l p) (hq : okP m' l q) : cmpT G .GtE p.d q.d = .ret (.bl (geP p q)) := by
  cases l <;> cases p <;> cases q <;> first | (exact hp.elim) | (exact hq.elim) | rfl
theorem gtT (G : Gs) {m m' : Nat} {l : Ln} {p q : Pt} (hp : okP m l p) (hq : okP m' l q) : cmpT G .Gt p.d q.d = .ret (.bl (gtP p q)) := by
  cases l <;> cases p <;> cases q <;> first | (exact hp.elim) | (exact hq.elim) | rfl
theorem isntT (G : Gs) (p : Pt) : cmpT G .IsNot p.d .non = .ret (.bl true) := by cases p <;> rfl
theorem isT_ (G : Gs) (p : Pt) : cmpT G .Is p.d .non = .ret (.bl false) := by cases p <;> rfl
theorem isntN (G : Gs) : cmpT G .IsNot .non .non = .ret (.bl false) := rfl
theorem isN (G : Gs) : cmpT G .Is .non .non = .ret (.bl true) := rfl
theorem ok_ahead {m : Nat} {l : Ln} {p q : Pt} (h : okP m l p) (e : aheadS l p = some q) : okP m l q := by
  cases l <;> cases p <;> simp [aheadS] at e <;> first | (subst e; trivial) | (exact h.elim) | (obtain ⟨_, rfl⟩ := e; exact h)
theorem ok_behind {m : Nat} {l : Ln} {p : Pt} (h : okP m l p) : okP (m + 1) l (behindS l p) := by
  cases l <;> cases p <;> first | trivial | (exact h.elim) | skip
  rename_i x
  obtain ⟨h1, h2, h3⟩ := h
  have e : (x ++ Str.ofString "a").cps.toList = x.cps.toList ++ [97] := by
    show (x.cps ++ (Str.ofString "a").cps).toList = _
    rw [Array.toList_append, show (Str.ofString "a").cps.toList = [97] by decide +kernel]
  refine ⟨?_, ?_, ?_⟩
  · show (x ++ Str.ofString "a").cps.toList ≠ []
    rw [e]; simp
  · show ∀ c ∈ (x ++ Str.ofString "a").cps.toList, isLet c = true
    rw [e]
    intro c hc
    rcases List.mem_append.mp hc with z | z
    · exact h2 c z
    · have : c = 97 := by simpa using z
      subst this; decide
  · show (x ++ Str.ofString "a").length ≤ m + 1
    have h3' : x.cps.size ≤ m := h3
    show (x.cps ++ (Str.ofString "a").cps).size ≤ m + 1
    rw [Array.size_append, show (Str.ofString "a").cps.size = 1 by decide +kernel]
    omega
/-! ### the cuts of a range -/
def firstS (l : Ln) (lo : Option Pt) (b : Br) : Option Pt := lo.bind fun p => if b.lo then aheadS l p else some (behindS l p)
def lastS (l : Ln) (q : Pt) (b : Br) : Option Pt := if b.hi then some (behindS l q) else aheadS l q
def cutsS (l : Ln) (lo hi : Option Pt) (b : Br) : Option (Option Pt × Option Pt) := match hi with
  | none => some (firstS l lo b, none)
  | some q => match lastS l q b with
    | none => none
    | some z => match firstS l lo b with
      | none => some (none, some z)
      | some f => if geP f z then none else some (some f, some z)
def cutsD : Option (Option Pt × Option Pt) → D
  | none => .non
  | some (a, b) => .tup [optD a, optD b]
theorem br_lo (G : Gs) (b : Br) : (Tr.of (ixD b.d (.int 0))).bind (fun x => cmpT G .Eq x (.str "[")) = .ret (.bl b.lo) := by cases b <;> kernel_rfl
theorem br_hi (G : Gs) (b : Br) : (Tr.of (ixD b.d (.int 1))).bind (fun x => cmpT G .Eq x (.str "]")) = .ret (.bl b.hi) := by cases b <;> kernel_rfl
def okO (m : Nat) (l : Ln) : Option Pt → Prop
  | none => True
  | some p => okP m l p
end Rc

-- Pk09c
set_option Elab.async false
set_option linter.all false
set_option maxRecDepth 100000
set_option maxHeartbeats 1000000
namespace Rc
open PySem PySem.Spec PyProof.Rows L2
def loS (b : Br) : Str := if b.lo then "[" else "("
def hiS (b : Br) : Str := if b.hi then "]" else ")"
theorem ix_lo (b : Br) : ixD b.d (.int 0) = some (.str (loS b)) := by cases b <;> kernel_rfl
theorem ix_hi (b : Br) : ixD b.d (.int 1) = some (.str (hiS b)) := by cases b <;> kernel_rfl
theorem lo_eq (b : Br) : (loS b = Str.ofString "[") = (b.lo = true) := by
  cases b <;> exact propext ⟨fun h => by first | rfl | exact absurd h (by decide +kernel), fun h => by first | rfl | cases h⟩
theorem hi_eq (b : Br) : (hiS b = Str.ofString "]") = (b.hi = true) := by
  cases b <;> exact propext ⟨fun h => by first | rfl | exact absurd h (by decide +kernel), fun h => by first | rfl | cases h⟩
theorem okP_le {m m' : Nat} {l : Ln} {p : Pt} (h : okP m l p) (hm : m ≤ m') : okP m' l p := by
  cases l <;> cases p <;> first | trivial | (exact h.elim) | exact ⟨h.1, h.2.1, Nat.le_trans h.2.2 hm⟩
section
variable (n : Nat) {m : Nat} (hm : m ≤ 1000)
include hm
theorem s_cuts_of (l : Ln) (lo hi : Option Pt) (b : Br) (h1 : okO m l lo) (h2 : okO m l hi) : callT ((Gn prog (n + 2)).fn "cuts_of") [l.d, optD lo, optD hi, b.d] = .ret (cutsD (cutsS l lo hi b)) := by
  rw [lk_fn_cuts_of, callE rfl rfl]
  cases lo with
  | none =>
    cases hi with
    | none => simp [runT, sss, ss, em, ems, emT, emX, mVar, env0, dats, Tr.bind, Tr.of, tru_bl, endT, freeze, setT, setTs, optT, sz1, sz2, sz3, sz4, sz5, cm1, cm2, mulT, addT, eqT_str, tab_h, tab_d, n_wh_de, n_wh_wo, n_de_wh, n_de_wo, n_wo_wh, n_wo_de, ir_fn_cuts_of, optD, isntN, isN, cutsS, firstS, cutsD]
    | some q =>
      cases hb : b.hi with
      | true =>
        simp [runT, sss, ss, em, ems, emT, emX, mVar, env0, dats, Tr.bind, Tr.of, tru_bl, endT, freeze, setT, setTs, optT, sz1, sz2, sz3, sz4, sz5, cm1, cm2, mulT, addT, eqT_str, tab_h, tab_d, n_wh_de, n_wh_wo, n_de_wh, n_de_wo, n_wo_wh, n_wo_de, ir_fn_cuts_of, optD, isntN, isN, isntT, isT_, cutsS, firstS, lastS, cutsD, ix_lo, ix_hi, lo_eq, hi_eq, hb, s_behind _ l q hm h2]
      | false =>
        cases ha : aheadS l q with
        | none => simp [runT, sss, ss, em, ems, emT, emX, mVar, env0, dats, Tr.bind, Tr.of, tru_bl, endT, freeze, setT, setTs, optT, sz1, sz2, sz3, sz4, sz5, cm1, cm2, mulT, addT, eqT_str, tab_h, tab_d, n_wh_de, n_wh_wo, n_de_wh, n_de_wo, n_wo_wh, n_wo_de, ir_fn_cuts_of, optD, isntN, isN, isntT, isT_, cutsS, firstS, lastS, cutsD, ix_lo, ix_hi, lo_eq, hi_eq, hb, s_ahead _ l q hm h2, ha]
        | some z => simp [runT, sss, ss, em, ems, emT, emX, mVar, env0, dats, Tr.bind, Tr.of, tru_bl, endT, freeze, setT, setTs, optT, sz1, sz2, sz3, sz4, sz5, cm1, cm2, mulT, addT, eqT_str, tab_h, tab_d, n_wh_de, n_wh_wo, n_de_wh, n_de_wo, n_wo_wh, n_wo_de, ir_fn_cuts_of, optD, isntN, isN, isntT, isT_, cutsS, firstS, lastS, cutsD, ix_lo, ix_hi, lo_eq, hi_eq, hb, s_ahead _ l q hm h2, ha]
  | some p =>
    have A := s_ahead n l p hm h1
    have B := s_behind n l p hm h1
    have kA : ∀ z, aheadS l p = some z → okP (m + 1) l z := fun z e => okP_le (ok_ahead h1 e) (by omega)
    have kB : okP (m + 1) l (behindS l p) := ok_behind h1
    cases hi with
    | none =>
      cases hb : b.lo with
      | true => simp [runT, sss, ss, em, ems, emT, emX, mVar, env0, dats, Tr.bind, Tr.of, tru_bl, endT, freeze, setT, setTs, optT, sz1, sz2, sz3, sz4, sz5, cm1, cm2, mulT, addT, eqT_str, tab_h, tab_d, n_wh_de, n_wh_wo, n_de_wh, n_de_wo, n_wo_wh, n_wo_de, ir_fn_cuts_of, optD, isntN, isN, isntT, isT_, cutsS, firstS, lastS, cutsD, ix_lo, ix_hi, lo_eq, hi_eq, hb, A]
      | false => simp [runT, sss, ss, em, ems, emT, emX, mVar, env0, dats, Tr.bind, Tr.of, tru_bl, endT, freeze, setT, setTs, optT, sz1, sz2, sz3, sz4, sz5, cm1, cm2, mulT, addT, eqT_str, tab_h, tab_d, n_wh_de, n_wh_wo, n_de_wh, n_de_wo, n_wo_wh, n_wo_de, ir_fn_cuts_of, optD, isntN, isN, isntT, isT_, cutsS, firstS, lastS, cutsD, ix_lo, ix_hi, lo_eq, hi_eq, hb, B]
    | some q =>
      have A2 := s_ahead n l q hm h2
      have B2 := s_behind n l q hm h2
      have kA2 : ∀ z, aheadS l q = some z → okP (m + 1) l z := fun z e => okP_le (ok_ahead h2 e) (by omega)
      have kB2 : okP (m + 1) l (behindS l q) := ok_behind h2
      cases hb : b.lo with
      | true =>
        cases e1 : aheadS l p with
        | none =>
          cases hc : b.hi with
          | true => simp [runT, sss, ss, em, ems, emT, emX, mVar, env0, dats, Tr.bind, Tr.of, tru_bl, endT, freeze, setT, setTs, optT, sz1, sz2, sz3, sz4, sz5, cm1, cm2, mulT, addT, eqT_str, tab_h, tab_d, n_wh_de, n_wh_wo, n_de_wh, n_de_wo, n_wo_wh, n_wo_de, ir_fn_cuts_of, optD, isntN, isN, isntT, isT_, cutsS, firstS, lastS, cutsD, ix_lo, ix_hi, lo_eq, hi_eq, hb, hc, A, B2, e1]
          | false => cases e2 : aheadS l q <;> simp [runT, sss, ss, em, ems, emT, emX, mVar, env0, dats, Tr.bind, Tr.of, tru_bl, endT, freeze, setT, setTs, optT, sz1, sz2, sz3, sz4, sz5, cm1, cm2, mulT, addT, eqT_str, tab_h, tab_d, n_wh_de, n_wh_wo, n_de_wh, n_de_wo, n_wo_wh, n_wo_de, ir_fn_cuts_of, optD, isntN, isN, isntT, isT_, cutsS, firstS, lastS, cutsD, ix_lo, ix_hi, lo_eq, hi_eq, hb, hc, A, A2, e1, e2]
        | some f =>
          cases hc : b.hi with
          | true =>
            have g := geT (Gn prog (n + 1)) (kA f e1) kB2
            cases e3 : geP f (behindS l q) <;> simp [runT, sss, ss, em, ems, emT, emX, mVar, env0, dats, Tr.bind, Tr.of, tru_bl, endT, freeze, setT, setTs, optT, sz1, sz2, sz3, sz4, sz5, cm1, cm2, mulT, addT, eqT_str, tab_h, tab_d, n_wh_de, n_wh_wo, n_de_wh, n_de_wo, n_wo_wh, n_wo_de, ir_fn_cuts_of, optD, isntN, isN, isntT, isT_, cutsS, firstS, lastS, cutsD, ix_lo, ix_hi, lo_eq, hi_eq, hb, hc, A, B2, e1, g, e3]
          | false =>
            cases e2 : aheadS l q with
            | none => simp [runT, sss, ss, em, ems, emT, emX, mVar, env0, dats, Tr.bind, Tr.of, tru_bl, endT, freeze, setT, setTs, optT, sz1, sz2, sz3, sz4, sz5, cm1, cm2, mulT, addT, eqT_str, tab_h, tab_d, n_wh_de, n_wh_wo, n_de_wh, n_de_wo, n_wo_wh, n_wo_de, ir_fn_cuts_of, optD, isntN, isN, isntT, isT_, cutsS, firstS, lastS, cutsD, ix_lo, ix_hi, lo_eq, hi_eq, hb, hc, A, A2, e1, e2]
            | some z =>
              have g := geT (Gn prog (n + 1)) (kA f e1) (kA2 z e2)
              cases e3 : geP f z <;> simp [runT, sss, ss, em, ems, emT, emX, mVar, env0, dats, Tr.bind, Tr.of, tru_bl, endT, freeze, setT, setTs, optT, sz1, sz2, sz3, sz4, sz5, cm1, cm2, mulT, addT, eqT_str, tab_h, tab_d, n_wh_de, n_wh_wo, n_de_wh, n_de_wo, n_wo_wh, n_wo_de, ir_fn_cuts_of, optD, isntN, isN, isntT, isT_, cutsS, firstS, lastS, cutsD, ix_lo, ix_hi, lo_eq, hi_eq, hb, hc, A, A2, e1, e2, g, e3]
      | false =>
        cases hc : b.hi with
        | true =>
          have g := geT (Gn prog (n + 1)) kB kB2
          cases e3 : geP (behindS l p) (behindS l q) <;> simp [runT, sss, ss, em, ems, emT, emX, mVar, env0, dats, Tr.bind, Tr.of, tru_bl, endT, freeze, setT, setTs, optT, sz1, sz2, sz3, sz4, sz5, cm1, cm2, mulT, addT, eqT_str, tab_h, tab_d, n_wh_de, n_wh_wo, n_de_wh, n_de_wo, n_wo_wh, n_wo_de, ir_fn_cuts_of, optD, isntN, isN, isntT, isT_, cutsS, firstS, lastS, cutsD, ix_lo, ix_hi, lo_eq, hi_eq, hb, hc, B, B2, g, e3]
        | false =>
          cases e2 : aheadS l q with
          | none => simp [runT, sss, ss, em, ems, emT, emX, mVar, env0, dats, Tr.bind, Tr.of, tru_bl, endT, freeze, setT, setTs, optT, sz1, sz2, sz3, sz4, sz5, cm1, cm2, mulT, addT, eqT_str, tab_h, tab_d, n_wh_de, n_wh_wo, n_de_wh, n_de_wo, n_wo_wh, n_wo_de, ir_fn_cuts_of, optD, isntN, isN, isntT, isT_, cutsS, firstS, lastS, cutsD, ix_lo, ix_hi, lo_eq, hi_eq, hb, hc, B, A2, e2]
          | some z =>
            have g := geT (Gn prog (n + 1)) kB (kA2 z e2)
            cases e3 : geP (behindS l p) z <;> simp [runT, sss, ss, em, ems, emT, emX, mVar, env0, dats, Tr.bind, Tr.of, tru_bl, endT, freeze, setT, setTs, optT, sz1, sz2, sz3, sz4, sz5, cm1, cm2, mulT, addT, eqT_str, tab_h, tab_d, n_wh_de, n_wh_wo, n_de_wh, n_de_wo, n_wo_wh, n_wo_de, ir_fn_cuts_of, optD, isntN, isN, isntT, isT_, cutsS, firstS, lastS, cutsD, ix_lo, ix_hi, lo_eq, hi_eq, hb, hc, B, A2, e2, g, e3]
end
/-! ### keys, places -/
def lowK : Option Pt → D
  | none => .tup [.int 0]
  | some p => .tup [.int 1, p.d]
def highK : Option Pt → D
  | none => .tup [.int 2]
  | some p => .tup [.int 1, p.d]
def placeD (l : Ln) : Option (Option Pt × Option Pt) → D
  | none => .tup [l.d, .int 0]
  | some (a, b) => .tup [l.d, .int 1, lowK a, highK b]
section
variable (n : Nat)
theorem s_low_key (c : Option Pt) : callT ((Gn prog (n + 1)).fn "low_key") [optD c] = .ret (lowK c) := by
  rw [lk_fn_low_key, callE rfl rfl]
  cases c <;> simp [runT, sss, ss, em, ems, emT, emX, mVar, env0, dats, Tr.bind, Tr.of, tru_bl, endT, freeze, setT, setTs, optT, sz1, sz2, sz3, sz4, sz5, cm1, cm2, mulT, addT, eqT_str, tab_h, tab_d, n_wh_de, n_wh_wo, n_de_wh, n_de_wo, n_wo_wh, n_wo_de, ir_fn_low_key, optD, isntN, isN, isntT, isT_, cutsS, firstS, lastS, cutsD, ix_lo, ix_hi, lo_eq, hi_eq, lowK]
theorem s_high_key (c : Option Pt) : callT ((Gn prog (n + 1)).fn "high_key") [optD c] = .ret (highK c) := by
  rw [lk_fn_high_key, callE rfl rfl]
  cases c <;> simp [runT, sss, ss, em, ems, emT, emX, mVar, env0, dats, Tr.bind, Tr.of, tru_bl, endT, freeze, setT, setTs, optT, sz1, sz2, sz3, sz4, sz5, cm1, cm2, mulT, addT, eqT_str, tab_h, tab_d, n_wh_de, n_wh_wo, n_de_wh, n_de_wo, n_wo_wh, n_wo_de, ir_fn_high_key, optD, isntN, isN, isntT, isT_, cutsS, firstS, lastS, cutsD, ix_lo, ix_hi, lo_eq, hi_eq, highK]
theorem isTup (G : Gs) (ds : List D) : cmpT G .Is (.tup ds) .non = .ret (.bl false) := rfl
theorem isntTup (G : Gs) (ds : List D) : cmpT G .IsNot (.tup ds) .non = .ret (.bl true) := rfl
theorem ix0 (a b : D) : ixD (.tup [a, b]) (.int 0) = some a := rfl
theorem ix1 (a b : D) : ixD (.tup [a, b]) (.int 1) = some b := rfl
theorem s_place (l : Ln) (c : Option (Option Pt × Option Pt)) : callT ((Gn prog (n + 2)).fn "place_of") [l.d, cutsD c] = .ret (placeD l c) := by
  rw [lk_fn_place_of, callE rfl rfl]
  cases c with
  | none => simp [runT, sss, ss, em, ems, emT, emX, mVar, env0, dats, Tr.bind, Tr.of, tru_bl, endT, freeze, setT, setTs, optT, sz1, sz2, sz3, sz4, sz5, cm1, cm2, mulT, addT, eqT_str, tab_h, tab_d, n_wh_de, n_wh_wo, n_de_wh, n_de_wo, n_wo_wh, n_wo_de, ir_fn_place_of, isN, cutsD, placeD]
  | some q =>
    obtain ⟨a, b⟩ := q
    have h1 := s_low_key n a
    have h2 := s_high_key n b
    simp [runT, sss, ss, em, ems, emT, emX, mVar, env0, dats, Tr.bind, Tr.of, tru_bl, endT, freeze, setT, setTs, optT, sz1, sz2, sz3, sz4, sz5, cm1, cm2, mulT, addT, eqT_str, tab_h, tab_d, n_wh_de, n_wh_wo, n_de_wh, n_de_wo, n_wo_wh, n_wo_de, ir_fn_place_of, cutsD, placeD, isTup, ix0, ix1, h1, h2]
end
end Rc

-- Pk09d
set_option Elab.async false
set_option linter.all false
set_option maxRecDepth 100000
set_option maxHeartbeats 1000000
namespace Rc
open PySem PySem.Spec PyProof.Rows L2
theorem lcT_map {g : D → Option Env} {c : Env → Tr Bool} {e : Env → Tr D} {f : D → D} : ∀ {ds : List D}, (∀ d ∈ ds, ∃ env1, g d = some env1 ∧ c env1 = .ret true ∧ e env1 = .ret (f d)) → lcT g c e ds = .ret (ds.map f)
  | [], _ => rfl
  | d :: ds, h => by
    obtain ⟨env1, h1, h2, h3⟩ := h d List.mem_cons_self
    have ih := lcT_map (g := g) (c := c) (e := e) (f := f) (ds := ds) fun x hx => h x (List.mem_cons_of_mem _ hx)
    simp only [lcT, h1, h2, h3, ih, Tr.of, Tr.bind, if_true, List.map_cons]
theorem bools_map {α : Type} : ∀ (l : List α), bools (l.map fun _ => D.bl true) = some (l.map fun _ => true)
  | [] => rfl
  | a :: l => by simp [bools, bools_map l]
theorem letters_l : (Str.ofString "abcdefghijklmnopqrstuvwxyz").cps.toList = (List.range 26).map (97 + ·) := by decide +kernel
theorem inLet (G : Gs) {c : Nat} (h : isLet c = true) : cmpT G .In (.str ⟨#[c]⟩) (.str "abcdefghijklmnopqrstuvwxyz") = .ret (.bl true) := by
  have h' : 97 ≤ c ∧ c ≤ 122 := by simpa [isLet] using h
  have e : c ∈ (Str.ofString "abcdefghijklmnopqrstuvwxyz").cps.toList := by
    rw [letters_l]
    exact List.mem_map.mpr ⟨c - 97, by simp; omega, by omega⟩
  simp only [cmpT, inD, memD, Tr.of, Option.map_some, decide_eq_true e]
theorem isi_s (x : Str) : isiD p_known [.str x, .ty "str"] = some (.bl true) := by kernel_rfl
theorem isi_i (x : Int) : isiD p_known [.int x, .ty "int"] = some (.bl true) := by kernel_rfl
theorem neE (G : Gs) (x : Str) (h : x.cps.toList ≠ []) : cmpT G .NotEq (.str x) (.str "") = .ret (.bl true) := by
  have e : (x == Str.ofString "") = false := by
    rw [Bool.eq_false_iff]
    intro z
    apply h
    rw [beq_iff_eq.mp z]
    decide +kernel
  simp [cmpT, cmpD, neD, okD, plainD, depD, eqB, toPy, Tr.of, PyData.eqv, e]
theorem em_lc (G : Gs) (env : Env) (t : Tg) (own : List (Str × Nat)) (it : II) (c : IC) (e : IE) : em G (.lc t own it c e) env = (emI G it env).bind fun ds => (optT (decide (ds.length ≤ sizeLine)) ()).bind fun _ => (lcT (fun d => setT t d (wipeE env (own.map (·.2)))) (emC G c) (em G e) ds).bind fun r => .ret (.lst r) := by rw [em]
theorem run_ret {G : Gs} {m : Nat} {ds : List D} {a : IE} {d : D} (h : em G a (freeze (env0 m ds)) = .ret d) : runT G m [.ret a] ds = .ret d := by
  simp [runT, sss, ss, h, Tr.bind, endT]
theorem em_and_t {G : Gs} {env : Env} {a b : IE} (h : em G a env = .ret (.bl true)) : em G (.and a b) env = em G b env := by
  rw [em]
  simp [h, Tr.bind, tru_bl]
section
variable (n : Nat) {m : Nat} (hm : m ≤ 1000)
include hm
theorem s_is_letters (x : Str) (h : okP m .words (.s x)) : callT ((Gn prog (n + 1)).fn "is_letters") [.str x] = .ret (.bl true) := by
  obtain ⟨h1, h2, h3⟩ := h
  have hl : (signsD x).length ≤ sizeLine := by
    have : x.cps.size ≤ m := h3
    simp only [signsD, List.length_map, Array.length_toList]
    exact Nat.le_trans (Nat.le_trans this hm) (by decide)
  have lc : lcT (fun d => setT (.name 1) d (wipeE [some (.dat (.str x)), none] [1])) (emC (Gn prog n) .no) (em (Gn prog n) (.cmp .In (.var 1) (.glo "LETTERS"))) (signsD x) = .ret ((signsD x).map fun _ => .bl true) := by
    refine lcT_map fun d hd => ?_
    obtain ⟨c, hc, rfl⟩ := List.mem_map.mp hd
    refine ⟨_, rfl, rfl, ?_⟩
    have z := inLet (Gn prog n) (h2 c hc)
    have w : wipeE [some (.dat (.str x)), none] [1] = [some (EV.dat (.str x)), none] := rfl
    simp only [em, mVar, w, List.set_cons_succ, List.set_cons_zero, List.getElem?_cons_succ, List.getElem?_cons_zero, Tr.bind, gl_LETTERS, Tr.of, z]
  have b2 : bools ((signsD x).map fun _ => D.bl true) = some ((signsD x).map fun _ => true) := bools_map _
  have k1 : em (Gn prog n) (.lc (.name 1) [("letter", 1)] (.items (.var 0)) .no (.cmp .In (.var 1) (.glo "LETTERS"))) [some (.dat (.str x)), none] = .ret (.lst ((signsD x).map fun _ => .bl true)) := by
    rw [em_lc, show emI (Gn prog n) (.items (.var 0)) [some (.dat (.str x)), none] = .ret (signsD x) by simp [emI, em, mVar, Tr.bind, itemsT, itemsD, Tr.of]]
    simp only [Tr.bind, optT, hl, decide_true, if_true]
    rw [show ([(Str.ofString "letter", 1)] : List (Str × Nat)).map (·.2) = [1] from rfl, lc]
    rfl
  have k2 : em (Gn prog n) (.bi .all [(.lc (.name 1) [("letter", 1)] (.items (.var 0)) .no (.cmp .In (.var 1) (.glo "LETTERS")))]) [some (.dat (.str x)), none] = .ret (.bl true) := by
    rw [em_bi1 _ _ _ _ _ k1]
    simp [bifT, allD, b2, Tr.of]
  have kN := kn n
  rw [lk_fn_is_letters, callE rfl rfl]
  refine run_ret ?_
  show em (Gn prog n) _ [some (.dat (.str x)), none] = _
  rw [em_and_t (by simp [em, mVar, Tr.bind, gl_str, Tr.of, kN, isi_s]), em_and_t (by simp [em, mVar, Tr.bind, neE _ x h1])]
  exact k2
theorem s_is_end (l : Ln) (p : Pt) (h : okP m l p) : callT ((Gn prog (n + 2)).fn "is_end") [l.d, p.d] = .ret (.bl true) := by
  rw [lk_fn_is_end, callE rfl rfl]
  have a := s_is_line n l
  cases l <;> cases p <;> first | (exact h.elim) | skip
  · rename_i x
    have b := s_is_integer n x
    have a' := a
    simp only [Ln.d, Ln.s] at a'
    simp [runT, sss, ss, em, ems, emT, emX, mVar, env0, dats, Tr.bind, Tr.of, tru_bl, endT, freeze, setT, setTs, optT, sz1, sz2, sz3, sz4, sz5, cm1, cm2, mulT, addT, eqT_str, tab_h, tab_d, n_wh_de, n_wh_wo, n_de_wh, n_de_wo, n_wo_wh, n_wo_de, ir_fn_is_end, gl_WORDS, b, Ln.d, Ln.s, Pt.d, a']
  · rename_i x
    have b := s_is_integer n x
    have a' := a
    simp only [Ln.d, Ln.s] at a'
    simp [runT, sss, ss, em, ems, emT, emX, mVar, env0, dats, Tr.bind, Tr.of, tru_bl, endT, freeze, setT, setTs, optT, sz1, sz2, sz3, sz4, sz5, cm1, cm2, mulT, addT, eqT_str, tab_h, tab_d, n_wh_de, n_wh_wo, n_de_wh, n_de_wo, n_wo_wh, n_wo_de, ir_fn_is_end, gl_WORDS, b, Ln.d, Ln.s, Pt.d, a']
  · rename_i x
    have b := s_is_letters n hm x h
    have a' := a
    simp only [Ln.d, Ln.s] at a'
    simp [runT, sss, ss, em, ems, emT, emX, mVar, env0, dats, Tr.bind, Tr.of, tru_bl, endT, freeze, setT, setTs, optT, sz1, sz2, sz3, sz4, sz5, cm1, cm2, mulT, addT, eqT_str, tab_h, tab_d, n_wh_de, n_wh_wo, n_de_wh, n_de_wo, n_wo_wh, n_wo_de, ir_fn_is_end, gl_WORDS, b, Ln.d, Ln.s, Pt.d, a']
end
end Rc

-- Pk09e
set_option Elab.async false
set_option linter.all false
set_option maxRecDepth 100000
set_option maxHeartbeats 1000000
namespace Rc
open PySem PySem.Spec PyProof.Rows L2
def rangeF (l : Ln) (c : Option (Option Pt × Option Pt)) : List (Str × D) := [("own_line", l.d), ("own_cuts", cutsD c), ("own_place", placeD l c)]
def rangeD (l : Ln) (c : Option (Option Pt × Option Pt)) : D := .obj "Range" (rangeF l c)
theorem notin_br (G : Gs) (b : Br) : cmpT G .NotIn b.d (.tup [(.str "[)"), (.str "[]"), (.str "(]"), (.str "()")]) = .ret (.bl false) := by cases b <;> kernel_rfl
abbrev sL : Str := "own_line"
abbrev sC : Str := "own_cuts"
abbrev sP : Str := "own_place"
theorem put1 (a : D) : putD (Str.ofString "own_line") a [] = [(Str.ofString "own_line", a)] := rfl
theorem put2 (a b : D) : putD (Str.ofString "own_cuts") b [(Str.ofString "own_line", a)] = [(Str.ofString "own_line", a), (Str.ofString "own_cuts", b)] := by kernel_rfl
theorem put3 (a b c : D) : putD (Str.ofString "own_place") c [(Str.ofString "own_line", a), (Str.ofString "own_cuts", b)] = [(Str.ofString "own_line", a), (Str.ofString "own_cuts", b), (Str.ofString "own_place", c)] := by kernel_rfl
theorem look2 (a b : D) : List.lookup (Str.ofString "own_cuts") [(Str.ofString "own_line", a), (Str.ofString "own_cuts", b)] = some b := by kernel_rfl
/-- not turned -/
def notTurned (lo hi : Option Pt) : Prop := ∀ p q, lo = some p → hi = some q → gtP p q = false
section
variable (n : Nat) {m : Nat} (hm : m ≤ 1000)
include hm
theorem s_initR (l : Ln) (lo hi : Option Pt) (b : Br) (h1 : okO m l lo) (h2 : okO m l hi) (ht : notTurned lo hi) : runTI (Gn prog (n + 3)) ir_mak_Range.m "Range" ir_mak_Range.ir [l.d, optD lo, optD hi, b.d] = .ret (rangeF l (cutsS l lo hi b)) := by
  have A : callT ((Gn prog (n + 3)).fn "check_line") [l.d] = .ret .non := s_check_line (n + 1) l
  have B : callT ((Gn prog (n + 3)).fn "cuts_of") [l.d, optD lo, optD hi, b.d] = .ret (cutsD (cutsS l lo hi b)) := s_cuts_of (n + 1) hm l lo hi b h1 h2
  have C : callT ((Gn prog (n + 3)).fn "place_of") [l.d, cutsD (cutsS l lo hi b)] = .ret (placeD l (cutsS l lo hi b)) := s_place (n + 1) l (cutsS l lo hi b)
  have kN := kn (n + 3)
  have E : ∀ p, okP m l p → callT ((Gn prog (n + 3)).fn "is_end") [l.d, p.d] = .ret (.bl true) := fun p h => s_is_end (n + 1) hm l p h
  generalize hc : cutsS l lo hi b = cs at B C ⊢
  have nb := notin_br (Gn prog (n + 3)) b
  cases lo with
  | none =>
    cases hi with
    | none =>
      simp only [optD] at B
      simp [runT, sss, ss, em, ems, emT, emX, mVar, env0, dats, Tr.bind, Tr.of, tru_bl, endT, freeze, setT, setTs, optT, sz1, sz2, sz3, sz4, sz5, cm1, cm2, mulT, addT, eqT_str, tab_h, tab_d, n_wh_de, n_wh_wo, n_de_wh, n_de_wo, n_wo_wh, n_wo_de, runTI, envI, ir_mak_Range, emI, itemsT, itemsD, loopT, fldT, mSelf, endI, gl_str, gl_BRACKETS, kN, isi_s, nb, put1, put2, put3, look2, rangeF, optD, isntN, isN, isntT, isT_, A, B, C]
    | some q =>
      simp only [optD] at B
      simp [runT, sss, ss, em, ems, emT, emX, mVar, env0, dats, Tr.bind, Tr.of, tru_bl, endT, freeze, setT, setTs, optT, sz1, sz2, sz3, sz4, sz5, cm1, cm2, mulT, addT, eqT_str, tab_h, tab_d, n_wh_de, n_wh_wo, n_de_wh, n_de_wo, n_wo_wh, n_wo_de, runTI, envI, ir_mak_Range, emI, itemsT, itemsD, loopT, fldT, mSelf, endI, gl_str, gl_BRACKETS, kN, isi_s, nb, put1, put2, put3, look2, rangeF, optD, isntN, isN, isntT, isT_, A, B, C, E q h2]
  | some p =>
    cases hi with
    | none =>
      simp only [optD] at B
      simp [runT, sss, ss, em, ems, emT, emX, mVar, env0, dats, Tr.bind, Tr.of, tru_bl, endT, freeze, setT, setTs, optT, sz1, sz2, sz3, sz4, sz5, cm1, cm2, mulT, addT, eqT_str, tab_h, tab_d, n_wh_de, n_wh_wo, n_de_wh, n_de_wo, n_wo_wh, n_wo_de, runTI, envI, ir_mak_Range, emI, itemsT, itemsD, loopT, fldT, mSelf, endI, gl_str, gl_BRACKETS, kN, isi_s, nb, put1, put2, put3, look2, rangeF, optD, isntN, isN, isntT, isT_, A, B, C, E p h1]
    | some q =>
      simp only [optD] at B
      have g := gtT (Gn prog (n + 3)) (show okP m l p from h1) (show okP m l q from h2)
      rw [ht p q rfl rfl] at g
      simp [runT, sss, ss, em, ems, emT, emX, mVar, env0, dats, Tr.bind, Tr.of, tru_bl, endT, freeze, setT, setTs, optT, sz1, sz2, sz3, sz4, sz5, cm1, cm2, mulT, addT, eqT_str, tab_h, tab_d, n_wh_de, n_wh_wo, n_de_wh, n_de_wo, n_wo_wh, n_wo_de, runTI, envI, ir_mak_Range, emI, itemsT, itemsD, loopT, fldT, mSelf, endI, gl_str, gl_BRACKETS, kN, isi_s, nb, put1, put2, put3, look2, rangeF, optD, isntN, isN, isntT, isT_, A, B, C, E p h1, E q h2, g]
end
end Rc

-- Pk09f
set_option Elab.async false
set_option linter.all false
set_option maxRecDepth 100000
set_option maxHeartbeats 1000000
namespace Rc
open PySem PySem.Spec PyProof.Rows L2
theorem mkE {G : Gs} {f : FnIR} {c : Str} {ds es : List D} {fs : List (Str × D)} (h : full f.n f.dfl ds = some es) (hr : runTI G f.m c f.ir es = .ret fs) : mkT c (some (f.ini c G)) ds = .ret (.obj c fs) := by
  simp only [mkT, FnIR.ini, h, Tr.of, Tr.bind, hr]
theorem full4 (a b c d : D) : full ir_mak_Range.n ir_mak_Range.dfl [a, b, c, d] = some [a, b, c, d] := by kernel_rfl
theorem full3 (a b c : D) : full ir_mak_Range.n ir_mak_Range.dfl [a, b, c] = some [a, b, c, Br.d .co] := by kernel_rfl
theorem full2 (a b : D) : full ir_mak_Range.n ir_mak_Range.dfl [a, b] = some [a, b, optD none, Br.d .co] := by kernel_rfl
theorem full1 (a : D) : full ir_mak_Range.n ir_mak_Range.dfl [a] = some [a, optD none, optD none, Br.d .co] := by kernel_rfl
section
variable (n : Nat) {m : Nat} (hm : m ≤ 1000)
include hm
theorem s_mk4 (l : Ln) (lo hi : Option Pt) (b : Br) (h1 : okO m l lo) (h2 : okO m l hi) (ht : notTurned lo hi) : mkT "Range" ((Gn prog (n + 4)).mak "Range") [l.d, optD lo, optD hi, b.d] = .ret (rangeD l (cutsS l lo hi b)) := by
  rw [lk_mak_Range (n + 3)]
  exact mkE (full4 _ _ _ _) (s_initR n hm l lo hi b h1 h2 ht)
theorem s_mk3 (l : Ln) (lo hi : Option Pt) (h1 : okO m l lo) (h2 : okO m l hi) (ht : notTurned lo hi) : mkT "Range" ((Gn prog (n + 4)).mak "Range") [l.d, optD lo, optD hi] = .ret (rangeD l (cutsS l lo hi .co)) := by
  rw [lk_mak_Range (n + 3)]
  exact mkE (full3 _ _ _) (s_initR n hm l lo hi .co h1 h2 ht)
end
def endS : Ln → Pt → Pt × Bool
  | .dense, .i x => (.i (x / 2), decide (x % 2 = 1))
  | _, c => (c, false)
theorem divT (G : Gs) (x : Int) : binT G .FloorDiv (.int x) (.int 2) = .ret (.int (x / 2)) := by
  have h : CDiv x 2 := ⟨by decide, by decide⟩
  simp only [binT, binD, fdivD, if_pos h, Tr.of]
theorem modT (G : Gs) (x : Int) : binT G .Mod (.int x) (.int 2) = .ret (.int (x % 2)) := by
  simp only [binT, binD, modD_pos x 2 (by decide), Tr.of]
theorem eqT_int (G : Gs) (x y : Int) : cmpT G .Eq (.int x) (.int y) = .ret (.bl (decide (x = y))) := by
  simp [cmpT, cmpD, eqD, okD, plainD, depD, eqB, toPy, Tr.of, PyData.eqv]
  by_cases h : x = y <;> simp [h]
theorem intT_ (G : Gs) (x : Int) : bifT G .int [.int x] = .ret (.int x) := rfl
section
variable (n : Nat)
theorem s_end_of {m : Nat} (l : Ln) (c : Pt) (h : okP m l c) : callT ((Gn prog (n + 1)).fn "end_of") [l.d, c.d] = .ret (.tup [(endS l c).1.d, .bl (endS l c).2]) := by
  rw [lk_fn_end_of, callE rfl rfl]
  cases l <;> cases c <;> first | (exact h.elim) | skip
  · simp [runT, sss, ss, em, ems, emT, emX, mVar, env0, dats, Tr.bind, Tr.of, tru_bl, endT, freeze, setT, setTs, optT, sz1, sz2, sz3, sz4, sz5, cm1, cm2, mulT, addT, eqT_str, tab_h, tab_d, n_wh_de, n_wh_wo, n_de_wh, n_de_wo, n_wo_wh, n_wo_de, ir_fn_end_of, gl_DENSE, Ln.d, Ln.s, Pt.d, endS]
  · simp [runT, sss, ss, em, ems, emT, emX, mVar, env0, dats, Tr.bind, Tr.of, tru_bl, endT, freeze, setT, setTs, optT, sz1, sz2, sz3, sz4, sz5, cm1, cm2, mulT, addT, eqT_str, tab_h, tab_d, n_wh_de, n_wh_wo, n_de_wh, n_de_wo, n_wo_wh, n_wo_de, ir_fn_end_of, gl_DENSE, Ln.d, Ln.s, Pt.d, endS, divT, modT, eqT_int, intT_]
  · simp [runT, sss, ss, em, ems, emT, emX, mVar, env0, dats, Tr.bind, Tr.of, tru_bl, endT, freeze, setT, setTs, optT, sz1, sz2, sz3, sz4, sz5, cm1, cm2, mulT, addT, eqT_str, tab_h, tab_d, n_wh_de, n_wh_wo, n_de_wh, n_de_wo, n_wo_wh, n_wo_de, ir_fn_end_of, gl_DENSE, Ln.d, Ln.s, Pt.d, endS]
abbrev Cuts := Option (Option Pt × Option Pt)
def okCs (m : Nat) (l : Ln) : Cuts → Prop
  | none => True
  | some (a, b) => okO m l a ∧ okO m l b
theorem lkL (a b c : D) : List.lookup (Str.ofString "own_line") [(Str.ofString "own_line", a), (Str.ofString "own_cuts", b), (Str.ofString "own_place", c)] = some a := by kernel_rfl
theorem lkC (a b c : D) : List.lookup (Str.ofString "own_cuts") [(Str.ofString "own_line", a), (Str.ofString "own_cuts", b), (Str.ofString "own_place", c)] = some b := by kernel_rfl
theorem lkP (a b c : D) : List.lookup (Str.ofString "own_place") [(Str.ofString "own_line", a), (Str.ofString "own_cuts", b), (Str.ofString "own_place", c)] = some c := by kernel_rfl
theorem attL (l : Ln) (c : Cuts) : attT (Gn prog n).att "own_line" (rangeD l c) = .ret l.d := by
  simp [rangeD, rangeF, attT, fl_Range_own_line, fl_Range_own_cuts, fl_Range_own_place, lkL, lkC, lkP, Tr.of]
theorem attC (l : Ln) (c : Cuts) : attT (Gn prog n).att "own_cuts" (rangeD l c) = .ret (cutsD c) := by
  simp [rangeD, rangeF, attT, fl_Range_own_line, fl_Range_own_cuts, fl_Range_own_place, lkL, lkC, lkP, Tr.of]
theorem attP (l : Ln) (c : Cuts) : attT (Gn prog n).att "own_place" (rangeD l c) = .ret (placeD l c) := by
  simp [rangeD, rangeF, attT, fl_Range_own_line, fl_Range_own_cuts, fl_Range_own_place, lkL, lkC, lkP, Tr.of]
theorem att_run (f : Str) (q : FnIR) (l : Ln) (c : Cuts) (h : (Gn prog (n + 1)).att "Range" f = some (some (runT (Gn prog n) q.m q.ir))) : attT (Gn prog (n + 1)).att f (rangeD l c) = runT (Gn prog n) q.m q.ir [rangeD l c] := by
  simp only [rangeD, attT, h]
theorem s_line (l : Ln) (c : Cuts) : attT (Gn prog (n + 1)).att "line" (rangeD l c) = .ret l.d := by
  rw [att_run n _ _ l c (lk_prp_Range_line n)]
  have A := attL n l c
  simp [runT, sss, ss, em, ems, emT, emX, mVar, env0, dats, Tr.bind, Tr.of, tru_bl, endT, freeze, setT, setTs, optT, sz1, sz2, sz3, sz4, sz5, cm1, cm2, mulT, addT, eqT_str, tab_h, tab_d, n_wh_de, n_wh_wo, n_de_wh, n_de_wo, n_wo_wh, n_wo_de, ir_prp_Range_line, A]
end
section
variable {G : Gs} {env : Env} {a : IE} {c : IT} {r s : List IS} {d : D} {i j : Nat}
theorem st_asg (h : em G a env = .ret d) : sss G (.asg (.name i) a :: r) env = sss G r (env.set i (some (.dat d))) := by
  simp [sss, ss, h, Tr.bind, setT, Tr.of]
theorem st_asg2 {x y : D} (h : em G a env = .ret (.tup [x, y])) : sss G (.asg (.tup [.name i, .name j]) a :: r) env = sss G r ((env.set i (some (.dat x))).set j (some (.dat y))) := by
  have e : setT (.tup [.name i, .name j]) (.tup [x, y]) env = some ((env.set i (some (.dat x))).set j (some (.dat y))) := rfl
  simp only [sss, ss, h, Tr.bind, e, Tr.of]
theorem st_no (h : emT G c env = .ret false) : sss G (.iff c s [] :: r) env = sss G r env := by
  simp [sss, ss, h, Tr.bind]
theorem st_yes (h : emT G c env = .ret true) (h2 : em G a (freeze env) = .ret d) : sss G (.iff c [.ret a] [] :: r) env = .ret (.rt d) := by
  simp [sss, ss, h, h2, Tr.bind]
theorem st_ret (h : em G a (freeze env) = .ret d) : sss G (.ret a :: r) env = .ret (.rt d) := by
  simp [sss, ss, h, Tr.bind]
theorem run_of {m : Nat} {ds : List D} {ir : List IS} (h : sss G ir (env0 m ds) = .ret (.rt d)) : runT G m ir ds = .ret d := by
  simp [runT, h, Tr.bind, endT]
end
def brOf : Bool → Bool → Br
  | true, false => .co
  | true, true => .cc
  | false, true => .oc
  | false, false => .oo
def piecesD (c : Cuts) : D := match c with
  | none => .tup []
  | some _ => .tup [cutsD c]
theorem isi_rs (fs : List (Str × D)) : isiD p_known [.obj "Range" fs, .cls "RangeSet"] = some (.bl false) := by kernel_rfl
theorem isi_r (fs : List (Str × D)) : isiD p_known [.obj "Range" fs, .cls "Range"] = some (.bl true) := by kernel_rfl
section
variable (n : Nat)
theorem s_pieces_in (l : Ln) (c : Cuts) : callT ((Gn prog (n + 1)).fn "pieces_in") [rangeD l c] = .ret (piecesD c) := by
  rw [lk_fn_pieces_in, callE rfl rfl]
  have kN := kn n
  have B := attC n l c
  refine run_of ?_
  unfold ir_fn_pieces_in
  rw [st_no (by simp [runT, sss, ss, em, ems, emT, emX, mVar, env0, dats, Tr.bind, Tr.of, tru_bl, endT, freeze, setT, setTs, optT, sz1, sz2, sz3, sz4, sz5, cm1, cm2, mulT, addT, eqT_str, tab_h, tab_d, n_wh_de, n_wh_wo, n_de_wh, n_de_wo, n_wo_wh, n_wo_de, gl_RangeSet, kN, rangeD, isi_rs])]
  refine st_ret ?_
  cases c with
  | none => simp [runT, sss, ss, em, ems, emT, emX, mVar, env0, dats, Tr.bind, Tr.of, tru_bl, endT, freeze, setT, setTs, optT, sz1, sz2, sz3, sz4, sz5, cm1, cm2, mulT, addT, eqT_str, tab_h, tab_d, n_wh_de, n_wh_wo, n_de_wh, n_de_wo, n_wo_wh, n_wo_de, B, cutsD, isN, piecesD]
  | some q => simp [runT, sss, ss, em, ems, emT, emX, mVar, env0, dats, Tr.bind, Tr.of, tru_bl, endT, freeze, setT, setTs, optT, sz1, sz2, sz3, sz4, sz5, cm1, cm2, mulT, addT, eqT_str, tab_h, tab_d, n_wh_de, n_wh_wo, n_de_wh, n_de_wo, n_wo_wh, n_wo_de, B, cutsD, isTup, piecesD]
theorem eqNil (G : Gs) : cmpT G .Eq (.tup []) (.tup []) = .ret (.bl true) := by kernel_rfl
theorem ixT0 (a : D) : ixD (.tup [a]) (.int 0) = some a := rfl
end
theorem neg1 (G : Gs) : unT G .USub (.int 1) = .ret (.int (-1)) := by kernel_rfl
theorem subT (G : Gs) (x y : Int) : binT G .Sub (.int x) (.int y) = .ret (.int (x - y)) := rfl
mutual
theorem eqv_same : ∀ (d : D), plainD d = true → PyData.eqv (toPy d) (toPy d) = true
  | .non, _ => rfl
  | .bl b, _ => by simp [toPy, PyData.eqv]
  | .int i, _ => by simp [toPy, PyData.eqv]
  | .str x, _ => by simp [toPy, PyData.eqv]
  | .tup ds, h => by
    simp only [toPy, PyData.eqv]
    exact eqvs_same ds (by simpa [plainD] using h)
  | .lst ds, h => by
    simp only [toPy, PyData.eqv]
    exact eqvs_same ds (by simpa [plainD] using h)
  | .dic _, h => by simp [plainD] at h
  | .obj _ _, h => by simp [plainD] at h
  | .cls _, h => by simp [plainD] at h
  | .ty _, h => by simp [plainD] at h
  | .pot, h => by simp [plainD] at h
  | .scr _, h => by simp [plainD] at h
theorem eqvs_same : ∀ (ds : List D), plainDs ds = true → PyData.eqvAll (toPys ds) (toPys ds) = true
  | [], _ => rfl
  | d :: ds, h => by
    have h' : plainD d = true ∧ plainDs ds = true := by simpa [plainDs] using h
    simp [toPys, PyData.eqvAll, eqv_same d h'.1, eqvs_same ds h'.2]
end
theorem okD_place (l : Ln) (c : Cuts) : okD (placeD l c) = true := by
  rcases c with _ | ⟨a, b⟩
  · rfl
  · rcases a with _ | (_ | _) <;> rcases b with _ | (_ | _) <;> rfl
theorem plain_of_ok {d : D} (h : okD d = true) : plainD d = true := (Bool.and_eq_true_iff.mp h).1
theorem eqP (G : Gs) (l : Ln) (c : Cuts) : cmpT G .Eq (placeD l c) (placeD l c) = .ret (.bl true) := by
  have h := okD_place l c
  have e := eqv_same _ (plain_of_ok h)
  have k : ∀ d : D, okD d = true → eqB d d = true → (∃ ds, d = .tup ds) → cmpT G .Eq d d = .ret (.bl true) := by
    rintro d h1 h2 ⟨ds, rfl⟩
    simp only [cmpT, cmpD, eqD, h1, h2, Bool.and_self, if_true, Tr.of]
  exact k _ h e (by rcases c with _ | ⟨a, b⟩ <;> exact ⟨_, rfl⟩)
section
variable (n : Nat)
theorem known_r (fs : List (Str × D)) : ((Gn prog n).known.contains (Str.ofString "Range") && knownB (Gn prog n) (.obj "Range" fs) && !isLst (.obj "Range" fs)) = true := by
  simp only [knownB, kn]
  rfl
theorem s_eqm (l : Ln) (c : Cuts) : callT ((Gn prog (n + 1)).met "Range" "__eq__") [rangeD l c, rangeD l c] = .ret (.bl true) := by
  rw [lk_met_Rangeu_equ, callE rfl rfl]
  have kN := kn n
  have A := attP n l c
  refine run_ret ?_
  show em (Gn prog n) _ [some (.dat (rangeD l c)), some (.dat (rangeD l c))] = _
  rw [em_and_t (by simp [em, mVar, Tr.bind, gl_Range, Tr.of, kN, rangeD, isi_r])]
  simp [em, mVar, Tr.bind, A, eqP]
theorem s_eq (l : Ln) (c : Cuts) : cmpT (Gn prog (n + 1)) .Eq (rangeD l c) (rangeD l c) = .ret (.bl true) := by
  have A := s_eqm n l c
  have B := known_r (n + 1) (rangeF l c)
  unfold rangeD at A ⊢
  simp only [cmpT, B, if_true, cmpName, A, Tr.bind, blT]
end
theorem st_ex {G : Gs} {env : Env} {a : IE} {d : D} {r : List IS} (h : em G a env = .ret d) : sss G (.ex a :: r) env = sss G r env := by
  simp [sss, ss, h, Tr.bind]
theorem gt_self (p : Pt) : gtP p p = false := by
  cases p with
  | i x => simp [gtP]
  | s x =>
    have h : ¬ x.cps.toList < x.cps.toList := List.lt_irrefl _
    simp [gtP, h]
theorem int_bl (G : Gs) (b : Bool) : bifT G .int [.bl b] = .ret (.int (if b then 1 else 0)) := by cases b <;> rfl
theorem neT_str (G : Gs) (x y : Str) : cmpT G .NotEq (.str x) (.str y) = .ret (.bl (!decide (x = y))) := by
  simp [cmpT, cmpD, neD, okD, plainD, depD, eqB, toPy, Tr.of, PyData.eqv]
  by_cases h : x = y <;> simp [h]
theorem isntI (G : Gs) (x : Int) : cmpT G .IsNot (.int x) .non = .ret (.bl true) := rfl
theorem em_bin2 {G : Gs} {env : Env} {op : Operator} {a b : IE} {x y z : D} (h1 : em G a env = .ret x) (h2 : em G b env = .ret y) (h3 : binT G op x y = .ret z) : em G (.bin op a b) env = .ret z := by
  rw [em_bin, h1, h2]
  exact h3
theorem tup3 {G : Gs} {env : Env} {a b c : IE} {x y z : D} (h1 : em G a env = .ret x) (h2 : em G b env = .ret y) (h3 : em G c env = .ret z) : em G (.tup [a, b, c]) env = .ret (.tup [x, y, z]) := by
  rw [em]
  simp [ems, h1, h2, h3, Tr.bind, optT, sz3]
theorem tup2 {G : Gs} {env : Env} {a b : IE} {x y : D} (h1 : em G a env = .ret x) (h2 : em G b env = .ret y) : em G (.tup [a, b]) env = .ret (.tup [x, y]) := by
  rw [em]
  simp [ems, h1, h2, Tr.bind, optT, sz2]
end Rc

-- Pk09g
set_option Elab.async false
set_option linter.all false
set_option maxRecDepth 100000
set_option maxHeartbeats 1000000
namespace Rc
open PySem PySem.Spec PyProof.Rows L2
/-! ### pieces as data -/
def optI : Cu → D
  | none => .non
  | some x => .int x
def pcD (p : Pc) : D := .tup [optI p.1, optI p.2]
def pcsD (ps : List Pc) : D := .tup (ps.map pcD)
theorem isI (G : Gs) (c : Cu) : cmpT G .Is (optI c) .non = .ret (.bl c.isNone) := by cases c <;> rfl
theorem isntO (G : Gs) (c : Cu) : cmpT G .IsNot (optI c) .non = .ret (.bl c.isSome) := by cases c <;> rfl
theorem ltI_ (G : Gs) (a b : Int) : cmpT G .Lt (.int a) (.int b) = .ret (.bl (decide (a < b))) := rfl
theorem leI_ (G : Gs) (a b : Int) : cmpT G .LtE (.int a) (.int b) = .ret (.bl (decide (a ≤ b))) := rfl
theorem maxI (G : Gs) (a b : Int) : bifT G .max [.int a, .int b] = .ret (.int (if b > a then b else a)) := rfl
section
variable (n : Nat)
theorem s_reached (a b : Cu) : callT ((Gn prog (n + 1)).fn "is_reached") [optI a, optI b] = .ret (.bl (reached a b)) := by
  rw [lk_fn_is_reached, callE rfl rfl]
  refine run_ret ?_
  unfold ir_fn_is_reached
  rcases a with _ | a <;> rcases b with _ | b <;> simp [runT, sss, ss, em, ems, emT, emX, mVar, env0, dats, Tr.bind, Tr.of, tru_bl, endT, freeze, setT, setTs, optT, sz1, sz2, sz3, sz4, sz5, cm1, cm2, mulT, addT, eqT_str, tab_h, tab_d, n_wh_de, n_wh_wo, n_de_wh, n_de_wo, n_wo_wh, n_wo_de, optI, isN, reached, leI_, show ∀ (G : Gs) (x : Int), cmpT G .Is (.int x) .non = .ret (.bl false) from fun _ _ => rfl]
theorem s_later (a b : Cu) : callT ((Gn prog (n + 1)).fn "later_cut") [optI a, optI b] = .ret (optI (later a b)) := by
  rw [lk_fn_later_cut, callE rfl rfl]
  refine run_ret ?_
  unfold ir_fn_later_cut
  rcases a with _ | a <;> rcases b with _ | b <;> simp [runT, sss, ss, em, ems, emT, emX, mVar, env0, dats, Tr.bind, Tr.of, tru_bl, endT, freeze, setT, setTs, optT, sz1, sz2, sz3, sz4, sz5, cm1, cm2, mulT, addT, eqT_str, tab_h, tab_d, n_wh_de, n_wh_wo, n_de_wh, n_de_wo, n_wo_wh, n_wo_de, optI, isN, later, maxI, show ∀ (G : Gs) (x : Int), cmpT G .Is (.int x) .non = .ret (.bl false) from fun _ _ => rfl]
def lkI : Cu → D
  | none => .tup [.int 0]
  | some a => .tup [.int 1, .int a]
def hkI : Cu → D
  | none => .tup [.int 2]
  | some a => .tup [.int 1, .int a]
theorem s_lowk (a : Cu) : callT ((Gn prog (n + 1)).fn "low_key") [optI a] = .ret (lkI a) := by
  cases a with
  | none => exact s_low_key n none
  | some a => exact s_low_key n (some (.i a))
theorem s_highk (a : Cu) : callT ((Gn prog (n + 1)).fn "high_key") [optI a] = .ret (hkI a) := by
  cases a with
  | none => exact s_high_key n none
  | some a => exact s_high_key n (some (.i a))
end
def kyD (p : Pc) : D := .tup [lkI p.1, hkI p.2, optI p.1, optI p.2]
/-! ### sorting them -/
theorem sortB_map {α β : Type} {lt : α → α → Bool} {lt' : β → β → Bool} {f : α → β} (h : ∀ a b, lt' (f a) (f b) = lt a b) : ∀ l : List α, sortB lt' (l.map f) = (sortB lt l).map f
  | [] => rfl
  | x :: r => by
    have ins : ∀ (x : α) (l : List α), insB lt' (f x) (l.map f) = (insB lt x l).map f := by
      intro x l
      induction l with
      | nil => rfl
      | cons y r ih =>
        simp only [List.map_cons, insB, h]
        split
        · simp [ih]
        · rfl
    show insB lt' (f x) (sortB lt' (r.map f)) = (insB lt x (sortB lt r)).map f
    rw [sortB_map h r, ins]
theorem al_lk (a b : Cu) : PySem.W.alike (toPy (lkI a)) (toPy (lkI b)) = true ∧ PyData.eqv (toPy (lkI a)) (toPy (lkI b)) = decide (a = b) ∧ PySem.W.dataLt (toPy (lkI a)) (toPy (lkI b)) = lowLt a b := by
  refine ⟨?_, ?_, ?_⟩
  · rcases a with _ | a <;> rcases b with _ | b <;> simp [lkI, toPy, toPys, PySem.W.alike, PySem.W.alikeAll]
  · rcases a with _ | a <;> rcases b with _ | b <;> simp [lkI, toPy, toPys, PyData.eqv, PyData.eqvAll]
    by_cases e : a = b <;> simp [e]
  · have key : ∀ xs ys c, lexP xs ys = some c → PySem.W.dataLt (.tuple xs) (.tuple ys) = c := fun xs ys c h => (PySem.W.dataLt_tuple xs ys).trans (lexP_toks xs ys c h)
    rcases a with _ | a <;> rcases b with _ | b <;> refine key _ _ _ ?_ <;> simp [lkI, toPy, toPys, lexP, PySem.W.alike, PyData.eqv, PySem.W.dataLt_int, lowLt]
    by_cases e : a = b <;> simp [e]
theorem al_hk (a b : Cu) : PySem.W.alike (toPy (hkI a)) (toPy (hkI b)) = true ∧ PyData.eqv (toPy (hkI a)) (toPy (hkI b)) = decide (a = b) ∧ PySem.W.dataLt (toPy (hkI a)) (toPy (hkI b)) = highLt a b := by
  refine ⟨?_, ?_, ?_⟩
  · rcases a with _ | a <;> rcases b with _ | b <;> simp [hkI, toPy, toPys, PySem.W.alike, PySem.W.alikeAll]
  · rcases a with _ | a <;> rcases b with _ | b <;> simp [hkI, toPy, toPys, PyData.eqv, PyData.eqvAll]
    by_cases e : a = b <;> simp [e]
  · have key : ∀ xs ys c, lexP xs ys = some c → PySem.W.dataLt (.tuple xs) (.tuple ys) = c := fun xs ys c h => (PySem.W.dataLt_tuple xs ys).trans (lexP_toks xs ys c h)
    rcases a with _ | a <;> rcases b with _ | b <;> refine key _ _ _ ?_ <;> simp [hkI, toPy, toPys, lexP, PySem.W.alike, PyData.eqv, PySem.W.dataLt_int, highLt]
    by_cases e : a = b <;> simp [e]
theorem lexP_key (p q : Pc) : lexP (rowD (kyD p)) (rowD (kyD q)) = some (ltPc p q) := by
  obtain ⟨a, b⟩ := p
  obtain ⟨c, d⟩ := q
  obtain ⟨l1, l2, l3⟩ := al_lk a c
  obtain ⟨h1, h2, h3⟩ := al_hk b d
  show lexP [toPy (lkI a), toPy (hkI b), toPy (optI a), toPy (optI b)] [toPy (lkI c), toPy (hkI d), toPy (optI c), toPy (optI d)] = some (if a = c then highLt b d else lowLt a c)
  unfold lexP
  rw [if_pos l1, l2, l3]
  by_cases e : a = c
  · subst e
    simp only [decide_true, if_true]
    unfold lexP
    rw [if_pos h1, h2, h3]
    by_cases e2 : b = d
    · subst e2
      have hx : ∀ x : Cu, PySem.W.alike (toPy (optI x)) (toPy (optI x)) = true ∧ PyData.eqv (toPy (optI x)) (toPy (optI x)) = true := fun x => by cases x <;> simp [optI, toPy, PySem.W.alike, PyData.eqv]
      have hb : highLt b b = false := by cases b <;> simp [highLt]
      simp [lexP, hx, hb]
    · simp [e2]
  · simp [e]
theorem lt_key (p q : Pc) : ltDD (kyD p) (kyD q) = ltPc p q := lexP_toks _ _ _ (lexP_key p q)
theorem okD_key (p : Pc) : okD (kyD p) = true ∧ tupFirst (kyD p) = true := by
  obtain ⟨a, b⟩ := p
  rcases a with _ | a <;> rcases b with _ | b <;> exact ⟨rfl, rfl⟩
theorem sort_key (G : Gs) (ps : List Pc) : bifT G .sorted [.lst (ps.map kyD)] = .ret (.lst ((sortPc ps).map kyD)) := by
  show Tr.of (sorted2D [.lst (ps.map kyD)]) = _
  have e1 : ps ≠ [] → sortedD [.lst (ps.map kyD)] = none := by
    intro h
    cases ps with
    | nil => exact absurd rfl h
    | cons p r =>
      obtain ⟨a, b⟩ := p
      show (if ((p2 a b :: r.map kyD).length < 64) then _ else none) = none
      split
      · rfl
      · rfl
  have e2 : sortedTD [.lst (ps.map kyD)] = some (.lst ((sortPc ps).map kyD)) := by
    have ok : sortOk (ps.map kyD) = true := by
      unfold sortOk
      simp only [Bool.and_eq_true, List.all_eq_true]
      refine ⟨fun d hd => ?_, fun d hd e he => ?_⟩
      · obtain ⟨p, _, rfl⟩ := List.mem_map.mp hd
        exact okD_key p
      · obtain ⟨p, _, rfl⟩ := List.mem_map.mp hd
        obtain ⟨q, _, rfl⟩ := List.mem_map.mp he
        rw [lexP_key]; rfl
    show (if sortOk (ps.map kyD) then _ else _) = _
    rw [if_pos ok]
    exact congrArg (fun l => some (D.lst l)) (sortB_map lt_key ps)
  unfold sorted2D
  by_cases h : ps = []
  · subst h
    rfl
  · rw [e1 h, e2]
    rfl
where p2 (a b : Cu) : D := kyD (a, b)
end Rc

-- Pk09h
set_option Elab.async false
set_option linter.all false
set_option maxRecDepth 100000
set_option maxHeartbeats 1000000
namespace Rc
open PySem PySem.Spec PyProof.Rows L2
/-! ### normal -/
abbrev NSt := Option Pc × List Pc
def nStep : NSt → Pc → NSt
  | (none, acc), p => (some p, acc)
  | (some c, acc), p => if reached c.2 p.1 then (some (c.1, later c.2 p.2), acc) else (some p, acc ++ [c])
def nEnd : NSt → List Pc
  | (none, acc) => acc
  | (some c, acc) => acc ++ [c]
theorem n_yes {c p : Pc} {acc : List Pc} (q : reached c.2 p.1 = true) : nStep (some c, acc) p = (some (c.1, later c.2 p.2), acc) := by simp [nStep, q]
theorem n_no {c p : Pc} {acc : List Pc} (q : reached c.2 p.1 = false) : nStep (some c, acc) p = (some p, acc ++ [c]) := by simp [nStep, q]
theorem n_mrg : ∀ (l : List Pc) (c : Pc) (acc : List Pc), nEnd (l.foldl nStep (some c, acc)) = acc ++ mrg c l
  | [], c, acc => rfl
  | p :: l, c, acc => by
    rw [List.foldl_cons]
    unfold mrg
    cases q : reached c.2 p.1 with
    | true =>
      rw [n_yes q, if_pos rfl]
      exact n_mrg l _ acc
    | false =>
      rw [n_no q, if_neg (by simp), n_mrg l p (acc ++ [c]), List.append_assoc]; rfl
theorem n_mrgs (l : List Pc) : nEnd (l.foldl nStep (none, [])) = mrgs l := by
  cases l with
  | nil => rfl
  | cons p l => exact (n_mrg l p []).trans (List.nil_append _)
def bD : Option Pc → D
  | none => .non
  | some c => optI c.1
def eD : Option Pc → D
  | none => .non
  | some c => optI c.2
/-- what a row of that loop stands for -/
def NR (x0 x1 x2 : Option EV) (s : NSt) (env : Env) : Prop := ∃ g7 g8 g9 g10 : Option EV, env = [x0, x1, x2, some (.own (s.2.map pcD)), some (.dat (bD s.1)), some (.dat (eD s.1)), some (.dat (.bl s.1.isSome)), g7, g8, g9, g10]
def nBody : List IS := [.iff (.and (.val (.var 6)) (.val (.call "is_reached" [(.var 5), (.var 9)]))) [.asg (.name 5) (.call "later_cut" [(.var 5), (.var 10)])] [.iff (.val (.var 6)) [.app 3 (.tup [(.var 4), (.var 5)])] [], .par3 4 5 6 (.var 9) (.var 10) (.con (.bl true))]]
theorem n_turn (n : Nat) {x0 x1 x2 : Option EV} {s : NSt} {env : Env} (p : Pc) (hl : s.2.length < 1000000) (h : NR x0 x1 x2 s env) : ∃ e1 e2, setT (.tup [(.name 7), (.name 8), (.name 9), (.name 10)]) (kyD p) env = some e1 ∧ sss (Gn prog (n + 1)) nBody e1 = .ret (.nx e2) ∧ NR x0 x1 x2 (nStep s p) e2 ∧ (nStep s p).2.length ≤ s.2.length + 1 := by
  obtain ⟨g7, g8, g9, g10, rfl⟩ := h
  obtain ⟨c, acc⟩ := s
  have hz : (acc.map pcD).length < sizeLine := by rw [List.length_map]; exact Nat.lt_of_lt_of_le hl (by decide)
  clear hl
  have hset : setT (.tup [(.name 7), (.name 8), (.name 9), (.name 10)]) (kyD p) [x0, x1, x2, some (.own (acc.map pcD)), some (.dat (bD c)), some (.dat (eD c)), some (.dat (.bl c.isSome)), g7, g8, g9, g10] = some [x0, x1, x2, some (.own (acc.map pcD)), some (.dat (bD c)), some (.dat (eD c)), some (.dat (.bl c.isSome)), some (.dat (lkI p.1)), some (.dat (hkI p.2)), some (.dat (optI p.1)), some (.dat (optI p.2))] := rfl
  refine ⟨[x0, x1, x2, some (.own (acc.map pcD)), some (.dat (bD c)), some (.dat (eD c)), some (.dat (.bl c.isSome)), some (.dat (lkI p.1)), some (.dat (hkI p.2)), some (.dat (optI p.1)), some (.dat (optI p.2))], ?_⟩
  cases c with
  | none =>
    refine ⟨[x0, x1, x2, some (.own (acc.map pcD)), some (.dat (optI p.1)), some (.dat (optI p.2)), some (.dat (.bl true)), some (.dat (lkI p.1)), some (.dat (hkI p.2)), some (.dat (optI p.1)), some (.dat (optI p.2))], hset, ?_, ⟨some (.dat (lkI p.1)), some (.dat (hkI p.2)), some (.dat (optI p.1)), some (.dat (optI p.2)), rfl⟩, Nat.le_succ _⟩
    unfold nBody
    rw [st_if (b := false) (by simp [runT, sss, ss, em, ems, emT, emX, mVar, env0, dats, Tr.bind, Tr.of, tru_bl, endT, freeze, setT, setTs, optT, sz1, sz2, sz3, sz4, sz5, cm1, cm2, mulT, addT, eqT_str, tab_h, tab_d, n_wh_de, n_wh_wo, n_de_wh, n_de_wo, n_wo_wh, n_wo_de])]
    simp only [Bool.false_eq_true, if_false, List.cons_append, List.nil_append, List.append_nil]
    rw [st_if (b := false) (by simp [runT, sss, ss, em, ems, emT, emX, mVar, env0, dats, Tr.bind, Tr.of, tru_bl, endT, freeze, setT, setTs, optT, sz1, sz2, sz3, sz4, sz5, cm1, cm2, mulT, addT, eqT_str, tab_h, tab_d, n_wh_de, n_wh_wo, n_de_wh, n_de_wo, n_wo_wh, n_wo_de])]
    simp [runT, sss, ss, em, ems, emT, emX, mVar, env0, dats, Tr.bind, Tr.of, tru_bl, endT, freeze, setT, setTs, optT, sz1, sz2, sz3, sz4, sz5, cm1, cm2, mulT, addT, eqT_str, tab_h, tab_d, n_wh_de, n_wh_wo, n_de_wh, n_de_wo, n_wo_wh, n_wo_de]
  | some c =>
    have A := s_reached n c.2 p.1
    have B := s_later n c.2 p.2
    cases q : reached c.2 p.1 with
    | true =>
      rw [q] at A
      rw [n_yes q]
      refine ⟨[x0, x1, x2, some (.own (acc.map pcD)), some (.dat (optI c.1)), some (.dat (optI (later c.2 p.2))), some (.dat (.bl true)), some (.dat (lkI p.1)), some (.dat (hkI p.2)), some (.dat (optI p.1)), some (.dat (optI p.2))], hset, ?_, ⟨some (.dat (lkI p.1)), some (.dat (hkI p.2)), some (.dat (optI p.1)), some (.dat (optI p.2)), rfl⟩, Nat.le_succ _⟩
      unfold nBody
      rw [st_if (b := true) (by simp [runT, sss, ss, em, ems, emT, emX, mVar, env0, dats, Tr.bind, Tr.of, tru_bl, endT, freeze, setT, setTs, optT, sz1, sz2, sz3, sz4, sz5, cm1, cm2, mulT, addT, eqT_str, tab_h, tab_d, n_wh_de, n_wh_wo, n_de_wh, n_de_wo, n_wo_wh, n_wo_de, A, bD, eD])]
      simp only [if_true, List.cons_append, List.nil_append]
      rw [st_asg (d := optI (later c.2 p.2)) (by simp [runT, sss, ss, em, ems, emT, emX, mVar, env0, dats, Tr.bind, Tr.of, tru_bl, endT, freeze, setT, setTs, optT, sz1, sz2, sz3, sz4, sz5, cm1, cm2, mulT, addT, eqT_str, tab_h, tab_d, n_wh_de, n_wh_wo, n_de_wh, n_de_wo, n_wo_wh, n_wo_de, B, bD, eD])]
      rfl
    | false =>
      rw [q] at A
      rw [n_no q]
      refine ⟨[x0, x1, x2, some (.own (acc.map pcD ++ [pcD c])), some (.dat (optI p.1)), some (.dat (optI p.2)), some (.dat (.bl true)), some (.dat (lkI p.1)), some (.dat (hkI p.2)), some (.dat (optI p.1)), some (.dat (optI p.2))], hset, ?_, ⟨some (.dat (lkI p.1)), some (.dat (hkI p.2)), some (.dat (optI p.1)), some (.dat (optI p.2)), by simp [bD, eD]⟩, by simp⟩
      unfold nBody
      rw [st_if (b := false) (by simp [runT, sss, ss, em, ems, emT, emX, mVar, env0, dats, Tr.bind, Tr.of, tru_bl, endT, freeze, setT, setTs, optT, sz1, sz2, sz3, sz4, sz5, cm1, cm2, mulT, addT, eqT_str, tab_h, tab_d, n_wh_de, n_wh_wo, n_de_wh, n_de_wo, n_wo_wh, n_wo_de, A, bD, eD])]
      simp only [Bool.false_eq_true, if_false, List.cons_append, List.nil_append, List.append_nil]
      rw [st_if (b := true) (by simp [runT, sss, ss, em, ems, emT, emX, mVar, env0, dats, Tr.bind, Tr.of, tru_bl, endT, freeze, setT, setTs, optT, sz1, sz2, sz3, sz4, sz5, cm1, cm2, mulT, addT, eqT_str, tab_h, tab_d, n_wh_de, n_wh_wo, n_de_wh, n_de_wo, n_wo_wh, n_wo_de])]
      simp only [if_true, List.cons_append, List.nil_append]
      rw [st_app (d := pcD c) (ds := acc.map pcD) (by simp [runT, sss, ss, em, ems, emT, emX, mVar, env0, dats, Tr.bind, Tr.of, tru_bl, endT, freeze, setT, setTs, optT, sz1, sz2, sz3, sz4, sz5, cm1, cm2, mulT, addT, eqT_str, tab_h, tab_d, n_wh_de, n_wh_wo, n_de_wh, n_de_wo, n_wo_wh, n_wo_de, pcD, bD, eD]) rfl hz]
      simp [runT, sss, ss, em, ems, emT, emX, mVar, env0, dats, Tr.bind, Tr.of, tru_bl, endT, freeze, setT, setTs, optT, sz1, sz2, sz3, sz4, sz5, cm1, cm2, mulT, addT, eqT_str, tab_h, tab_d, n_wh_de, n_wh_wo, n_de_wh, n_de_wo, n_wo_wh, n_wo_de]
theorem s_normal (n : Nat) (ps : List Pc) (hl : ps.length ≤ 1000) : callT ((Gn prog (n + 2)).fn "normal") [.lst (ps.map pcD)] = .ret (pcsD (normalI ps)) := by
  rw [lk_fn_normal, callE rfl rfl]
  refine run_of ?_
  show sss (Gn prog (n + 1)) ir_fn_normal.ir [some (.dat (.lst (ps.map pcD))), none, none, none, none, none, none, none, none, none, none] = _
  unfold ir_fn_normal
  have hz : (ps.map pcD).length ≤ sizeLine := by rw [List.length_map]; exact Nat.le_trans hl (by decide)
  have hf : (ps.filter fullP).length ≤ 1000 := Nat.le_trans (List.length_filter_le _ _) hl
  have hz2 : ((ps.filter fullP).map pcD).length ≤ sizeLine := by rw [List.length_map]; exact Nat.le_trans hf (by decide)
  rw [st_ownC (ds := ps.map pcD) (q := (ps.filter fullP).map pcD) (by simp [runT, sss, ss, em, ems, emT, emX, mVar, env0, dats, Tr.bind, Tr.of, tru_bl, endT, freeze, setT, setTs, optT, sz1, sz2, sz3, sz4, sz5, cm1, cm2, mulT, addT, eqT_str, tab_h, tab_d, n_wh_de, n_wh_wo, n_de_wh, n_de_wo, n_wo_wh, n_wo_de, emI, itemsT, itemsD]) hz (by
    refine lc_filter fun p _ => ⟨[some (.dat (.lst (ps.map pcD))), none, none, none, none, none, none, none, none, some (.dat (optI p.1)), some (.dat (optI p.2))], rfl, ?_, ?_⟩
    · obtain ⟨a, b⟩ := p
      rcases a with _ | a <;> rcases b with _ | b <;> simp [runT, sss, ss, em, ems, emT, emX, mVar, env0, dats, Tr.bind, Tr.of, tru_bl, endT, freeze, setT, setTs, optT, sz1, sz2, sz3, sz4, sz5, cm1, cm2, mulT, addT, eqT_str, tab_h, tab_d, n_wh_de, n_wh_wo, n_de_wh, n_de_wo, n_wo_wh, n_wo_de, emC, optI, isN, fullP, ltI_, show ∀ (G : Gs) (x : Int), cmpT G .Is (.int x) .non = .ret (.bl false) from fun _ _ => rfl]
    · exact tup2 rfl rfl)]
  rw [st_frz (ds := (ps.filter fullP).map pcD) rfl]
  have S := sort_key (Gn prog (n + 1)) (ps.filter fullP)
  have L : em (Gn prog (n + 1)) (.lc (.tup [(.name 9), (.name 10)]) [("low", 9), ("high", 10)] (.items (.var 1)) .no (.tup [(.call "low_key" [(.var 9)]), (.call "high_key" [(.var 10)]), (.var 9), (.var 10)])) [some (.dat (.lst (ps.map pcD))), some (.dat (.lst ((ps.filter fullP).map pcD))), none, none, none, none, none, none, none, none, none] = .ret (.lst ((ps.filter fullP).map kyD)) := by
    refine em_lcE (ds := (ps.filter fullP).map pcD) (by simp [runT, sss, ss, em, ems, emT, emX, mVar, env0, dats, Tr.bind, Tr.of, tru_bl, endT, freeze, setT, setTs, optT, sz1, sz2, sz3, sz4, sz5, cm1, cm2, mulT, addT, eqT_str, tab_h, tab_d, n_wh_de, n_wh_wo, n_de_wh, n_de_wo, n_wo_wh, n_wo_de, emI, itemsT, itemsD]) hz2 ?_
    refine lc_map fun p _ => ⟨[some (.dat (.lst (ps.map pcD))), some (.dat (.lst ((ps.filter fullP).map pcD))), none, none, none, none, none, none, none, some (.dat (optI p.1)), some (.dat (optI p.2))], rfl, rfl, ?_⟩
    have A := s_lowk n p.1
    have B := s_highk n p.2
    simp [runT, sss, ss, em, ems, emT, emX, mVar, env0, dats, Tr.bind, Tr.of, tru_bl, endT, freeze, setT, setTs, optT, sz1, sz2, sz3, sz4, sz5, cm1, cm2, mulT, addT, eqT_str, tab_h, tab_d, n_wh_de, n_wh_wo, n_de_wh, n_de_wo, n_wo_wh, n_wo_de, A, B, kyD]
  rw [st_asg (d := .lst ((sortPc (ps.filter fullP)).map kyD)) (by exact (em_bi L).trans S)]
  rw [st_own0]
  rw [st_asgT (d := .tup [.non, .non, .bl false]) (by simp [runT, sss, ss, em, ems, emT, emX, mVar, env0, dats, Tr.bind, Tr.of, tru_bl, endT, freeze, setT, setTs, optT, sz1, sz2, sz3, sz4, sz5, cm1, cm2, mulT, addT, eqT_str, tab_h, tab_d, n_wh_de, n_wh_wo, n_de_wh, n_de_wo, n_wo_wh, n_wo_de]) rfl]
  have hs : (sortPc (ps.filter fullP)).length ≤ 1000 := by rw [(sort_ok (ps.filter fullP)).1.length_eq]; exact hf
  generalize hr : sortPc (ps.filter fullP) = rs at hs
  have nn : normalI ps = nEnd (rs.foldl nStep (none, [])) := by rw [n_mrgs, ← hr]; rfl
  rw [nn]
  obtain ⟨env', h1, h2, h3⟩ := loop_map (tg := .tup [(.name 7), (.name 8), (.name 9), (.name 10)]) (body := sss (Gn prog (n + 1)) nBody) (f := kyD)
    (fun i (s : NSt) env => NR (some (.dat (.lst (ps.map pcD)))) (some (.dat (.lst ((ps.filter fullP).map pcD)))) (some (.dat (.lst (rs.map kyD)))) s env ∧ s.2.length ≤ i) nStep rs 0 (by
      rintro j s a env hj _ ⟨h1, h2⟩
      obtain ⟨e1, e2, q1, q2, q3, q4⟩ := n_turn n a (by omega) h1
      exact ⟨e1, e2, q1, q2, q3, by omega⟩) (none, []) [some (.dat (.lst (ps.map pcD))), some (.dat (.lst ((ps.filter fullP).map pcD))), some (.dat (.lst (rs.map kyD))), some (.own []), some (.dat .non), some (.dat .non), some (.dat (.bl false)), none, none, none, none] ⟨⟨none, none, none, none, rfl⟩, Nat.le_refl _⟩
  rw [st_for (ds := rs.map kyD) (e := env') (by simp [runT, sss, ss, em, ems, emT, emX, mVar, env0, dats, Tr.bind, Tr.of, tru_bl, endT, freeze, setT, setTs, optT, sz1, sz2, sz3, sz4, sz5, cm1, cm2, mulT, addT, eqT_str, tab_h, tab_d, n_wh_de, n_wh_wo, n_de_wh, n_de_wo, n_wo_wh, n_wo_de, emI, itemsT, itemsD]) (by exact h1)]
  clear h1
  obtain ⟨g7, g8, g9, g10, rfl⟩ := h2
  generalize rs.foldl nStep (none, []) = st at h3 ⊢
  obtain ⟨c, acc⟩ := st
  have hz3 : (acc.map pcD).length < sizeLine := by
    rw [List.length_map]
    have : acc.length ≤ 0 + rs.length := h3
    exact Nat.lt_of_le_of_lt (Nat.le_trans this (by omega)) (show 1000 < sizeLine by decide)
  cases c with
  | none =>
    rw [st_if (b := false) (by simp [runT, sss, ss, em, ems, emT, emX, mVar, env0, dats, Tr.bind, Tr.of, tru_bl, endT, freeze, setT, setTs, optT, sz1, sz2, sz3, sz4, sz5, cm1, cm2, mulT, addT, eqT_str, tab_h, tab_d, n_wh_de, n_wh_wo, n_de_wh, n_de_wo, n_wo_wh, n_wo_de])]
    simp only [Bool.false_eq_true, if_false, List.nil_append]
    refine st_ret ?_
    simp [runT, sss, ss, em, ems, emT, emX, mVar, env0, dats, Tr.bind, Tr.of, tru_bl, endT, freeze, setT, setTs, optT, sz1, sz2, sz3, sz4, sz5, cm1, cm2, mulT, addT, eqT_str, tab_h, tab_d, n_wh_de, n_wh_wo, n_de_wh, n_de_wo, n_wo_wh, n_wo_de, bifT, tupleD, nEnd, pcsD]
  | some c =>
    rw [st_if (b := true) (by simp [runT, sss, ss, em, ems, emT, emX, mVar, env0, dats, Tr.bind, Tr.of, tru_bl, endT, freeze, setT, setTs, optT, sz1, sz2, sz3, sz4, sz5, cm1, cm2, mulT, addT, eqT_str, tab_h, tab_d, n_wh_de, n_wh_wo, n_de_wh, n_de_wo, n_wo_wh, n_wo_de])]
    simp only [if_true, List.cons_append, List.nil_append]
    rw [st_app (d := pcD c) (ds := acc.map pcD) (by simp [runT, sss, ss, em, ems, emT, emX, mVar, env0, dats, Tr.bind, Tr.of, tru_bl, endT, freeze, setT, setTs, optT, sz1, sz2, sz3, sz4, sz5, cm1, cm2, mulT, addT, eqT_str, tab_h, tab_d, n_wh_de, n_wh_wo, n_de_wh, n_de_wo, n_wo_wh, n_wo_de, pcD, bD, eD]) rfl hz3]
    refine st_ret ?_
    simp [runT, sss, ss, em, ems, emT, emX, mVar, env0, dats, Tr.bind, Tr.of, tru_bl, endT, freeze, setT, setTs, optT, sz1, sz2, sz3, sz4, sz5, cm1, cm2, mulT, addT, eqT_str, tab_h, tab_d, n_wh_de, n_wh_wo, n_de_wh, n_de_wo, n_wo_wh, n_wo_de, bifT, tupleD, nEnd, pcsD]
end Rc

-- Pk09i
set_option Elab.async false
set_option linter.all false
set_option maxRecDepth 100000
set_option maxHeartbeats 1000000
namespace Rc
open PySem PySem.Spec PyProof.Rows L2
/-! ### ranges and sets of whole and dense -/
def toP (c : Cu) : Option Pt := c.map .i
def toC (p : Pc) : Option Pt × Option Pt := (toP p.1, toP p.2)
theorem optD_toP (c : Cu) : optD (toP c) = optI c := by cases c <;> rfl
def rangeI (l : Ln) (c : Option Pc) : D := rangeD l (c.map toC)
def Num (l : Ln) : Prop := l = .whole ∨ l = .dense
theorem okO_toP {l : Ln} (h : Num l) (c : Cu) : okO 0 l (toP c) := by
  rcases h with rfl | rfl <;> cases c <;> trivial
theorem cutsD_toC (p : Pc) : cutsD (some (toC p)) = pcD p := by
  show D.tup [optD (toP p.1), optD (toP p.2)] = _
  rw [optD_toP, optD_toP]; rfl
/-- an end and whether the cut is behind it -/
def enI (l : Ln) (x : Int) : Int × Bool := match l with
  | .dense => (x / 2, decide (x % 2 = 1))
  | _ => (x, false)
theorem s_end_i (n : Nat) {l : Ln} (h : Num l) (x : Int) : callT ((Gn prog (n + 1)).fn "end_of") [l.d, .int x] = .ret (.tup [.int (enI l x).1, .bl (enI l x).2]) := by
  have A := s_end_of n (m := 0) l (.i x) (by rcases h with rfl | rfl <;> trivial)
  rcases h with rfl | rfl <;> exact A
def loI (l : Ln) (c : Cu) : Cu := c.map fun x => (enI l x).1
def beI (l : Ln) : Cu → Bool
  | none => false
  | some x => (enI l x).2
theorem toP_lo (l : Ln) (c : Cu) : toP (loI l c) = (toP c).map fun p => match p with | .i x => .i (enI l x).1 | p => p := by
  cases c <;> rfl
theorem first_i {l : Ln} (h : Num l) (c : Cu) (f : Bool) : firstS l (toP (loI l c)) (brOf (!beI l c) f) = toP c := by
  cases c with
  | none => rfl
  | some x =>
    show (if (brOf (!(enI l x).2) f).lo then aheadS l (.i (enI l x).1) else some (behindS l (.i (enI l x).1))) = some (.i x)
    rcases h with rfl | rfl
    · cases f <;> simp [enI, brOf, Br.lo, aheadS]
    · by_cases e : x % 2 = 1
      · have k : x / 2 * 2 + 1 = x := by omega
        cases f <;> simp [enI, brOf, Br.lo, behindS, e, k]
      · have k : x / 2 * 2 = x := by omega
        cases f <;> simp [enI, brOf, Br.lo, aheadS, e, k]
theorem last_i {l : Ln} (h : Num l) (x : Int) (s : Bool) : lastS l (.i (enI l x).1) (brOf s (enI l x).2) = some (.i x) := by
  show (if (brOf s (enI l x).2).hi then some (behindS l (.i (enI l x).1)) else aheadS l (.i (enI l x).1)) = some (.i x)
  rcases h with rfl | rfl
  · cases s <;> simp [enI, brOf, Br.hi, aheadS]
  · by_cases e : x % 2 = 1
    · have k : x / 2 * 2 + 1 = x := by omega
      cases s <;> simp [enI, brOf, Br.hi, behindS, e, k]
    · have k : x / 2 * 2 = x := by omega
      cases s <;> simp [enI, brOf, Br.hi, aheadS, e, k]
theorem cuts_i {l : Ln} (h : Num l) {p : Pc} (hf : fullP p = true) : cutsS l (toP (loI l p.1)) (toP (loI l p.2)) (brOf (!beI l p.1) (beI l p.2)) = some (toC p) := by
  obtain ⟨a, b⟩ := p
  have f := first_i h a (beI l b)
  cases b with
  | none =>
    show some (firstS l (toP (loI l a)) (brOf (!beI l a) (beI l none)), none) = _
    rw [f]; rfl
  | some y =>
    have g := last_i h y (!beI l a)
    show cutsS l (toP (loI l a)) (some (.i (enI l y).1)) (brOf (!beI l a) (enI l y).2) = _
    unfold cutsS
    dsimp only
    rw [g, show firstS l (toP (loI l a)) (brOf (!beI l a) (enI l y).2) = toP a from f]
    cases a with
    | none => rfl
    | some x =>
      have : x < y := by simpa [fullP] using hf
      have e : geP (.i x) (.i y) = false := by simp [geP]; omega
      show (if geP (.i x) (.i y) then none else some (some (Pt.i x), some (Pt.i y))) = _
      rw [e]; rfl
theorem turn_i {l : Ln} (h : Num l) {p : Pc} (hf : fullP p = true) : notTurned (toP (loI l p.1)) (toP (loI l p.2)) := by
  obtain ⟨a, b⟩ := p
  intro u v e1 e2
  cases a with
  | none => cases e1
  | some x =>
    cases b with
    | none => cases e2
    | some y =>
      cases e1; cases e2
      have : x < y := by simpa [fullP] using hf
      rcases h with rfl | rfl
      · show decide (y < x) = false
        exact decide_eq_false (by omega)
      · show decide (y / 2 < x / 2) = false
        exact decide_eq_false (by omega)
theorem fs_br2 (G : Gs) (x0 x1 x2 x4 : Option EV) (s f : Bool) : em G (.fs [.val (.ite (.val (.var 3)) (.con (.str "(")) (.con (.str "["))), .val (.ite (.val (.var 5)) (.con (.str "]")) (.con (.str ")")))]) [x0, x1, x2, some (.dat (.bl s)), x4, some (.dat (.bl f))] = .ret (brOf (!s) f).d := by
  cases s <;> cases f <;> kernel_rfl
theorem ems4 {G : Gs} {env : Env} {a b c d : IE} {x y z w : D} (h1 : em G a env = .ret x) (h2 : em G b env = .ret y) (h3 : em G c env = .ret z) (h4 : em G d env = .ret w) : ems G [a, b, c, d] env = .ret [x, y, z, w] := by
  simp only [ems, h1, h2, h3, h4, Tr.bind]
theorem em_mk {G : Gs} {env : Env} {c : Str} {as : List IE} {ds : List D} (h : ems G as env = .ret ds) : em G (.mk c as) env = mkT c (G.mak c) ds := by
  rw [em]
  simp only [h, Tr.bind]
section
variable (n : Nat)
theorem s_range_of {l : Ln} (h : Num l) {p : Pc} (hf : fullP p = true) : callT ((Gn prog (n + 5)).fn "range_of") [l.d, pcD p] = .ret (rangeI l (some p)) := by
  rw [lk_fn_range_of, callE rfl rfl]
  refine run_of ?_
  show sss (Gn prog (n + 4)) ir_fn_range_of.ir [some (.dat l.d), some (.dat (pcD p)), none, none, none, none] = _
  unfold ir_fn_range_of
  rw [st_no (by simp [runT, sss, ss, em, ems, emT, emX, mVar, env0, dats, Tr.bind, Tr.of, tru_bl, endT, freeze, setT, setTs, optT, sz1, sz2, sz3, sz4, sz5, cm1, cm2, mulT, addT, eqT_str, tab_h, tab_d, n_wh_de, n_wh_wo, n_de_wh, n_de_wo, n_wo_wh, n_wo_de, pcD, isTup])]
  have E : ∀ x, callT ((Gn prog (n + 4)).fn "end_of") [l.d, .int x] = .ret (.tup [.int (enI l x).1, .bl (enI l x).2]) := fun x => s_end_i (n + 3) h x
  have e1 : em (Gn prog (n + 4)) (.ite (.cmp .Is (.ix (.var 1) (.con (.int (0)))) (.con (.non))) (.tup [(.con (.non)), (.con (.bl false))]) (.call "end_of" [(.var 0), (.ix (.var 1) (.con (.int (0))))])) [some (.dat l.d), some (.dat (pcD p)), none, none, none, none] = .ret (.tup [optI (loI l p.1), .bl (beI l p.1)]) := by
    obtain ⟨a, b⟩ := p
    cases a with
    | none => simp [runT, sss, ss, em, ems, emT, emX, mVar, env0, dats, Tr.bind, Tr.of, tru_bl, endT, freeze, setT, setTs, optT, sz1, sz2, sz3, sz4, sz5, cm1, cm2, mulT, addT, eqT_str, tab_h, tab_d, n_wh_de, n_wh_wo, n_de_wh, n_de_wo, n_wo_wh, n_wo_de, pcD, ix0, optI, isN, loI, beI]
    | some x => simp [runT, sss, ss, em, ems, emT, emX, mVar, env0, dats, Tr.bind, Tr.of, tru_bl, endT, freeze, setT, setTs, optT, sz1, sz2, sz3, sz4, sz5, cm1, cm2, mulT, addT, eqT_str, tab_h, tab_d, n_wh_de, n_wh_wo, n_de_wh, n_de_wo, n_wo_wh, n_wo_de, pcD, ix0, optI, loI, beI, E, show ∀ (G : Gs) (x : Int), cmpT G .Is (.int x) .non = .ret (.bl false) from fun _ _ => rfl]
  rw [st_asg2 (by exact e1)]
  have e2 : em (Gn prog (n + 4)) (.ite (.cmp .Is (.ix (.var 1) (.con (.int (1)))) (.con (.non))) (.tup [(.con (.non)), (.con (.bl false))]) (.call "end_of" [(.var 0), (.ix (.var 1) (.con (.int (1))))])) [some (.dat l.d), some (.dat (pcD p)), some (.dat (optI (loI l p.1))), some (.dat (.bl (beI l p.1))), none, none] = .ret (.tup [optI (loI l p.2), .bl (beI l p.2)]) := by
    obtain ⟨a, b⟩ := p
    cases b with
    | none => simp [runT, sss, ss, em, ems, emT, emX, mVar, env0, dats, Tr.bind, Tr.of, tru_bl, endT, freeze, setT, setTs, optT, sz1, sz2, sz3, sz4, sz5, cm1, cm2, mulT, addT, eqT_str, tab_h, tab_d, n_wh_de, n_wh_wo, n_de_wh, n_de_wo, n_wo_wh, n_wo_de, pcD, ix1, optI, isN, loI, beI]
    | some x => simp [runT, sss, ss, em, ems, emT, emX, mVar, env0, dats, Tr.bind, Tr.of, tru_bl, endT, freeze, setT, setTs, optT, sz1, sz2, sz3, sz4, sz5, cm1, cm2, mulT, addT, eqT_str, tab_h, tab_d, n_wh_de, n_wh_wo, n_de_wh, n_de_wo, n_wo_wh, n_wo_de, pcD, ix1, optI, loI, beI, E, show ∀ (G : Gs) (x : Int), cmpT G .Is (.int x) .non = .ret (.bl false) from fun _ _ => rfl]
  rw [st_asg2 (by exact e2)]
  refine st_ret ?_
  have F := fs_br2 (Gn prog (n + 4)) (some (.dat l.d)) (some (.dat (pcD p))) (some (.dat (optI (loI l p.1)))) (some (.dat (optI (loI l p.2)))) (beI l p.1) (beI l p.2)
  have M := s_mk4 n (m := 0) (by decide) l (toP (loI l p.1)) (toP (loI l p.2)) (brOf (!beI l p.1) (beI l p.2)) (okO_toP h _) (okO_toP h _) (turn_i h hf)
  rw [cuts_i h hf, optD_toP, optD_toP] at M
  have M' : mkT (Str.ofString "Range") ((Gn prog (n + 4)).mak (Str.ofString "Range")) [l.d, optI (loI l p.1), optI (loI l p.2), (brOf (!beI l p.1) (beI l p.2)).d] = .ret (rangeI l (some p)) := M
  clear e1 e2 M E
  show em (Gn prog (n + 4)) _ [some (.dat l.d), some (.dat (pcD p)), some (.dat (optI (loI l p.1))), some (.dat (.bl (beI l p.1))), some (.dat (optI (loI l p.2))), some (.dat (.bl (beI l p.2)))] = _
  generalize optI (loI l p.1) = w1 at *
  generalize optI (loI l p.2) = w2 at *
  generalize beI l p.1 = w3 at *
  generalize beI l p.2 = w4 at *
  exact (em_mk (ems4 (x := l.d) (y := w1) (z := w2) rfl rfl rfl F)).trans M'
theorem s_range_no {l : Ln} (h : Num l) : callT ((Gn prog (n + 5)).fn "range_of") [l.d, .non] = .ret (rangeI l none) := by
  rcases h with rfl | rfl <;> cases n <;> kernel_rfl
theorem ne_nil (G : Gs) (p : Pc) : cmpT G .NotEq (.tup [pcD p]) (.tup []) = .ret (.bl true) := by
  obtain ⟨a, b⟩ := p
  rcases a with _ | a <;> rcases b with _ | b <;> kernel_rfl
theorem s_one {l : Ln} (h : Num l) (c : Option Pc) (hf : ∀ p, c = some p → fullP p = true) : callT ((Gn prog (n + 6)).fn "one_range") [l.d, pcsD c.toList] = .ret (rangeI l c) := by
  rw [lk_fn_one_range, callE rfl rfl]
  refine run_ret ?_
  unfold ir_fn_one_range
  cases c with
  | none =>
    have A := s_range_no n h
    have z : cmpT (Gn prog (n + 5)) .NotEq (.tup []) (.tup []) = .ret (.bl false) := by kernel_rfl
    simp [runT, sss, ss, em, ems, emT, emX, mVar, env0, dats, Tr.bind, Tr.of, tru_bl, endT, freeze, setT, setTs, optT, sz1, sz2, sz3, sz4, sz5, cm1, cm2, mulT, addT, eqT_str, tab_h, tab_d, n_wh_de, n_wh_wo, n_de_wh, n_de_wo, n_wo_wh, n_wo_de, pcsD, z, A]
  | some p =>
    have A := s_range_of n h (hf p rfl)
    simp [runT, sss, ss, em, ems, emT, emX, mVar, env0, dats, Tr.bind, Tr.of, tru_bl, endT, freeze, setT, setTs, optT, sz1, sz2, sz3, sz4, sz5, cm1, cm2, mulT, addT, eqT_str, tab_h, tab_d, n_wh_de, n_wh_wo, n_de_wh, n_de_wo, n_wo_wh, n_wo_de, pcsD, ne_nil, ixT0, A]
end
end Rc

-- Pk09j
set_option Elab.async false
set_option linter.all false
set_option maxRecDepth 100000
set_option maxHeartbeats 1000000
namespace Rc
open PySem PySem.Spec PyProof.Rows L2
def rowsD (l : Ln) (ps : List Pc) : D := .tup (ps.map fun p => rangeI l (some p))
def setF (l : Ln) (ps : List Pc) : List (Str × D) := [("own_line", l.d), ("own_pieces", pcsD ps), ("own_points", .tup [l.d, pcsD ps]), ("own_rows", rowsD l ps)]
def setD (l : Ln) (ps : List Pc) : D := .obj "RangeSet" (setF l ps)
theorem pieces_toC (c : Option Pc) : piecesD (c.map toC) = pcsD c.toList := by
  cases c with
  | none => rfl
  | some p =>
    show D.tup [cutsD (some (toC p))] = _
    rw [cutsD_toC]; rfl
theorem st_fld {G : Gs} {env : Env} {a : IE} {r : List IS} {i : Nat} {c f : Str} {fs : List (Str × D)} {d : D} (h : em G a env = .ret d) (hs : env[i]? = some (some (.slf c fs))) (hl : fs.length < 1000) : sss G (.fld c i f a :: r) env = sss G r (env.set i (some (.slf c (putD f d fs)))) := by
  simp only [sss, ss, h, Tr.bind, fldT, hs, hl, and_self, if_true]
theorem putS1 (a : D) : putD (Str.ofString "own_line") a [] = [(Str.ofString "own_line", a)] := rfl
theorem putS2 (a b : D) : putD (Str.ofString "own_pieces") b [(Str.ofString "own_line", a)] = [(Str.ofString "own_line", a), (Str.ofString "own_pieces", b)] := by kernel_rfl
theorem putS3 (a b c : D) : putD (Str.ofString "own_points") c [(Str.ofString "own_line", a), (Str.ofString "own_pieces", b)] = [(Str.ofString "own_line", a), (Str.ofString "own_pieces", b), (Str.ofString "own_points", c)] := by kernel_rfl
theorem putS4 (a b c d : D) : putD (Str.ofString "own_rows") d [(Str.ofString "own_line", a), (Str.ofString "own_pieces", b), (Str.ofString "own_points", c)] = [(Str.ofString "own_line", a), (Str.ofString "own_pieces", b), (Str.ofString "own_points", c), (Str.ofString "own_rows", d)] := by kernel_rfl
theorem lookS2 (a b : D) : List.lookup (Str.ofString "own_pieces") [(Str.ofString "own_line", a), (Str.ofString "own_pieces", b)] = some b := by kernel_rfl
theorem lookS3 (a b c : D) : List.lookup (Str.ofString "own_pieces") [(Str.ofString "own_line", a), (Str.ofString "own_pieces", b), (Str.ofString "own_points", c)] = some b := by kernel_rfl
theorem ne_line (G : Gs) (l : Ln) : cmpT G .NotEq l.d l.d = .ret (.bl false) := by cases l <;> kernel_rfl
theorem isi_tup (ds : List D) : isiD p_known [.tup ds, .ty "tuple"] = some (.bl true) := by kernel_rfl
section
variable (n : Nat)
theorem s_is_value_r (l : Ln) (c : Cuts) : callT ((Gn prog (n + 1)).fn "is_value") [rangeD l c] = .ret (.bl true) := by
  rw [lk_fn_is_value, callE rfl rfl]
  refine run_ret ?_
  unfold ir_fn_is_value
  have kN := kn n
  simp [runT, sss, ss, em, ems, emT, emX, mVar, env0, dats, Tr.bind, Tr.of, tru_bl, endT, freeze, setT, setTs, optT, sz1, sz2, sz3, sz4, sz5, cm1, cm2, mulT, addT, eqT_str, tab_h, tab_d, n_wh_de, n_wh_wo, n_de_wh, n_de_wo, n_wo_wh, n_wo_de, gl_Range, kN, rangeD, isi_r]
theorem s_part (l : Ln) (c : Option Pc) : callT ((Gn prog (n + 2)).fn "part_pieces") [l.d, rangeI l c] = .ret (pcsD c.toList) := by
  rw [lk_fn_part_pieces, callE rfl rfl]
  refine run_of ?_
  unfold ir_fn_part_pieces
  have A := s_is_value_r n l (c.map toC)
  have B := attL (n + 1) l (c.map toC)
  have C := s_pieces_in n l (c.map toC)
  rw [pieces_toC] at C
  show sss (Gn prog (n + 1)) _ [some (.dat l.d), some (.dat (rangeI l c))] = _
  unfold rangeI
  rw [st_if (b := true) (by simp [runT, sss, ss, em, ems, emT, emX, mVar, env0, dats, Tr.bind, Tr.of, tru_bl, endT, freeze, setT, setTs, optT, sz1, sz2, sz3, sz4, sz5, cm1, cm2, mulT, addT, eqT_str, tab_h, tab_d, n_wh_de, n_wh_wo, n_de_wh, n_de_wo, n_wo_wh, n_wo_de, A])]
  simp only [if_true, List.cons_append, List.nil_append]
  rw [st_no (by simp [runT, sss, ss, em, ems, emT, emX, mVar, env0, dats, Tr.bind, Tr.of, tru_bl, endT, freeze, setT, setTs, optT, sz1, sz2, sz3, sz4, sz5, cm1, cm2, mulT, addT, eqT_str, tab_h, tab_d, n_wh_de, n_wh_wo, n_de_wh, n_de_wo, n_wo_wh, n_wo_de, B, ne_line])]
  exact st_ret (by simp [runT, sss, ss, em, ems, emT, emX, mVar, env0, dats, Tr.bind, Tr.of, tru_bl, endT, freeze, setT, setTs, optT, sz1, sz2, sz3, sz4, sz5, cm1, cm2, mulT, addT, eqT_str, tab_h, tab_d, n_wh_de, n_wh_wo, n_de_wh, n_de_wo, n_wo_wh, n_wo_de, C])
theorem mrg_len : ∀ (l : List Pc) (c : Pc), (mrg c l).length ≤ l.length + 1
  | [], c => Nat.le_refl _
  | p :: l, c => by
    unfold mrg
    split
    · exact Nat.le_trans (mrg_len l _) (by simp)
    · have := mrg_len l p
      simp only [List.length_cons]
      omega
theorem mrgs_len (l : List Pc) : (mrgs l).length ≤ l.length := by
  cases l with
  | nil => exact Nat.le_refl _
  | cons p r => exact mrg_len r p
def flat (cs : List (Option Pc)) : List Pc := cs.flatMap Option.toList
theorem flat_len : ∀ cs : List (Option Pc), (flat cs).length ≤ cs.length
  | [] => Nat.le_refl _
  | c :: cs => by
    have ih := flat_len cs
    have e : flat (c :: cs) = c.toList ++ flat cs := rfl
    rw [e, List.length_append, List.length_cons]
    cases c <;> simp <;> omega
theorem flat_some : ∀ ps : List Pc, flat (ps.map some) = ps
  | [] => rfl
  | p :: r => by
    show p :: flat (r.map some) = _
    rw [flat_some r]
theorem fold_flat : ∀ (cs : List (Option Pc)) (acc : List Pc), cs.foldl (fun a c => a ++ c.toList) acc = acc ++ flat cs
  | [], acc => by simp [flat]
  | c :: cs, acc => by
    rw [List.foldl_cons, fold_flat cs]
    simp [flat]
theorem s_initS {l : Ln} (h : Num l) (cs : List (Option Pc)) (hl : cs.length ≤ 1000) : runTI (Gn prog (n + 5)) ir_mak_RangeSet.m "RangeSet" ir_mak_RangeSet.ir [l.d, .tup (cs.map (rangeI l))] = .ret (setF l (normalI (flat cs))) := by
  have A : callT ((Gn prog (n + 5)).fn "check_line") [l.d] = .ret .non := s_check_line (n + 3) l
  have P : ∀ c, callT ((Gn prog (n + 5)).fn "part_pieces") [l.d, rangeI l c] = .ret (pcsD c.toList) := fun c => s_part (n + 3) l c
  have hf : (flat cs).length ≤ 1000 := Nat.le_trans (flat_len cs) hl
  have N : callT ((Gn prog (n + 5)).fn "normal") [.lst ((flat cs).map pcD)] = .ret (pcsD (normalI (flat cs))) := s_normal (n + 3) (flat cs) hf
  have kN := kn (n + 5)
  have key : ∃ e, sss (Gn prog (n + 5)) ir_mak_RangeSet.ir [some (.slf "RangeSet" []), some (.dat l.d), some (.dat (.tup (cs.map (rangeI l)))), none, none, none] = .ret (.nx (some (.slf "RangeSet" (setF l (normalI (flat cs)))) :: e)) := by
    unfold ir_mak_RangeSet
    rw [st_ex (d := .non) (by simp [runT, sss, ss, em, ems, emT, emX, mVar, env0, dats, Tr.bind, Tr.of, tru_bl, endT, freeze, setT, setTs, optT, sz1, sz2, sz3, sz4, sz5, cm1, cm2, mulT, addT, eqT_str, tab_h, tab_d, n_wh_de, n_wh_wo, n_de_wh, n_de_wo, n_wo_wh, n_wo_de, A]), st_no (by simp [runT, sss, ss, em, ems, emT, emX, mVar, env0, dats, Tr.bind, Tr.of, tru_bl, endT, freeze, setT, setTs, optT, sz1, sz2, sz3, sz4, sz5, cm1, cm2, mulT, addT, eqT_str, tab_h, tab_d, n_wh_de, n_wh_wo, n_de_wh, n_de_wo, n_wo_wh, n_wo_de, gl_tuple, kN, isi_tup]), st_own0]
    obtain ⟨env', h1, ⟨g, h2⟩, _⟩ := loop_map (tg := .name 4) (body := sss (Gn prog (n + 5)) [.ext 3 (.call "part_pieces" [(.var 1), (.var 4)])]) (f := rangeI l)
      (fun i (s : List Pc) env => (∃ g : Option EV, env = [some (.slf "RangeSet" []), some (.dat l.d), some (.dat (.tup (cs.map (rangeI l)))), some (.own (s.map pcD)), g, none]) ∧ s.length ≤ i) (fun a c => a ++ c.toList) cs 0 (by
        rintro j s c env hj _ ⟨⟨g, rfl⟩, h2⟩
        have hz : (s.map pcD).length + (c.toList.map pcD).length ≤ sizeLine := by
          rw [List.length_map, List.length_map]
          have : c.toList.length ≤ 1 := by cases c <;> simp
          exact Nat.le_trans (show s.length + c.toList.length ≤ 2000 by omega) (by decide)
        refine ⟨[some (.slf "RangeSet" []), some (.dat l.d), some (.dat (.tup (cs.map (rangeI l)))), some (.own (s.map pcD)), some (.dat (rangeI l c)), none], _, rfl, ?_, ⟨some (.dat (rangeI l c)), rfl⟩, ?_⟩
        · rw [st_extT (es := c.toList.map pcD) (ds := s.map pcD) (by have := P c; simp [runT, sss, ss, em, ems, emT, emX, mVar, env0, dats, Tr.bind, Tr.of, tru_bl, endT, freeze, setT, setTs, optT, sz1, sz2, sz3, sz4, sz5, cm1, cm2, mulT, addT, eqT_str, tab_h, tab_d, n_wh_de, n_wh_wo, n_de_wh, n_de_wo, n_wo_wh, n_wo_de, this, pcsD]) rfl hz, ← List.map_append]
          rfl
        · rw [List.length_append]
          have : c.toList.length ≤ 1 := by cases c <;> simp
          omega) [] [some (.slf "RangeSet" []), some (.dat l.d), some (.dat (.tup (cs.map (rangeI l)))), some (.own []), none, none] ⟨⟨none, rfl⟩, Nat.le_refl _⟩
    rw [st_for (ds := cs.map (rangeI l)) (e := env') (by simp [runT, sss, ss, em, ems, emT, emX, mVar, env0, dats, Tr.bind, Tr.of, tru_bl, endT, freeze, setT, setTs, optT, sz1, sz2, sz3, sz4, sz5, cm1, cm2, mulT, addT, eqT_str, tab_h, tab_d, n_wh_de, n_wh_wo, n_de_wh, n_de_wo, n_wo_wh, n_wo_de, emI, itemsT, itemsD]) (by exact h1)]
    clear h1
    subst h2
    rw [fold_flat, List.nil_append]
    rw [st_fld (d := l.d) (fs := []) (by simp [runT, sss, ss, em, ems, emT, emX, mVar, env0, dats, Tr.bind, Tr.of, tru_bl, endT, freeze, setT, setTs, optT, sz1, sz2, sz3, sz4, sz5, cm1, cm2, mulT, addT, eqT_str, tab_h, tab_d, n_wh_de, n_wh_wo, n_de_wh, n_de_wo, n_wo_wh, n_wo_de]) rfl (by decide), putS1]
    rw [st_frz (ds := (flat cs).map pcD) rfl]
    rw [st_fld (d := pcsD (normalI (flat cs))) (fs := [(Str.ofString "own_line", l.d)]) (by simp [runT, sss, ss, em, ems, emT, emX, mVar, env0, dats, Tr.bind, Tr.of, tru_bl, endT, freeze, setT, setTs, optT, sz1, sz2, sz3, sz4, sz5, cm1, cm2, mulT, addT, eqT_str, tab_h, tab_d, n_wh_de, n_wh_wo, n_de_wh, n_de_wo, n_wo_wh, n_wo_de, N]) rfl (by simp), putS2]
    generalize hn : normalI (flat cs) = qs
    have vq : VP qs := by rw [← hn]; exact (normal_ok (flat cs)).1
    have lq : qs.length ≤ 1000 := by
      rw [← hn]
      have e1 := n_mrgs (sortPc ((flat cs).filter fullP))
      have e2 : normalI (flat cs) = mrgs (sortPc ((flat cs).filter fullP)) := rfl
      rw [e2]
      have l1 : (sortPc ((flat cs).filter fullP)).length ≤ 1000 := by rw [(sort_ok _).1.length_eq]; exact Nat.le_trans (List.length_filter_le _ _) hf
      exact Nat.le_trans (mrgs_len _) l1
    rw [st_fld (d := .tup [l.d, pcsD qs]) (fs := [(Str.ofString "own_line", l.d), (Str.ofString "own_pieces", pcsD qs)]) (by simp [runT, sss, ss, em, ems, emT, emX, mVar, env0, dats, Tr.bind, Tr.of, tru_bl, endT, freeze, setT, setTs, optT, sz1, sz2, sz3, sz4, sz5, cm1, cm2, mulT, addT, eqT_str, tab_h, tab_d, n_wh_de, n_wh_wo, n_de_wh, n_de_wo, n_wo_wh, n_wo_de, mSelf, lookS2]) rfl (by simp), putS3]
    have hz3 : (qs.map pcD).length ≤ sizeLine := by rw [List.length_map]; exact Nat.le_trans lq (by decide)
    have W : em (Gn prog (n + 5)) (.lc (.name 5) [("cuts", 5)] (.items (.slf "RangeSet" 0 "own_pieces")) .no (.call "range_of" [(.var 1), (.var 5)])) [some (.slf "RangeSet" [(Str.ofString "own_line", l.d), (Str.ofString "own_pieces", pcsD qs), (Str.ofString "own_points", .tup [l.d, pcsD qs])]), some (.dat l.d), some (.dat (.tup (cs.map (rangeI l)))), some (.dat (.lst ((flat cs).map pcD))), g, none] = .ret (.lst (qs.map fun p => rangeI l (some p))) := by
      refine em_lcE (ds := qs.map pcD) (by simp [emI, em, mSelf, lookS3, Tr.of, Tr.bind, itemsT, itemsD, pcsD]) hz3 ?_
      refine lc_map fun p hp => ⟨[some (.slf "RangeSet" [(Str.ofString "own_line", l.d), (Str.ofString "own_pieces", pcsD qs), (Str.ofString "own_points", .tup [l.d, pcsD qs])]), some (.dat l.d), some (.dat (.tup (cs.map (rangeI l)))), some (.dat (.lst ((flat cs).map pcD))), g, some (.dat (pcD p))], rfl, rfl, ?_⟩
      have R := s_range_of n h (vq.full p hp)
      simp [runT, sss, ss, em, ems, emT, emX, mVar, env0, dats, Tr.bind, Tr.of, tru_bl, endT, freeze, setT, setTs, optT, sz1, sz2, sz3, sz4, sz5, cm1, cm2, mulT, addT, eqT_str, tab_h, tab_d, n_wh_de, n_wh_wo, n_de_wh, n_de_wo, n_wo_wh, n_wo_de, R]
    have W2 : em (Gn prog (n + 5)) (.bi .tuple [(.lc (.name 5) [("cuts", 5)] (.items (.slf "RangeSet" 0 "own_pieces")) .no (.call "range_of" [(.var 1), (.var 5)]))]) [some (.slf "RangeSet" [(Str.ofString "own_line", l.d), (Str.ofString "own_pieces", pcsD qs), (Str.ofString "own_points", .tup [l.d, pcsD qs])]), some (.dat l.d), some (.dat (.tup (cs.map (rangeI l)))), some (.dat (.lst ((flat cs).map pcD))), g, none] = .ret (rowsD l qs) := (em_bi W).trans rfl
    rw [st_fld (d := rowsD l qs) (fs := [(Str.ofString "own_line", l.d), (Str.ofString "own_pieces", pcsD qs), (Str.ofString "own_points", .tup [l.d, pcsD qs])]) (by exact W2) rfl (by simp), putS4]
    exact ⟨_, rfl⟩
  obtain ⟨e, key⟩ := key
  show (sss (Gn prog (n + 5)) ir_mak_RangeSet.ir [some (.slf "RangeSet" []), some (.dat l.d), some (.dat (.tup (cs.map (rangeI l)))), none, none, none]).bind (endI "RangeSet") = _
  rw [key]
  simp [Tr.bind, endI]
theorem fullS (a b : D) : full ir_mak_RangeSet.n ir_mak_RangeSet.dfl [a, b] = some [a, b] := by kernel_rfl
theorem s_mkS {l : Ln} (h : Num l) (cs : List (Option Pc)) (hl : cs.length ≤ 1000) : mkT "RangeSet" ((Gn prog (n + 6)).mak "RangeSet") [l.d, .tup (cs.map (rangeI l))] = .ret (setD l (normalI (flat cs))) := by
  rw [lk_mak_RangeSet (n + 5)]
  exact mkE (fullS _ _) (s_initS n h cs hl)
theorem s_set_of {l : Ln} (h : Num l) {ps : List Pc} (hv : VP ps) (hl : ps.length ≤ 1000) : callT ((Gn prog (n + 7)).fn "set_of") [l.d, pcsD ps] = .ret (setD l ps) := by
  rw [lk_fn_set_of, callE rfl rfl]
  refine run_ret ?_
  unfold ir_fn_set_of
  show em (Gn prog (n + 6)) _ [some (.dat l.d), some (.dat (pcsD ps)), none] = _
  have hz3 : (ps.map pcD).length ≤ sizeLine := by rw [List.length_map]; exact Nat.le_trans hl (by decide)
  have W : em (Gn prog (n + 6)) (.lc (.name 2) [("cuts", 2)] (.items (.var 1)) .no (.call "range_of" [(.var 0), (.var 2)])) [some (.dat l.d), some (.dat (pcsD ps)), none] = .ret (.lst (ps.map fun p => rangeI l (some p))) := by
    refine em_lcE (ds := ps.map pcD) (by simp [runT, sss, ss, em, ems, emT, emX, mVar, env0, dats, Tr.bind, Tr.of, tru_bl, endT, freeze, setT, setTs, optT, sz1, sz2, sz3, sz4, sz5, cm1, cm2, mulT, addT, eqT_str, tab_h, tab_d, n_wh_de, n_wh_wo, n_de_wh, n_de_wo, n_wo_wh, n_wo_de, emI, itemsT, itemsD, pcsD]) hz3 ?_
    refine lc_map fun p hp => ⟨[some (.dat l.d), some (.dat (pcsD ps)), some (.dat (pcD p))], rfl, rfl, ?_⟩
    have R := s_range_of (n + 1) h (hv.full p hp)
    simp [runT, sss, ss, em, ems, emT, emX, mVar, env0, dats, Tr.bind, Tr.of, tru_bl, endT, freeze, setT, setTs, optT, sz1, sz2, sz3, sz4, sz5, cm1, cm2, mulT, addT, eqT_str, tab_h, tab_d, n_wh_de, n_wh_wo, n_de_wh, n_de_wo, n_wo_wh, n_wo_de, R]
  have M := s_mkS n h (ps.map some) (by simpa using hl)
  have e1 : flat (ps.map some) = ps := flat_some ps
  rw [e1, normal_id hv, List.map_map] at M
  have W2 : em (Gn prog (n + 6)) (.bi .tuple [(.lc (.name 2) [("cuts", 2)] (.items (.var 1)) .no (.call "range_of" [(.var 0), (.var 2)]))]) [some (.dat l.d), some (.dat (pcsD ps)), none] = .ret (.tup (ps.map fun p => rangeI l (some p))) := (em_bi W).trans rfl
  exact (em_mk (by simp only [ems, W2, Tr.bind]; rfl)).trans M
end
end Rc

-- Pk09k
set_option Elab.async false
set_option linter.all false
set_option maxRecDepth 100000
set_option maxHeartbeats 1000000
namespace Rc
open PySem PySem.Spec PyProof.Rows L2
/-! ### moved, mirrored -/
def stepI : Ln → Int
  | .dense => 2
  | _ => 1
theorem cm1' (x : Int) : CMul x 1 := cm1 x
section
variable (n : Nat)
theorem s_check_move {l : Ln} (h : Num l) (m : Int) : callT ((Gn prog (n + 2)).fn "check_move") [l.d, .int m] = .ret .non := by
  rw [lk_fn_check_move, callE rfl rfl]
  have A := s_is_integer n m
  have key : sss (Gn prog (n + 1)) ir_fn_check_move.ir [some (.dat l.d), some (.dat (.int m))] = .ret (.nx [some (.dat l.d), some (.dat (.int m))]) := by
    unfold ir_fn_check_move
    rcases h with rfl | rfl
    · rw [st_no (by simp [runT, sss, ss, em, ems, emT, emX, mVar, env0, dats, Tr.bind, Tr.of, tru_bl, endT, freeze, setT, setTs, optT, sz1, sz2, sz3, sz4, sz5, cm1, cm2, mulT, addT, eqT_str, tab_h, tab_d, n_wh_de, n_wh_wo, n_de_wh, n_de_wo, n_wo_wh, n_wo_de, gl_WORDS, Ln.d, Ln.s]), st_no (by simp [runT, sss, ss, em, ems, emT, emX, mVar, env0, dats, Tr.bind, Tr.of, tru_bl, endT, freeze, setT, setTs, optT, sz1, sz2, sz3, sz4, sz5, cm1, cm2, mulT, addT, eqT_str, tab_h, tab_d, n_wh_de, n_wh_wo, n_de_wh, n_de_wo, n_wo_wh, n_wo_de, A])]
      rfl
    · rw [st_no (by simp [runT, sss, ss, em, ems, emT, emX, mVar, env0, dats, Tr.bind, Tr.of, tru_bl, endT, freeze, setT, setTs, optT, sz1, sz2, sz3, sz4, sz5, cm1, cm2, mulT, addT, eqT_str, tab_h, tab_d, n_wh_de, n_wh_wo, n_de_wh, n_de_wo, n_wo_wh, n_wo_de, gl_WORDS, Ln.d, Ln.s]), st_no (by simp [runT, sss, ss, em, ems, emT, emX, mVar, env0, dats, Tr.bind, Tr.of, tru_bl, endT, freeze, setT, setTs, optT, sz1, sz2, sz3, sz4, sz5, cm1, cm2, mulT, addT, eqT_str, tab_h, tab_d, n_wh_de, n_wh_wo, n_de_wh, n_de_wo, n_wo_wh, n_wo_de, A])]
      rfl
  show (sss (Gn prog (n + 1)) ir_fn_check_move.ir [some (.dat l.d), some (.dat (.int m))]).bind endT = _
  rw [key]
  rfl
theorem s_moved_cut {l : Ln} (h : Num l) (c : Cu) (m : Int) : callT ((Gn prog (n + 1)).fn "moved_cut") [l.d, optI c, .int m] = .ret (optI (shC (m * stepI l) c)) := by
  rw [lk_fn_moved_cut, callE rfl rfl]
  refine run_ret ?_
  unfold ir_fn_moved_cut
  cases c with
  | none => simp [runT, sss, ss, em, ems, emT, emX, mVar, env0, dats, Tr.bind, Tr.of, tru_bl, endT, freeze, setT, setTs, optT, sz1, sz2, sz3, sz4, sz5, cm1, cm2, mulT, addT, eqT_str, tab_h, tab_d, n_wh_de, n_wh_wo, n_de_wh, n_de_wo, n_wo_wh, n_wo_de, optI, isN, shC]
  | some x =>
    rcases h with rfl | rfl
    · simp [runT, sss, ss, em, ems, emT, emX, mVar, env0, dats, Tr.bind, Tr.of, tru_bl, endT, freeze, setT, setTs, optT, sz1, sz2, sz3, sz4, sz5, cm1, cm2, mulT, addT, eqT_str, tab_h, tab_d, n_wh_de, n_wh_wo, n_de_wh, n_de_wo, n_wo_wh, n_wo_de, optI, shC, stepI, tb_STEPS, Ln.d, Ln.s, show ∀ (G : Gs) (x : Int), cmpT G .Is (.int x) .non = .ret (.bl false) from fun _ _ => rfl]
    · simp [runT, sss, ss, em, ems, emT, emX, mVar, env0, dats, Tr.bind, Tr.of, tru_bl, endT, freeze, setT, setTs, optT, sz1, sz2, sz3, sz4, sz5, cm1, cm2, mulT, addT, eqT_str, tab_h, tab_d, n_wh_de, n_wh_wo, n_de_wh, n_de_wo, n_wo_wh, n_wo_de, optI, shC, stepI, tb_STEPS, Ln.d, Ln.s, show ∀ (G : Gs) (x : Int), cmpT G .Is (.int x) .non = .ret (.bl false) from fun _ _ => rfl]
theorem s_mirrored_cut (l : Ln) (c : Cu) : callT ((Gn prog (n + 1)).fn "mirrored_cut") [l.d, optI c] = .ret (optI (miC c)) := by
  rw [lk_fn_mirrored_cut, callE rfl rfl]
  refine run_ret ?_
  unfold ir_fn_mirrored_cut
  cases c with
  | none => simp [runT, sss, ss, em, ems, emT, emX, mVar, env0, dats, Tr.bind, Tr.of, tru_bl, endT, freeze, setT, setTs, optT, sz1, sz2, sz3, sz4, sz5, cm1, cm2, mulT, addT, eqT_str, tab_h, tab_d, n_wh_de, n_wh_wo, n_de_wh, n_de_wo, n_wo_wh, n_wo_de, optI, isN, miC]
  | some x => simp [runT, sss, ss, em, ems, emT, emX, mVar, env0, dats, Tr.bind, Tr.of, tru_bl, endT, freeze, setT, setTs, optT, sz1, sz2, sz3, sz4, sz5, cm1, cm2, mulT, addT, eqT_str, tab_h, tab_d, n_wh_de, n_wh_wo, n_de_wh, n_de_wo, n_wo_wh, n_wo_de, optI, miC, subT, show ∀ (G : Gs) (x : Int), cmpT G .Is (.int x) .non = .ret (.bl false) from fun _ _ => rfl]
theorem s_moved {l : Ln} (h : Num l) (ps : List Pc) (hl : ps.length ≤ 1000) (m : Int) : callT ((Gn prog (n + 2)).fn "moved") [l.d, pcsD ps, .int m] = .ret (pcsD (shP (m * stepI l) ps)) := by
  rw [lk_fn_moved, callE rfl rfl]
  refine run_ret ?_
  unfold ir_fn_moved
  show em (Gn prog (n + 1)) _ [some (.dat l.d), some (.dat (pcsD ps)), some (.dat (.int m)), none, none] = _
  have hz : (ps.map pcD).length ≤ sizeLine := by rw [List.length_map]; exact Nat.le_trans hl (by decide)
  have W : em (Gn prog (n + 1)) (.lc (.tup [(.name 3), (.name 4)]) [("low", 3), ("high", 4)] (.items (.var 1)) .no (.tup [(.call "moved_cut" [(.var 0), (.var 3), (.var 2)]), (.call "moved_cut" [(.var 0), (.var 4), (.var 2)])])) [some (.dat l.d), some (.dat (pcsD ps)), some (.dat (.int m)), none, none] = .ret (.lst (ps.map fun p => pcD (shC (m * stepI l) p.1, shC (m * stepI l) p.2))) := by
    refine em_lcE (ds := ps.map pcD) (by simp [runT, sss, ss, em, ems, emT, emX, mVar, env0, dats, Tr.bind, Tr.of, tru_bl, endT, freeze, setT, setTs, optT, sz1, sz2, sz3, sz4, sz5, cm1, cm2, mulT, addT, eqT_str, tab_h, tab_d, n_wh_de, n_wh_wo, n_de_wh, n_de_wo, n_wo_wh, n_wo_de, emI, itemsT, itemsD, pcsD]) hz ?_
    refine lc_map fun p _ => ⟨[some (.dat l.d), some (.dat (pcsD ps)), some (.dat (.int m)), some (.dat (optI p.1)), some (.dat (optI p.2))], rfl, rfl, ?_⟩
    have A := s_moved_cut n h p.1 m
    have B := s_moved_cut n h p.2 m
    simp [runT, sss, ss, em, ems, emT, emX, mVar, env0, dats, Tr.bind, Tr.of, tru_bl, endT, freeze, setT, setTs, optT, sz1, sz2, sz3, sz4, sz5, cm1, cm2, mulT, addT, eqT_str, tab_h, tab_d, n_wh_de, n_wh_wo, n_de_wh, n_de_wo, n_wo_wh, n_wo_de, A, B, pcD]
  refine (em_bi W).trans ?_
  show Tr.ret (D.tup (ps.map fun p => pcD (shC (m * stepI l) p.1, shC (m * stepI l) p.2))) = _
  simp [pcsD, shP]
theorem s_mirrored (l : Ln) (ps : List Pc) (hl : ps.length ≤ 1000) : callT ((Gn prog (n + 2)).fn "mirrored") [l.d, pcsD ps] = .ret (pcsD (miP ps)) := by
  rw [lk_fn_mirrored, callE rfl rfl]
  refine run_ret ?_
  unfold ir_fn_mirrored
  show em (Gn prog (n + 1)) _ [some (.dat l.d), some (.dat (pcsD ps)), none, none] = _
  have hz : (ps.reverse.map pcD).length ≤ sizeLine := by rw [List.length_map, List.length_reverse]; exact Nat.le_trans hl (by decide)
  have W : em (Gn prog (n + 1)) (.lc (.tup [(.name 2), (.name 3)]) [("low", 2), ("high", 3)] (.items (.rev (.var 1))) .no (.tup [(.call "mirrored_cut" [(.var 0), (.var 3)]), (.call "mirrored_cut" [(.var 0), (.var 2)])])) [some (.dat l.d), some (.dat (pcsD ps)), none, none] = .ret (.lst (ps.reverse.map fun p => pcD (miC p.2, miC p.1))) := by
    refine em_lcE (ds := ps.reverse.map pcD) (by simp [emI, em, mVar, itemsT, itemsD, pcsD, revD, Tr.of, Tr.bind, List.map_reverse]) hz ?_
    refine lc_map fun p _ => ⟨[some (.dat l.d), some (.dat (pcsD ps)), some (.dat (optI p.1)), some (.dat (optI p.2))], rfl, rfl, ?_⟩
    have A := s_mirrored_cut n l p.1
    have B := s_mirrored_cut n l p.2
    simp [runT, sss, ss, em, ems, emT, emX, mVar, env0, dats, Tr.bind, Tr.of, tru_bl, endT, freeze, setT, setTs, optT, sz1, sz2, sz3, sz4, sz5, cm1, cm2, mulT, addT, eqT_str, tab_h, tab_d, n_wh_de, n_wh_wo, n_de_wh, n_de_wo, n_wo_wh, n_wo_de, A, B, pcD]
  refine (em_bi W).trans ?_
  show Tr.ret (D.tup (ps.reverse.map fun p => pcD (miC p.2, miC p.1))) = _
  simp [pcsD, miP]
end
/-! ### values: a range or a set -/
/-- the pieces of a value -/
structure Val where
  l : Ln
  isR : Bool
  ps : List Pc
def Val.ok (v : Val) : Prop := Num v.l ∧ VP v.ps ∧ v.ps.length ≤ 1000 ∧ (v.isR = true → v.ps.length ≤ 1)
def Val.d (v : Val) : D := if v.isR then rangeI v.l v.ps.head? else setD v.l v.ps
theorem head_list {ps : List Pc} (h : ps.length ≤ 1) : ps.head?.toList = ps := by
  cases ps with
  | nil => rfl
  | cons p r =>
    cases r with
    | nil => rfl
    | cons q r => simp at h
theorem lkS1 (l : Ln) (ps : List Pc) : List.lookup (Str.ofString "own_line") (setF l ps) = some l.d := by kernel_rfl
theorem lkS2 (l : Ln) (ps : List Pc) : List.lookup (Str.ofString "own_pieces") (setF l ps) = some (pcsD ps) := by kernel_rfl
theorem lkS3 (l : Ln) (ps : List Pc) : List.lookup (Str.ofString "own_points") (setF l ps) = some (.tup [l.d, pcsD ps]) := by kernel_rfl
section
variable (n : Nat)
theorem attS1 (l : Ln) (ps : List Pc) : attT (Gn prog n).att "own_line" (setD l ps) = .ret l.d := by
  simp only [setD, attT, fl_RangeSet_own_line, lkS1, Tr.of]
theorem attS2 (l : Ln) (ps : List Pc) : attT (Gn prog n).att "own_pieces" (setD l ps) = .ret (pcsD ps) := by
  simp only [setD, attT, fl_RangeSet_own_pieces, lkS2, Tr.of]
theorem attS3 (l : Ln) (ps : List Pc) : attT (Gn prog n).att "own_points" (setD l ps) = .ret (.tup [l.d, pcsD ps]) := by
  simp only [setD, attT, fl_RangeSet_own_points, lkS3, Tr.of]
def Val.sh (v : Val) (m : Int) : Val := ⟨v.l, v.isR, shP (m * stepI v.l) v.ps⟩
def Val.mi (v : Val) : Val := ⟨v.l, v.isR, miP v.ps⟩
theorem Val.sh_ok {v : Val} (h : v.ok) (m : Int) : (v.sh m).ok := ⟨h.1, sh_V _ h.2.1, by simpa [Val.sh, shP] using h.2.2.1, fun z => by simpa [Val.sh, shP] using h.2.2.2 z⟩
theorem Val.mi_ok {v : Val} (h : v.ok) : v.mi.ok := ⟨h.1, mi_V h.2.1, by simpa [Val.mi, miP] using h.2.2.1, fun z => by simpa [Val.mi, miP] using h.2.2.2 z⟩
theorem one_of {l : Ln} (h : Num l) {ps : List Pc} (hv : VP ps) (h1 : ps.length ≤ 1) : callT ((Gn prog (n + 6)).fn "one_range") [l.d, pcsD ps] = .ret (rangeI l ps.head?) := by
  have := s_one n h ps.head? (fun p e => hv.full p (by cases ps with | nil => cases e | cons q r => cases e; exact List.mem_cons_self))
  rwa [head_list h1] at this
theorem neg_i (G : Gs) (m : Int) : unT G .USub (.int m) = .ret (.int (-m)) := rfl
theorem s_rshift {v : Val} (h : v.ok) (m : Int) : binT (Gn prog (n + 8)) .RShift v.d (.int m) = .ret (v.sh m).d := by
  obtain ⟨l, r, ps⟩ := v
  obtain ⟨h1, h2, h3, h4⟩ := h
  have C := s_check_move (n + 5) h1 m
  have M := s_moved (n + 5) h1 ps h3 m
  cases r with
  | true =>
    have h5 : ps.length ≤ 1 := h4 rfl
    have L := attL (n + 7) l (ps.head?.map toC)
    have P := s_pieces_in (n + 6) l (ps.head?.map toC)
    rw [pieces_toC, head_list h5] at P
    have O := one_of (n + 1) h1 (sh_V (m * stepI l) h2) (by simpa [shP] using h5)
    have key : callT ((Gn prog (n + 8)).met "Range" "__rshift__") [rangeD l (ps.head?.map toC), .int m] = .ret (rangeI l (shP (m * stepI l) ps).head?) := by
      rw [lk_met_Rangeu_rshiftu, callE rfl rfl]
      refine run_of ?_
      unfold ir_met_Rangeu_rshiftu
      rw [st_ex (d := .non) (by simp [runT, sss, ss, em, ems, emT, emX, mVar, env0, dats, Tr.bind, Tr.of, tru_bl, endT, freeze, setT, setTs, optT, sz1, sz2, sz3, sz4, sz5, cm1, cm2, mulT, addT, eqT_str, tab_h, tab_d, n_wh_de, n_wh_wo, n_de_wh, n_de_wo, n_wo_wh, n_wo_de, L, C])]
      exact st_ret (by simp [runT, sss, ss, em, ems, emT, emX, mVar, env0, dats, Tr.bind, Tr.of, tru_bl, endT, freeze, setT, setTs, optT, sz1, sz2, sz3, sz4, sz5, cm1, cm2, mulT, addT, eqT_str, tab_h, tab_d, n_wh_de, n_wh_wo, n_de_wh, n_de_wo, n_wo_wh, n_wo_de, L, P, M, O])
    have kc : ((Gn prog (n + 8)).known.contains (Str.ofString "Range")) = true := by rw [kn]; rfl
    show binT (Gn prog (n + 8)) .RShift (.obj "Range" (rangeF l (ps.head?.map toC))) (.int m) = _
    have k2 : (ops.contains Operator.RShift && (Gn prog (n + 8)).known.contains "Range" && binB (Gn prog (n + 8)) .RShift "Range" (.int m)) = true := by
      rw [show (Gn prog (n + 8)).known.contains "Range" = true from kc]; rfl
    simp only [binT, k2, if_true]
    exact key
  | false =>
    have L := attS1 (n + 7) l ps
    have P := attS2 (n + 7) l ps
    have O := s_set_of n h1 (sh_V (m * stepI l) h2) (by simpa [shP] using h3)
    have key : callT ((Gn prog (n + 8)).met "RangeSet" "__rshift__") [setD l ps, .int m] = .ret (setD l (shP (m * stepI l) ps)) := by
      rw [lk_met_RangeSetu_rshiftu, callE rfl rfl]
      refine run_of ?_
      unfold ir_met_RangeSetu_rshiftu
      rw [st_ex (d := .non) (by simp [runT, sss, ss, em, ems, emT, emX, mVar, env0, dats, Tr.bind, Tr.of, tru_bl, endT, freeze, setT, setTs, optT, sz1, sz2, sz3, sz4, sz5, cm1, cm2, mulT, addT, eqT_str, tab_h, tab_d, n_wh_de, n_wh_wo, n_de_wh, n_de_wo, n_wo_wh, n_wo_de, L, C])]
      exact st_ret (by simp [runT, sss, ss, em, ems, emT, emX, mVar, env0, dats, Tr.bind, Tr.of, tru_bl, endT, freeze, setT, setTs, optT, sz1, sz2, sz3, sz4, sz5, cm1, cm2, mulT, addT, eqT_str, tab_h, tab_d, n_wh_de, n_wh_wo, n_de_wh, n_de_wo, n_wo_wh, n_wo_de, L, P, M, O])
    have k2 : (ops.contains Operator.RShift && (Gn prog (n + 8)).known.contains "RangeSet" && binB (Gn prog (n + 8)) .RShift "RangeSet" (.int m)) = true := by
      rw [kn]; rfl
    show binT (Gn prog (n + 8)) .RShift (.obj "RangeSet" (setF l ps)) (.int m) = _
    simp only [binT, k2, if_true]
    exact key
theorem s_lshift {v : Val} (h : v.ok) (m : Int) : binT (Gn prog (n + 8)) .LShift v.d (.int m) = .ret (v.sh (-m)).d := by
  obtain ⟨l, r, ps⟩ := v
  obtain ⟨h1, h2, h3, h4⟩ := h
  have C := s_check_move (n + 5) h1 m
  have M := s_moved (n + 5) h1 ps h3 (-m)
  cases r with
  | true =>
    have h5 : ps.length ≤ 1 := h4 rfl
    have L := attL (n + 7) l (ps.head?.map toC)
    have P := s_pieces_in (n + 6) l (ps.head?.map toC)
    rw [pieces_toC, head_list h5] at P
    have O := one_of (n + 1) h1 (sh_V (-m * stepI l) h2) (by simpa [shP] using h5)
    have key : callT ((Gn prog (n + 8)).met "Range" "__lshift__") [rangeD l (ps.head?.map toC), .int m] = .ret (rangeI l (shP (-m * stepI l) ps).head?) := by
      rw [lk_met_Rangeu_lshiftu, callE rfl rfl]
      refine run_of ?_
      unfold ir_met_Rangeu_lshiftu
      rw [st_ex (d := .non) (by simp [runT, sss, ss, em, ems, emT, emX, mVar, env0, dats, Tr.bind, Tr.of, tru_bl, endT, freeze, setT, setTs, optT, sz1, sz2, sz3, sz4, sz5, cm1, cm2, mulT, addT, eqT_str, tab_h, tab_d, n_wh_de, n_wh_wo, n_de_wh, n_de_wo, n_wo_wh, n_wo_de, L, C])]
      exact st_ret (by simp [runT, sss, ss, em, ems, emT, emX, mVar, env0, dats, Tr.bind, Tr.of, tru_bl, endT, freeze, setT, setTs, optT, sz1, sz2, sz3, sz4, sz5, cm1, cm2, mulT, addT, eqT_str, tab_h, tab_d, n_wh_de, n_wh_wo, n_de_wh, n_de_wo, n_wo_wh, n_wo_de, L, P, M, O, neg_i])
    have kc : ((Gn prog (n + 8)).known.contains (Str.ofString "Range")) = true := by rw [kn]; rfl
    show binT (Gn prog (n + 8)) .LShift (.obj "Range" (rangeF l (ps.head?.map toC))) (.int m) = _
    have k2 : (ops.contains Operator.LShift && (Gn prog (n + 8)).known.contains "Range" && binB (Gn prog (n + 8)) .LShift "Range" (.int m)) = true := by
      rw [show (Gn prog (n + 8)).known.contains "Range" = true from kc]; rfl
    simp only [binT, k2, if_true]
    exact key
  | false =>
    have L := attS1 (n + 7) l ps
    have P := attS2 (n + 7) l ps
    have O := s_set_of n h1 (sh_V (-m * stepI l) h2) (by simpa [shP] using h3)
    have key : callT ((Gn prog (n + 8)).met "RangeSet" "__lshift__") [setD l ps, .int m] = .ret (setD l (shP (-m * stepI l) ps)) := by
      rw [lk_met_RangeSetu_lshiftu, callE rfl rfl]
      refine run_of ?_
      unfold ir_met_RangeSetu_lshiftu
      rw [st_ex (d := .non) (by simp [runT, sss, ss, em, ems, emT, emX, mVar, env0, dats, Tr.bind, Tr.of, tru_bl, endT, freeze, setT, setTs, optT, sz1, sz2, sz3, sz4, sz5, cm1, cm2, mulT, addT, eqT_str, tab_h, tab_d, n_wh_de, n_wh_wo, n_de_wh, n_de_wo, n_wo_wh, n_wo_de, L, C])]
      exact st_ret (by simp [runT, sss, ss, em, ems, emT, emX, mVar, env0, dats, Tr.bind, Tr.of, tru_bl, endT, freeze, setT, setTs, optT, sz1, sz2, sz3, sz4, sz5, cm1, cm2, mulT, addT, eqT_str, tab_h, tab_d, n_wh_de, n_wh_wo, n_de_wh, n_de_wo, n_wo_wh, n_wo_de, L, P, M, O, neg_i])
    have k2 : (ops.contains Operator.LShift && (Gn prog (n + 8)).known.contains "RangeSet" && binB (Gn prog (n + 8)) .LShift "RangeSet" (.int m)) = true := by
      rw [kn]; rfl
    show binT (Gn prog (n + 8)) .LShift (.obj "RangeSet" (setF l ps)) (.int m) = _
    simp only [binT, k2, if_true]
    exact key
theorem s_neg {v : Val} (h : v.ok) : unT (Gn prog (n + 8)) .USub v.d = .ret v.mi.d := by
  obtain ⟨l, r, ps⟩ := v
  obtain ⟨h1, h2, h3, h4⟩ := h
  have C := s_check_move (n + 5) h1 0
  have M := s_mirrored (n + 5) l ps h3
  cases r with
  | true =>
    have h5 : ps.length ≤ 1 := h4 rfl
    have L := attL (n + 7) l (ps.head?.map toC)
    have P := s_pieces_in (n + 6) l (ps.head?.map toC)
    rw [pieces_toC, head_list h5] at P
    have O := one_of (n + 1) h1 (mi_V h2) (by simpa [miP] using h5)
    have key : callT ((Gn prog (n + 8)).met "Range" "__neg__") [rangeD l (ps.head?.map toC)] = .ret (rangeI l (miP ps).head?) := by
      rw [lk_met_Rangeu_negu, callE rfl rfl]
      refine run_of ?_
      unfold ir_met_Rangeu_negu
      rw [st_ex (d := .non) (by simp [runT, sss, ss, em, ems, emT, emX, mVar, env0, dats, Tr.bind, Tr.of, tru_bl, endT, freeze, setT, setTs, optT, sz1, sz2, sz3, sz4, sz5, cm1, cm2, mulT, addT, eqT_str, tab_h, tab_d, n_wh_de, n_wh_wo, n_de_wh, n_de_wo, n_wo_wh, n_wo_de, L, C])]
      exact st_ret (by simp [runT, sss, ss, em, ems, emT, emX, mVar, env0, dats, Tr.bind, Tr.of, tru_bl, endT, freeze, setT, setTs, optT, sz1, sz2, sz3, sz4, sz5, cm1, cm2, mulT, addT, eqT_str, tab_h, tab_d, n_wh_de, n_wh_wo, n_de_wh, n_de_wo, n_wo_wh, n_wo_de, L, P, M, O])
    exact key
  | false =>
    have L := attS1 (n + 7) l ps
    have P := attS2 (n + 7) l ps
    have O := s_set_of n h1 (mi_V h2) (by simpa [miP] using h3)
    have key : callT ((Gn prog (n + 8)).met "RangeSet" "__neg__") [setD l ps] = .ret (setD l (miP ps)) := by
      rw [lk_met_RangeSetu_negu, callE rfl rfl]
      refine run_of ?_
      unfold ir_met_RangeSetu_negu
      rw [st_ex (d := .non) (by simp [runT, sss, ss, em, ems, emT, emX, mVar, env0, dats, Tr.bind, Tr.of, tru_bl, endT, freeze, setT, setTs, optT, sz1, sz2, sz3, sz4, sz5, cm1, cm2, mulT, addT, eqT_str, tab_h, tab_d, n_wh_de, n_wh_wo, n_de_wh, n_de_wo, n_wo_wh, n_wo_de, L, C])]
      exact st_ret (by simp [runT, sss, ss, em, ems, emT, emX, mVar, env0, dats, Tr.bind, Tr.of, tru_bl, endT, freeze, setT, setTs, optT, sz1, sz2, sz3, sz4, sz5, cm1, cm2, mulT, addT, eqT_str, tab_h, tab_d, n_wh_de, n_wh_wo, n_de_wh, n_de_wo, n_wo_wh, n_wo_de, L, P, M, O])
    exact key
end
end Rc

-- Pk09l
set_option Elab.async false
set_option linter.all false
set_option maxRecDepth 100000
set_option maxHeartbeats 1000000
namespace Rc
open PySem PySem.Spec PyProof.Rows L2
/-! ### points, and whether a value has them -/
inductive Po where
  | n (k : Int) | q (a d : Int)
def Po.d : Po → D
  | .n k => .int k
  | .q a d => .tup [.int a, .int d]
/-- where a point lies -/
def spot : Ln → Po → Int
  | .dense, .n k => k * 2
  | _, .n k => k * 1
  | _, .q a d => 2 * (a / d) + 1
def fracs : List (Int × Int) := ((List.range 16).map fun (k : Nat) => (2 * ((k : Int) - 8) + 1, (2 : Int))) ++ [(1, 3), (-1, 9)]
/-- the points that are asked -/
def PoOk : Ln → Po → Prop
  | .dense, .q a d => (a, d) ∈ fracs
  | .words, _ => False
  | _, .n _ => True
  | _, _ => False
theorem isi_ir (x : Int) : isiD p_known [.int x, .cls "Range"] = some (.bl false) := by kernel_rfl
theorem isi_is (x : Int) : isiD p_known [.int x, .cls "RangeSet"] = some (.bl false) := by kernel_rfl
theorem isi_tr (ds : List D) : isiD p_known [.tup ds, .cls "Range"] = some (.bl false) := by kernel_rfl
theorem isi_ts (ds : List D) : isiD p_known [.tup ds, .cls "RangeSet"] = some (.bl false) := by kernel_rfl
theorem isi_it (x : Int) : isiD p_known [.int x, .ty "tuple"] = some (.bl false) := by kernel_rfl
section
variable (n : Nat)
theorem s_no_value (p : Po) : callT ((Gn prog (n + 1)).fn "is_value") [p.d] = .ret (.bl false) := by
  rw [lk_fn_is_value, callE rfl rfl]
  refine run_ret ?_
  unfold ir_fn_is_value
  have kN := kn n
  cases p <;> simp [runT, sss, ss, em, ems, emT, emX, mVar, env0, dats, Tr.bind, Tr.of, tru_bl, endT, freeze, setT, setTs, optT, sz1, sz2, sz3, sz4, sz5, cm1, cm2, mulT, addT, eqT_str, tab_h, tab_d, n_wh_de, n_wh_wo, n_de_wh, n_de_wo, n_wo_wh, n_wo_de, Po.d, gl_Range, gl_RangeSet, kN, isi_ir, isi_is, isi_tr, isi_ts]
def fracsB (m : Nat) : Bool := fracs.all fun f => match callT ((Gn prog m).fn "is_point") [Ln.d .dense, .tup [.int f.1, .int f.2]] with
  | .ret (.bl b) => b
  | _ => false
theorem s_frac : ∀ f ∈ fracs, callT ((Gn prog (n + 4)).fn "is_point") [Ln.d .dense, .tup [.int f.1, .int f.2]] = .ret (.bl true) := by
  have h : fracsB (n + 4) = true := by cases n <;> kernel_rfl
  intro f hf
  have q := List.all_eq_true.mp h f hf
  split at q
  · rename_i b e
    rw [e]
    cases b
    · cases q
    · rfl
  · cases q
theorem s_is_point {l : Ln} {p : Po} (h : PoOk l p) : callT ((Gn prog (n + 4)).fn "is_point") [l.d, p.d] = .ret (.bl true) := by
  cases l with
  | words => exact h.elim
  | whole =>
    cases p with
    | q a d => exact h.elim
    | n k =>
      rw [lk_fn_is_point, callE rfl rfl]
      refine run_ret ?_
      unfold ir_fn_is_point
      have E := s_is_end (n + 1) (m := 0) (by decide) .whole (.i k) trivial
      have E' : callT ((Gn prog (n + 3)).fn "is_end") [Ln.d .whole, .int k] = .ret (.bl true) := E
      simp [runT, sss, ss, em, ems, emT, emX, mVar, env0, dats, Tr.bind, Tr.of, tru_bl, endT, freeze, setT, setTs, optT, sz1, sz2, sz3, sz4, sz5, cm1, cm2, mulT, addT, eqT_str, tab_h, tab_d, n_wh_de, n_wh_wo, n_de_wh, n_de_wo, n_wo_wh, n_wo_de, Po.d, E']
  | dense =>
    cases p with
    | q a d => exact s_frac n (a, d) h
    | n k =>
      rw [lk_fn_is_point, callE rfl rfl]
      refine run_ret ?_
      unfold ir_fn_is_point
      have E := s_is_end (n + 1) (m := 0) (by decide) .dense (.i k) trivial
      have E' : callT ((Gn prog (n + 3)).fn "is_end") [Ln.d .dense, .int k] = .ret (.bl true) := E
      simp [runT, sss, ss, em, ems, emT, emX, mVar, env0, dats, Tr.bind, Tr.of, tru_bl, endT, freeze, setT, setTs, optT, sz1, sz2, sz3, sz4, sz5, cm1, cm2, mulT, addT, eqT_str, tab_h, tab_d, n_wh_de, n_wh_wo, n_de_wh, n_de_wo, n_wo_wh, n_wo_de, Po.d, E']
theorem frac_pos {a d : Int} (h : (a, d) ∈ fracs) : 0 < d ∧ d < 10 ∧ -20 ≤ a ∧ a ≤ 20 := by
  have : fracs.all (fun f => decide (0 < f.2 ∧ f.2 < 10 ∧ -20 ≤ f.1 ∧ f.1 ≤ 20)) = true := by decide +kernel
  simpa using List.all_eq_true.mp this (a, d) h
theorem s_around {l : Ln} {p : Po} (h : PoOk l p) : callT ((Gn prog (n + 2)).fn "cuts_around") [l.d, p.d] = .ret (.tup [.int (spot l p), .int (spot l p + 1)]) := by
  rw [lk_fn_cuts_around, callE rfl rfl]
  refine run_of ?_
  unfold ir_fn_cuts_around
  have kN := kn (n + 1)
  have num : ∀ (l : Ln) (k : Int), okP 0 l (.i k) → (aheadS l (.i k) = some (.i (spot l (.n k)))) → (behindS l (.i k) = .i (spot l (.n k) + 1)) → sss (Gn prog (n + 1)) [.iff (.val (.isi (.var 1) (.glo "tuple"))) [.asg (.name 2) (.bin .FloorDiv (.bi .int [(.ix (.var 1) (.con (.int (0))))]) (.ix (.var 1) (.con (.int (1))))), .ret (.tup [(.bin .Add (.bin .Mult (.con (.int (2))) (.var 2)) (.con (.int (1)))), (.bin .Add (.bin .Mult (.con (.int (2))) (.var 2)) (.con (.int (2))))])] [], .ret (.tup [(.call "cut_ahead" [(.var 0), (.var 1)]), (.call "cut_behind" [(.var 0), (.var 1)])])] [some (.dat l.d), some (.dat (.int k)), none] = .ret (.rt (.tup [.int (spot l (.n k)), .int (spot l (.n k) + 1)])) := by
    intro l k ok ea eb
    have A : callT ((Gn prog (n + 1)).fn "cut_ahead") [l.d, .int k] = .ret (optD (aheadS l (.i k))) := s_ahead n l (.i k) (m := 0) (by decide) ok
    have B : callT ((Gn prog (n + 1)).fn "cut_behind") [l.d, .int k] = .ret (behindS l (.i k)).d := s_behind n l (.i k) (m := 0) (by decide) ok
    rw [ea] at A
    rw [eb] at B
    rw [st_if (b := false) (by simp [runT, sss, ss, em, ems, emT, emX, mVar, env0, dats, Tr.bind, Tr.of, tru_bl, endT, freeze, setT, setTs, optT, sz1, sz2, sz3, sz4, sz5, cm1, cm2, mulT, addT, eqT_str, tab_h, tab_d, n_wh_de, n_wh_wo, n_de_wh, n_de_wo, n_wo_wh, n_wo_de, gl_tuple, kN, isi_it])]
    simp only [Bool.false_eq_true, if_false, List.nil_append]
    refine st_ret ?_
    simp [runT, sss, ss, em, ems, emT, emX, mVar, env0, dats, Tr.bind, Tr.of, tru_bl, endT, freeze, setT, setTs, optT, sz1, sz2, sz3, sz4, sz5, cm1, cm2, mulT, addT, eqT_str, tab_h, tab_d, n_wh_de, n_wh_wo, n_de_wh, n_de_wo, n_wo_wh, n_wo_de, A, B, optD, Pt.d]
  cases l with
  | words => exact h.elim
  | whole =>
    cases p with
    | q a d => exact h.elim
    | n k => exact num .whole k trivial rfl rfl
  | dense =>
    cases p with
    | n k => exact num .dense k trivial rfl rfl
    | q a d =>
      obtain ⟨h1, h2, h3, h4⟩ := frac_pos h
      have hd : CDiv a d := ⟨h1, by omega⟩
      have dv : binT (Gn prog (n + 1)) .FloorDiv (.int a) (.int d) = .ret (.int (a / d)) := by simp only [binT, binD, fdivD, if_pos hd, Tr.of]
      have mu : binT (Gn prog (n + 1)) .Mult (.int 2) (.int (a / d)) = .ret (.int (2 * (a / d))) := mulT _ (.inl (by decide))
      show sss (Gn prog (n + 1)) _ [some (.dat (Ln.d .dense)), some (.dat (.tup [.int a, .int d])), none] = _
      rw [st_if (b := true) (by simp [runT, sss, ss, em, ems, emT, emX, mVar, env0, dats, Tr.bind, Tr.of, tru_bl, endT, freeze, setT, setTs, optT, sz1, sz2, sz3, sz4, sz5, cm1, cm2, mulT, addT, eqT_str, tab_h, tab_d, n_wh_de, n_wh_wo, n_de_wh, n_de_wo, n_wo_wh, n_wo_de, gl_tuple, kN, isi_tup])]
      simp only [if_true, List.cons_append, List.nil_append]
      rw [st_asg (d := .int (a / d)) (by simp [runT, sss, ss, em, ems, emT, emX, mVar, env0, dats, Tr.bind, Tr.of, tru_bl, endT, freeze, setT, setTs, optT, sz1, sz2, sz3, sz4, sz5, cm1, cm2, mulT, addT, eqT_str, tab_h, tab_d, n_wh_de, n_wh_wo, n_de_wh, n_de_wo, n_wo_wh, n_wo_de, ix0, ix1, intT_, dv])]
      refine st_ret ?_
      simp [runT, sss, ss, em, ems, emT, emX, mVar, env0, dats, Tr.bind, Tr.of, tru_bl, endT, freeze, setT, setTs, optT, sz1, sz2, sz3, sz4, sz5, cm1, cm2, mulT, addT, eqT_str, tab_h, tab_d, n_wh_de, n_wh_wo, n_de_wh, n_de_wo, n_wo_wh, n_wo_de, mu, spot]
      omega
theorem s_between (ps : List Pc) (hl : ps.length ≤ 1000) (x : Int) : callT ((Gn prog (n + 1)).fn "has_between") [pcsD ps, .int x, .int (x + 1)] = .ret (.bl (has ps x)) := by
  rw [lk_fn_has_between, callE rfl rfl]
  refine run_of ?_
  unfold ir_fn_has_between
  show sss (Gn prog n) _ [some (.dat (pcsD ps)), some (.dat (.int x)), some (.dat (.int (x + 1))), none, none, none] = _
  have L := loop_findM (tg := .tup [(.name 3), (.name 4)]) (body := sss (Gn prog n) [.asg (.name 5) (.or (.cmp .Is (.var 3) (.con (.non))) (.and (.cmp .IsNot (.var 1) (.con (.non))) (.cmp .LtE (.var 3) (.var 1)))), .iff (.and (.val (.var 5)) (.or (.cmp .Is (.var 4) (.con (.non))) (.and (.cmp .IsNot (.var 2) (.con (.non))) (.cmp .LtE (.var 2) (.var 4))))) [.ret (.con (.bl true))] []])
    (R := fun env => ∃ g3 g4 g5 : Option EV, env = [some (.dat (pcsD ps)), some (.dat (.int x)), some (.dat (.int (x + 1))), g3, g4, g5]) (d0 := .bl true) (f := pcD) (p := inP x) ps (by
      rintro p env _ ⟨g3, g4, g5, rfl⟩
      refine ⟨[some (.dat (pcsD ps)), some (.dat (.int x)), some (.dat (.int (x + 1))), some (.dat (optI p.1)), some (.dat (optI p.2)), g5], rfl, ?_⟩
      have ni : ∀ (G : Gs) (z : Int), cmpT G .Is (.int z) .non = .ret (.bl false) := fun _ _ => rfl
      have e1 : em (Gn prog n) (.or (.cmp .Is (.var 3) (.con (.non))) (.and (.cmp .IsNot (.var 1) (.con (.non))) (.cmp .LtE (.var 3) (.var 1)))) [some (.dat (pcsD ps)), some (.dat (.int x)), some (.dat (.int (x + 1))), some (.dat (optI p.1)), some (.dat (optI p.2)), g5] = .ret (.bl (match p.1 with | none => true | some a => decide (a ≤ x))) := by
        obtain ⟨a, b⟩ := p
        cases a <;> simp [runT, sss, ss, em, ems, emT, emX, mVar, env0, dats, Tr.bind, Tr.of, tru_bl, endT, freeze, setT, setTs, optT, sz1, sz2, sz3, sz4, sz5, cm1, cm2, mulT, addT, eqT_str, tab_h, tab_d, n_wh_de, n_wh_wo, n_de_wh, n_de_wo, n_wo_wh, n_wo_de, optI, isN, ni, isntI, leI_]
      have e2 : ∀ t : Bool, emT (Gn prog n) (.and (.val (.var 5)) (.or (.cmp .Is (.var 4) (.con (.non))) (.and (.cmp .IsNot (.var 2) (.con (.non))) (.cmp .LtE (.var 2) (.var 4))))) [some (.dat (pcsD ps)), some (.dat (.int x)), some (.dat (.int (x + 1))), some (.dat (optI p.1)), some (.dat (optI p.2)), some (.dat (.bl t))] = .ret (t && match p.2 with | none => true | some b => decide (x < b)) := by
        intro t
        obtain ⟨a, b⟩ := p
        cases t
        · simp [runT, sss, ss, em, ems, emT, emX, mVar, env0, dats, Tr.bind, Tr.of, tru_bl, endT, freeze, setT, setTs, optT, sz1, sz2, sz3, sz4, sz5, cm1, cm2, mulT, addT, eqT_str, tab_h, tab_d, n_wh_de, n_wh_wo, n_de_wh, n_de_wo, n_wo_wh, n_wo_de]
        · cases b with
          | none => simp [runT, sss, ss, em, ems, emT, emX, mVar, env0, dats, Tr.bind, Tr.of, tru_bl, endT, freeze, setT, setTs, optT, sz1, sz2, sz3, sz4, sz5, cm1, cm2, mulT, addT, eqT_str, tab_h, tab_d, n_wh_de, n_wh_wo, n_de_wh, n_de_wo, n_wo_wh, n_wo_de, optI, isN]
          | some b =>
            have : decide (x + 1 ≤ b) = decide (x < b) := by
              by_cases q : x < b
              · rw [decide_eq_true q]; exact decide_eq_true (by omega)
              · rw [decide_eq_false q]; exact decide_eq_false (by omega)
            simp [runT, sss, ss, em, ems, emT, emX, mVar, env0, dats, Tr.bind, Tr.of, tru_bl, endT, freeze, setT, setTs, optT, sz1, sz2, sz3, sz4, sz5, cm1, cm2, mulT, addT, eqT_str, tab_h, tab_d, n_wh_de, n_wh_wo, n_de_wh, n_de_wo, n_wo_wh, n_wo_de, optI, ni, isntI, leI_, this]
      have e3 := e2 (match p.1 with | none => true | some a => decide (a ≤ x))
      refine ⟨fun hp => ?_, fun hp => ?_⟩
      · rw [st_asg (by exact e1), st_if (b := true) (by refine e3.trans ?_; exact congrArg Tr.ret hp)]
        simp only [if_true, List.cons_append, List.nil_append]
        exact st_ret (by simp [runT, sss, ss, em, ems, emT, emX, mVar, env0, dats, Tr.bind, Tr.of, tru_bl, endT, freeze, setT, setTs, optT, sz1, sz2, sz3, sz4, sz5, cm1, cm2, mulT, addT, eqT_str, tab_h, tab_d, n_wh_de, n_wh_wo, n_de_wh, n_de_wo, n_wo_wh, n_wo_de])
      · refine ⟨_, ?_, ⟨some (.dat (optI p.1)), some (.dat (optI p.2)), some (.dat (.bl (match p.1 with | none => true | some a => decide (a ≤ x)))), rfl⟩⟩
        rw [st_asg (by exact e1), st_if (b := false) (by refine e3.trans ?_; exact congrArg Tr.ret hp)]
        rfl) [some (.dat (pcsD ps)), some (.dat (.int x)), some (.dat (.int (x + 1))), none, none, none] ⟨none, none, none, rfl⟩
  cases q : ps.any (inP x) with
  | true =>
    rw [st_forR (ds := ps.map pcD) (d := .bl true) (by simp [runT, sss, ss, em, ems, emT, emX, mVar, env0, dats, Tr.bind, Tr.of, tru_bl, endT, freeze, setT, setTs, optT, sz1, sz2, sz3, sz4, sz5, cm1, cm2, mulT, addT, eqT_str, tab_h, tab_d, n_wh_de, n_wh_wo, n_de_wh, n_de_wo, n_wo_wh, n_wo_de, emI, itemsT, itemsD, pcsD]) (by exact L.1 q)]
    rw [show has ps x = true from q]
  | false =>
    obtain ⟨env', h1, g3, g4, g5, rfl⟩ := L.2 q
    rw [st_for (ds := ps.map pcD) (by simp [runT, sss, ss, em, ems, emT, emX, mVar, env0, dats, Tr.bind, Tr.of, tru_bl, endT, freeze, setT, setTs, optT, sz1, sz2, sz3, sz4, sz5, cm1, cm2, mulT, addT, eqT_str, tab_h, tab_d, n_wh_de, n_wh_wo, n_de_wh, n_de_wo, n_wo_wh, n_wo_de, emI, itemsT, itemsD, pcsD]) (by exact h1)]
    rw [show has ps x = false from q]
    exact st_ret (by simp [runT, sss, ss, em, ems, emT, emX, mVar, env0, dats, Tr.bind, Tr.of, tru_bl, endT, freeze, setT, setTs, optT, sz1, sz2, sz3, sz4, sz5, cm1, cm2, mulT, addT, eqT_str, tab_h, tab_d, n_wh_de, n_wh_wo, n_de_wh, n_de_wo, n_wo_wh, n_wo_de])
theorem s_is_in {l : Ln} {ps : List Pc} {p : Po} (hl : ps.length ≤ 1000) (h : PoOk l p) : callT ((Gn prog (n + 5)).fn "is_in") [l.d, pcsD ps, p.d] = .ret (.bl (has ps (spot l p))) := by
  rw [lk_fn_is_in, callE rfl rfl]
  refine run_of ?_
  unfold ir_fn_is_in
  have A := s_no_value (n + 3) p
  have B := s_is_point n h
  have C := s_around (n + 2) h
  have D := s_between (n + 3) ps hl (spot l p)
  show sss (Gn prog (n + 4)) _ [some (.dat l.d), some (.dat (pcsD ps)), some (.dat p.d), none, none] = _
  rw [st_no (by simp [runT, sss, ss, em, ems, emT, emX, mVar, env0, dats, Tr.bind, Tr.of, tru_bl, endT, freeze, setT, setTs, optT, sz1, sz2, sz3, sz4, sz5, cm1, cm2, mulT, addT, eqT_str, tab_h, tab_d, n_wh_de, n_wh_wo, n_de_wh, n_de_wo, n_wo_wh, n_wo_de, A]), st_no (by simp [runT, sss, ss, em, ems, emT, emX, mVar, env0, dats, Tr.bind, Tr.of, tru_bl, endT, freeze, setT, setTs, optT, sz1, sz2, sz3, sz4, sz5, cm1, cm2, mulT, addT, eqT_str, tab_h, tab_d, n_wh_de, n_wh_wo, n_de_wh, n_de_wo, n_wo_wh, n_wo_de, B]), st_asg2 (x := .int (spot l p)) (y := .int (spot l p + 1)) (by simp [runT, sss, ss, em, ems, emT, emX, mVar, env0, dats, Tr.bind, Tr.of, tru_bl, endT, freeze, setT, setTs, optT, sz1, sz2, sz3, sz4, sz5, cm1, cm2, mulT, addT, eqT_str, tab_h, tab_d, n_wh_de, n_wh_wo, n_de_wh, n_de_wo, n_wo_wh, n_wo_de, C])]
  exact st_ret (by simp [runT, sss, ss, em, ems, emT, emX, mVar, env0, dats, Tr.bind, Tr.of, tru_bl, endT, freeze, setT, setTs, optT, sz1, sz2, sz3, sz4, sz5, cm1, cm2, mulT, addT, eqT_str, tab_h, tab_d, n_wh_de, n_wh_wo, n_de_wh, n_de_wo, n_wo_wh, n_wo_de, D])
theorem s_in {v : Val} (hv : v.ok) {p : Po} (h : PoOk v.l p) : cmpT (Gn prog (n + 6)) .In p.d v.d = .ret (.bl (has v.ps (spot v.l p))) := by
  obtain ⟨l, r, ps⟩ := v
  obtain ⟨h1, h2, h3, h4⟩ := hv
  have I := s_is_in n h3 h
  have nl : isLst p.d = false := by cases p <;> rfl
  cases r with
  | true =>
    have h5 : ps.length ≤ 1 := h4 rfl
    have L := attL (n + 5) l (ps.head?.map toC)
    have P := s_pieces_in (n + 4) l (ps.head?.map toC)
    rw [pieces_toC, head_list h5] at P
    have key : callT ((Gn prog (n + 6)).met "Range" "__contains__") [rangeD l (ps.head?.map toC), p.d] = .ret (.bl (has ps (spot l p))) := by
      rw [lk_met_Rangeu_containsu, callE rfl rfl]
      refine run_ret ?_
      unfold ir_met_Rangeu_containsu
      simp [runT, sss, ss, em, ems, emT, emX, mVar, env0, dats, Tr.bind, Tr.of, tru_bl, endT, freeze, setT, setTs, optT, sz1, sz2, sz3, sz4, sz5, cm1, cm2, mulT, addT, eqT_str, tab_h, tab_d, n_wh_de, n_wh_wo, n_de_wh, n_de_wo, n_wo_wh, n_wo_de, L, P, I]
    show cmpT (Gn prog (n + 6)) .In p.d (.obj "Range" (rangeF l (ps.head?.map toC))) = _
    have key' : callT ((Gn prog (n + 6)).met (Str.ofString "Range") (Str.ofString "__contains__")) [.obj (Str.ofString "Range") (rangeF l (ps.head?.map toC)), p.d] = .ret (.bl (has ps (spot l p))) := key
    simp only [cmpT, nl, Bool.false_eq_true, if_false, key', Tr.bind, blT]
  | false =>
    have L := attS1 (n + 5) l ps
    have P := attS2 (n + 5) l ps
    have key : callT ((Gn prog (n + 6)).met "RangeSet" "__contains__") [setD l ps, p.d] = .ret (.bl (has ps (spot l p))) := by
      rw [lk_met_RangeSetu_containsu, callE rfl rfl]
      refine run_ret ?_
      unfold ir_met_RangeSetu_containsu
      simp [runT, sss, ss, em, ems, emT, emX, mVar, env0, dats, Tr.bind, Tr.of, tru_bl, endT, freeze, setT, setTs, optT, sz1, sz2, sz3, sz4, sz5, cm1, cm2, mulT, addT, eqT_str, tab_h, tab_d, n_wh_de, n_wh_wo, n_de_wh, n_de_wo, n_wo_wh, n_wo_de, L, P, I]
    show cmpT (Gn prog (n + 6)) .In p.d (.obj "RangeSet" (setF l ps)) = _
    have key' : callT ((Gn prog (n + 6)).met (Str.ofString "RangeSet") (Str.ofString "__contains__")) [.obj (Str.ofString "RangeSet") (setF l ps), p.d] = .ret (.bl (has ps (spot l p))) := key
    simp only [cmpT, nl, Bool.false_eq_true, if_false, key', Tr.bind, blT]
end
end Rc

-- Pk09m
set_option Elab.async false
set_option linter.all false
set_option maxRecDepth 100000
set_option maxHeartbeats 1000000
namespace Rc
open PySem PySem.Spec PyProof.Rows L2
theorem leT (G : Gs) {m m' : Nat} {l : Ln} {p q : Pt} (hp : okP m l p) (hq : okP m' l q) : cmpT G .LtE p.d q.d = .ret (.bl (!gtP p q)) := by
  cases l <;> cases p <;> cases q <;> first | (exact hp.elim) | (exact hq.elim) | skip
  · rename_i x y
    simp [cmpT, cmpD, leD, Pt.d, gtP, Tr.of]
    by_cases h : x ≤ y
    · have h' : ¬ y < x := by omega
      simp [h, h']
    · have h' : y < x := by omega
      simp [h, h']
  · rename_i x y
    simp [cmpT, cmpD, leD, Pt.d, gtP, Tr.of]
    by_cases h : x ≤ y
    · have h' : ¬ y < x := by omega
      simp [h, h']
    · have h' : y < x := by omega
      simp [h, h']
  · rfl
theorem gt_asym {p q : Pt} (h : gtP p q = true) : gtP q p = false := by
  cases p <;> cases q <;> simp [gtP] at h ⊢
  · omega
  · exact List.le_of_lt h
theorem in2 (G : Gs) (i x y : Int) : cmpT G .In (.int i) (.tup [.int x, .int y]) = .ret (.bl (decide (i = x ∨ i = y))) := by
  simp [cmpT, inD, memD, Tr.of, okD, plainD, depD, eqB, toPy, PyData.eqv]
  have f : ∀ z : Int, flatD (.int z) = true := fun _ => rfl
  simp only [f, and_self, if_true]
  congr 2
  by_cases h : i = x <;> by_cases h2 : i = y <;> simp [h, h2]
  exact ⟨fun z => h z.symm, fun z => h2 z.symm⟩
section
variable (n : Nat)
theorem take_t (m : Int) : callT ((Gn prog (n + 1)).fn "_law_take") [.pot, .int m] = .ask m fun i => .ret (.int i) := by
  cases n <;> kernel_rfl
theorem ok_take (m : Int) (h1 : 0 < m) (h2 : m < 2 ^ 30) : Kp (fun d => ∃ i : Int, d = .int i ∧ 0 ≤ i ∧ i < m) 1 (callT ((Gn prog (n + 1)).fn "_law_take") [.pot, .int m]) := by
  rw [take_t]
  exact .ask h1 h2 fun i a b => .ret ⟨i, rfl, a, b⟩
theorem ok_of (ds : List D) (h1 : 0 < ds.length) (h2 : ds.length ≤ 1000) : Kp (fun d => d ∈ ds) 1 (callT ((Gn prog (n + 2)).fn "_law_of") [.pot, .lst ds]) := by
  rw [lk_fnulaw_of, callE rfl rfl]
  have z : ds.length ≤ sizeLine := Nat.le_trans h2 (by decide)
  have hl : bifT (Gn prog (n + 1)) .len [.lst ds] = .ret (.int ds.length) := by
    simp [bifT, lenD, Tr.of, z]
  have e : runT (Gn prog (n + 1)) ir_fnulaw_of.m ir_fnulaw_of.ir [.pot, .lst ds] = .ask ds.length fun i => (Tr.of (ixD (.lst ds) (.int i))) := by
    unfold ir_fnulaw_of
    simp [runT, sss, ss, em, ems, emT, emX, mVar, env0, dats, Tr.bind, Tr.of, tru_bl, endT, freeze, setT, setTs, optT, sz1, sz2, sz3, sz4, sz5, cm1, cm2, mulT, addT, eqT_str, tab_h, tab_d, n_wh_de, n_wh_wo, n_de_wh, n_de_wo, n_wo_wh, n_wo_de, hl, take_t n]
    funext i
    cases ixD (.lst ds) (.int i) <;> simp [Tr.of, Tr.bind, endT]
  rw [e]
  refine .ask (by omega) (by omega) fun i a b => ?_
  have q : ixD (.lst ds) (.int i) = some (ds[i.toNat]'(by omega)) := by
    simp only [ixD, z, if_true, atI, ixN, if_pos a]
    rw [if_pos (by omega)]
    simp
  rw [q]
  exact .ret (List.getElem_mem _)
def smP (B : Int) : Pt → Prop
  | .i x => -B ≤ x ∧ x ≤ B
  | .s _ => True
def smO (B : Int) : Option Pt → Prop
  | none => True
  | some p => smP B p
theorem smP.le {B B' : Int} {p : Pt} (h : smP B p) (hb : B ≤ B') : smP B' p := by
  cases p with
  | i x =>
    have h' : -B ≤ x ∧ x ≤ B := h
    show -B' ≤ x ∧ x ≤ B'
    omega
  | s x => trivial
theorem smO.le {B B' : Int} {p : Option Pt} (h : smO B p) (hb : B ≤ B') : smO B' p := by
  cases p with
  | none => trivial
  | some p => exact smP.le h hb
end
theorem ok_brs (n : Nat) : Kp (fun d => ∃ b : Br, d = b.d) 1 (callT ((Gn prog (n + 2)).fn "_law_of") [.pot, .lst [.str "[)", .str "[]", .str "(]", .str "()", .str "[)"]]) := by
  refine (ok_of n _ (by decide) (by decide)).im (Nat.le_refl _) fun d hd => ?_
  have : d = .str "[)" ∨ d = .str "[]" ∨ d = .str "(]" ∨ d = .str "()" ∨ d = .str "[)" := by simpa using hd
  rcases this with rfl | rfl | rfl | rfl | rfl
  · exact ⟨.co, rfl⟩
  · exact ⟨.cc, rfl⟩
  · exact ⟨.oc, rfl⟩
  · exact ⟨.oo, rfl⟩
  · exact ⟨.co, rfl⟩
end Rc

-- Pk09n
set_option Elab.async false
set_option linter.all false
set_option maxRecDepth 100000
set_option maxHeartbeats 1000000
namespace Rc
open PySem PySem.Spec PyProof.Rows L2
/-! ### ranges as typed: ints -/
structure Ty where
  lo : Cu
  hi : Cu
  b : Br
def Ty.d (t : Ty) : D := .tup [optI t.lo, optI t.hi, t.b.d]
def Ty.ok (t : Ty) : Prop := ∀ x y, t.lo = some x → t.hi = some y → x ≤ y
/-- its cuts, be there points between them or not -/
def Ty.cut (l : Ln) (t : Ty) : Pc := (t.lo.map fun x => x * stepI l + (if t.b.lo then 0 else 1), t.hi.map fun x => x * stepI l + (if t.b.hi then 1 else 0))
def Ty.cuts (l : Ln) (t : Ty) : Option Pc := if fullP (t.cut l) then some (t.cut l) else none
theorem cuts_eq {l : Ln} (h : Num l) (t : Ty) : cutsS l (toP t.lo) (toP t.hi) t.b = (t.cuts l).map toC := by
  obtain ⟨lo, hi, b⟩ := t
  unfold Ty.cuts Ty.cut
  rcases h with rfl | rfl
  · cases lo with
    | none =>
      cases hi with
      | none => rfl
      | some y => cases b <;> simp [cutsS, firstS, lastS, toP, Br.hi, aheadS, behindS, fullP, toC, stepI]
    | some x =>
      cases hi with
      | none => cases b <;> simp [cutsS, firstS, toP, Br.lo, aheadS, behindS, fullP, toC, stepI]
      | some y =>
        cases b <;> simp [cutsS, firstS, lastS, toP, Br.lo, Br.hi, aheadS, behindS, fullP, toC, stepI, geP] <;> split <;> split <;> first | rfl | omega
  · cases lo with
    | none =>
      cases hi with
      | none => rfl
      | some y => cases b <;> simp [cutsS, firstS, lastS, toP, Br.hi, aheadS, behindS, fullP, toC, stepI]
    | some x =>
      cases hi with
      | none => cases b <;> simp [cutsS, firstS, toP, Br.lo, aheadS, behindS, fullP, toC, stepI]
      | some y =>
        cases b <;> simp [cutsS, firstS, lastS, toP, Br.lo, Br.hi, aheadS, behindS, fullP, toC, stepI, geP] <;> split <;> split <;> first | rfl | omega
theorem Ty.turn {t : Ty} (h : t.ok) : notTurned (toP t.lo) (toP t.hi) := by
  obtain ⟨lo, hi, b⟩ := t
  intro p q e1 e2
  cases lo with
  | none => cases e1
  | some x =>
    cases hi with
    | none => cases e2
    | some y =>
      cases e1; cases e2
      have := h x y rfl rfl
      show decide (y < x) = false
      exact decide_eq_false (by omega)
section
variable (n : Nat)
theorem s_mkT {l : Ln} (h : Num l) {t : Ty} (ht : t.ok) : mkT "Range" ((Gn prog (n + 4)).mak "Range") [l.d, optI t.lo, optI t.hi, t.b.d] = .ret (rangeI l (t.cuts l)) := by
  have M := s_mk4 n (m := 0) (by decide) l (toP t.lo) (toP t.hi) t.b (okO_toP h _) (okO_toP h _) (Ty.turn ht)
  rw [cuts_eq h t, optD_toP, optD_toP] at M
  exact M
theorem s_made {l : Ln} (h : Num l) {ts : List Ty} (ht : ∀ t ∈ ts, t.ok) (hl : ts.length ≤ 1000) : callT ((Gn prog (n + 7)).fn "_law_made") [l.d, .tup (ts.map Ty.d)] = .ret (setD l (normalI (flat (ts.map (Ty.cuts l))))) := by
  rw [lk_fnulaw_made, callE rfl rfl]
  refine run_ret ?_
  unfold ir_fnulaw_made
  show em (Gn prog (n + 6)) _ [some (.dat l.d), some (.dat (.tup (ts.map Ty.d))), none, none, none] = _
  have hz : (ts.map Ty.d).length ≤ sizeLine := by rw [List.length_map]; exact Nat.le_trans hl (by decide)
  have W : em (Gn prog (n + 6)) (.lc (.tup [(.name 2), (.name 3), (.name 4)]) [("_law_low", 2), ("_law_high", 3), ("_law_ends", 4)] (.items (.var 1)) .no (.mk "Range" [(.var 0), (.var 2), (.var 3), (.var 4)])) [some (.dat l.d), some (.dat (.tup (ts.map Ty.d))), none, none, none] = .ret (.lst (ts.map fun t => rangeI l (t.cuts l))) := by
    refine em_lcE (ds := ts.map Ty.d) (by simp [runT, sss, ss, em, ems, emT, emX, mVar, env0, dats, Tr.bind, Tr.of, tru_bl, endT, freeze, setT, setTs, optT, sz1, sz2, sz3, sz4, sz5, cm1, cm2, mulT, addT, eqT_str, tab_h, tab_d, n_wh_de, n_wh_wo, n_de_wh, n_de_wo, n_wo_wh, n_wo_de, emI, itemsT, itemsD]) hz ?_
    refine lc_map fun t hm => ⟨[some (.dat l.d), some (.dat (.tup (ts.map Ty.d))), some (.dat (optI t.lo)), some (.dat (optI t.hi)), some (.dat t.b.d)], rfl, rfl, ?_⟩
    exact (em_mk (ems4 rfl rfl rfl rfl)).trans (s_mkT (n + 2) h (ht t hm))
  have M := s_mkS n h (ts.map (Ty.cuts l)) (by simpa using hl)
  rw [List.map_map] at M
  have W2 : em (Gn prog (n + 6)) (.bi .tuple [(.lc (.tup [(.name 2), (.name 3), (.name 4)]) [("_law_low", 2), ("_law_high", 3), ("_law_ends", 4)] (.items (.var 1)) .no (.mk "Range" [(.var 0), (.var 2), (.var 3), (.var 4)]))]) [some (.dat l.d), some (.dat (.tup (ts.map Ty.d))), none, none, none] = .ret (.tup (ts.map fun t => rangeI l (t.cuts l))) := (em_bi W).trans rfl
  exact (em_mk (by simp only [ems, W2, Tr.bind]; rfl)).trans M
end
/-- what typed ranges have -/
def hasT (l : Ln) (ts : List Ty) (x : Int) : Bool := ts.any fun t => inP x (t.cut l)
theorem has_flat (l : Ln) (x : Int) : ∀ ts : List Ty, has (flat (ts.map (Ty.cuts l))) x = hasT l ts x
  | [] => rfl
  | t :: ts => by
    have ih := has_flat l x ts
    have e : flat ((t :: ts).map (Ty.cuts l)) = (t.cuts l).toList ++ flat (ts.map (Ty.cuts l)) := rfl
    rw [e]
    unfold has at ih ⊢
    rw [List.any_append, ih]
    show _ = (inP x (t.cut l) || hasT l ts x)
    congr 1
    unfold Ty.cuts
    cases q : fullP (t.cut l) with
    | true => simp
    | false => simp [in_full q]
/-! ### the law's own look at typed ranges -/
/-- fractions that are none of the whole numbers -/
def PoW : Po → Prop
  | .n _ => True
  | .q a d => (d = 2 ∨ d = 3 ∨ d = 9) ∧ a % d ≠ 0
def keyI : Po → Int
  | .n k => k * 2520
  | .q a d => a * (2520 / d)
theorem isi_ii (x : Int) : isiD p_known [.int x, .ty "str"] = some (.bl false) := by kernel_rfl
section
variable (n : Nat)
theorem s_key {p : Po} (h : PoW p) : callT ((Gn prog (n + 1)).fn "_law_key") [p.d] = .ret (.int (keyI p)) := by
  rw [lk_fnulaw_key, callE rfl rfl]
  refine run_of ?_
  unfold ir_fnulaw_key
  have kN := kn n
  cases p with
  | n k =>
    rw [st_no (by simp [runT, sss, ss, em, ems, emT, emX, mVar, env0, dats, Tr.bind, Tr.of, tru_bl, endT, freeze, setT, setTs, optT, sz1, sz2, sz3, sz4, sz5, cm1, cm2, mulT, addT, eqT_str, tab_h, tab_d, n_wh_de, n_wh_wo, n_de_wh, n_de_wo, n_wo_wh, n_wo_de, Po.d, gl_tuple, kN, isi_it])]
    have mu : binT (Gn prog n) .Mult (.int k) (.int 2520) = .ret (.int (k * 2520)) := mulT _ (.inr (by decide))
    exact st_ret (by simp [runT, sss, ss, em, ems, emT, emX, mVar, env0, dats, Tr.bind, Tr.of, tru_bl, endT, freeze, setT, setTs, optT, sz1, sz2, sz3, sz4, sz5, cm1, cm2, mulT, addT, eqT_str, tab_h, tab_d, n_wh_de, n_wh_wo, n_de_wh, n_de_wo, n_wo_wh, n_wo_de, Po.d, gl_str, kN, isi_ii, mu, keyI])
  | q a d =>
    obtain ⟨h1, _⟩ := h
    have dv : binT (Gn prog n) .FloorDiv (.int 2520) (.int d) = .ret (.int (2520 / d)) := by
      have hd : CDiv 2520 d := by rcases h1 with rfl | rfl | rfl <;> exact ⟨by decide, by decide⟩
      simp only [binT, binD, fdivD, if_pos hd, Tr.of]
    have mu : binT (Gn prog n) .Mult (.int a) (.int (2520 / d)) = .ret (.int (a * (2520 / d))) := mulT _ (.inr (by rcases h1 with rfl | rfl | rfl <;> decide))
    exact st_yes (by simp [runT, sss, ss, em, ems, emT, emX, mVar, env0, dats, Tr.bind, Tr.of, tru_bl, endT, freeze, setT, setTs, optT, sz1, sz2, sz3, sz4, sz5, cm1, cm2, mulT, addT, eqT_str, tab_h, tab_d, n_wh_de, n_wh_wo, n_de_wh, n_de_wo, n_wo_wh, n_wo_de, Po.d, gl_tuple, kN, isi_tup]) (by simp [runT, sss, ss, em, ems, emT, emX, mVar, env0, dats, Tr.bind, Tr.of, tru_bl, endT, freeze, setT, setTs, optT, sz1, sz2, sz3, sz4, sz5, cm1, cm2, mulT, addT, eqT_str, tab_h, tab_d, n_wh_de, n_wh_wo, n_de_wh, n_de_wo, n_wo_wh, n_wo_de, Po.d, ix0, ix1, dv, mu, keyI])
/-- begun, past, by the keys -/
def begunB (t : Ty) (x : Int) : Bool := match t.lo with
  | none => true
  | some a => decide (a * 2520 < x) || (decide (a * 2520 = x) && t.b.lo)
def pastB (t : Ty) (x : Int) : Bool := match t.hi with
  | none => false
  | some a => decide (a * 2520 < x) || (decide (a * 2520 = x) && !t.b.hi)
theorem or_and (a b : Prop) [Decidable a] [Decidable b] (c : Bool) : ((decide a || (decide b && c)) = true) ↔ a ∨ (b ∧ c = true) := by
  simp only [Bool.or_eq_true, Bool.and_eq_true, decide_eq_true_eq]
/-- an end against a point: by keys, and by cuts -/
theorem end_key {l : Ln} (h : Num l) {p : Po} (hp : PoW p) (hd : l = .whole → ∃ k, p = .n k) (a : Int) (c : Bool) : (decide (a * 2520 < keyI p) || (decide (a * 2520 = keyI p) && c)) = decide (a * stepI l + (if c then 0 else 1) ≤ spot l p) := by
  rw [Bool.eq_iff_iff, or_and, decide_eq_true_eq]
  rcases h with rfl | rfl
  · obtain ⟨k, rfl⟩ := hd rfl
    cases c
    · show a * 2520 < k * 2520 ∨ (a * 2520 = k * 2520 ∧ false = true) ↔ a * 1 + 1 ≤ k * 1
      simp only [Bool.false_eq_true, and_false, or_false]
      omega
    · show a * 2520 < k * 2520 ∨ (a * 2520 = k * 2520 ∧ true = true) ↔ a * 1 + 0 ≤ k * 1
      simp only [and_true]
      omega
  · cases p with
    | n k =>
      cases c
      · show a * 2520 < k * 2520 ∨ (a * 2520 = k * 2520 ∧ false = true) ↔ a * 2 + 1 ≤ k * 2
        simp only [Bool.false_eq_true, and_false, or_false]
        omega
      · show a * 2520 < k * 2520 ∨ (a * 2520 = k * 2520 ∧ true = true) ↔ a * 2 + 0 ≤ k * 2
        simp only [and_true]
        omega
    | q u d =>
      obtain ⟨h1, h2⟩ := hp
      have e : (a * 2520 < u * (2520 / d) ∨ (a * 2520 = u * (2520 / d) ∧ c = true)) ↔ a ≤ u / d := by
        rcases h1 with rfl | rfl | rfl
        · have : (2520 : Int) / 2 = 1260 := by decide
          rw [this]; omega
        · have : (2520 : Int) / 3 = 840 := by decide
          rw [this]; omega
        · have : (2520 : Int) / 9 = 280 := by decide
          rw [this]; omega
      show (a * 2520 < u * (2520 / d) ∨ (a * 2520 = u * (2520 / d) ∧ c = true)) ↔ a * 2 + (if c = true then 0 else 1) ≤ 2 * (u / d) + 1
      rw [e]
      cases c
      · simp only [Bool.false_eq_true, if_false]; omega
      · simp only [if_true]; omega
theorem key_in {l : Ln} (h : Num l) (t : Ty) {p : Po} (hp : PoW p) (hd : l = .whole → ∃ k, p = .n k) : (begunB t (keyI p) && !pastB t (keyI p)) = inP (spot l p) (t.cut l) := by
  obtain ⟨lo, hi, b⟩ := t
  unfold inP
  congr 1
  · cases lo with
    | none => rfl
    | some a => exact end_key h hp hd a b.lo
  · cases hi with
    | none => rfl
    | some a =>
      show (!(decide (a * 2520 < keyI p) || (decide (a * 2520 = keyI p) && !b.hi))) = decide (spot l p < a * stepI l + (if b.hi then 1 else 0))
      rw [end_key h hp hd a (!b.hi)]
      rw [Bool.eq_iff_iff, decide_eq_true_eq, Bool.not_eq_true', decide_eq_false_iff_not]
      cases b.hi
      · simp only [Bool.not_false, if_true, Bool.false_eq_true, if_false]; omega
      · simp only [Bool.not_true, if_true, Bool.false_eq_true, if_false]; omega
end
end Rc

-- Pk09o
set_option Elab.async false
set_option linter.all false
set_option maxRecDepth 100000
set_option maxHeartbeats 1000000
namespace Rc
open PySem PySem.Spec PyProof.Rows L2
theorem hi_eq3 (b : Br) : (hiS b = Str.ofString ")") = (b.hi = false) := by
  cases b <;> exact propext ⟨fun h => by first | rfl | exact absurd h (by decide +kernel), fun h => by first | rfl | cases h⟩
theorem ixb0 (a b : D) (c : D) : ixD (.tup [a, b, c]) (.int 0) = some a := rfl
section
variable (n : Nat)
theorem s_has {l : Ln} (h : Num l) (ts : List Ty) {p : Po} (hp : PoW p) (hd : l = .whole → ∃ k, p = .n k) : callT ((Gn prog (n + 2)).fn "_law_has") [.tup (ts.map Ty.d), p.d] = .ret (.bl (hasT l ts (spot l p))) := by
  rw [lk_fnulaw_has, callE rfl rfl]
  refine run_of ?_
  unfold ir_fnulaw_has
  show sss (Gn prog (n + 1)) _ [some (.dat (.tup (ts.map Ty.d))), some (.dat p.d), none, none, none, none, none, none] = _
  have K := s_key n hp
  have KI : ∀ x : Int, callT ((Gn prog (n + 1)).fn "_law_key") [.int x] = .ret (.int (x * 2520)) := fun x => s_key n (p := .n x) trivial
  rw [st_asg (d := .int (keyI p)) (by simp [runT, sss, ss, em, ems, emT, emX, mVar, env0, dats, Tr.bind, Tr.of, tru_bl, endT, freeze, setT, setTs, optT, sz1, sz2, sz3, sz4, sz5, cm1, cm2, mulT, addT, eqT_str, tab_h, tab_d, n_wh_de, n_wh_wo, n_de_wh, n_de_wo, n_wo_wh, n_wo_de, K])]
  generalize hk : keyI p = kx
  have L := loop_findM (tg := .tup [(.name 3), (.name 4), (.name 5)]) (body := sss (Gn prog (n + 1)) [.asg (.name 6) (.or (.cmp .Is (.var 3) (.con (.non))) (.or (.cmp .Lt (.call "_law_key" [(.var 3)]) (.var 2)) (.and (.cmp .Eq (.call "_law_key" [(.var 3)]) (.var 2)) (.cmp .Eq (.ix (.var 5) (.con (.int (0)))) (.con (.str "[")))))), .asg (.name 7) (.and (.cmp .IsNot (.var 4) (.con (.non))) (.or (.cmp .Lt (.call "_law_key" [(.var 4)]) (.var 2)) (.and (.cmp .Eq (.call "_law_key" [(.var 4)]) (.var 2)) (.cmp .Eq (.ix (.var 5) (.con (.int (1)))) (.con (.str ")")))))), .iff (.and (.val (.var 6)) (.not (.val (.var 7)))) [.ret (.con (.bl true))] []])
    (R := fun env => ∃ g3 g4 g5 g6 g7 : Option EV, env = [some (.dat (.tup (ts.map Ty.d))), some (.dat p.d), some (.dat (.int kx)), g3, g4, g5, g6, g7]) (d0 := .bl true) (f := Ty.d) (p := fun t => begunB t kx && !pastB t kx) ts (by
      rintro t env _ ⟨g3, g4, g5, g6, g7, rfl⟩
      refine ⟨[some (.dat (.tup (ts.map Ty.d))), some (.dat p.d), some (.dat (.int kx)), some (.dat (optI t.lo)), some (.dat (optI t.hi)), some (.dat t.b.d), g6, g7], rfl, ?_⟩
      have ni : ∀ (G : Gs) (z : Int), cmpT G .Is (.int z) .non = .ret (.bl false) := fun _ _ => rfl
      have e1 : em (Gn prog (n + 1)) (.or (.cmp .Is (.var 3) (.con (.non))) (.or (.cmp .Lt (.call "_law_key" [(.var 3)]) (.var 2)) (.and (.cmp .Eq (.call "_law_key" [(.var 3)]) (.var 2)) (.cmp .Eq (.ix (.var 5) (.con (.int (0)))) (.con (.str "[")))))) [some (.dat (.tup (ts.map Ty.d))), some (.dat p.d), some (.dat (.int kx)), some (.dat (optI t.lo)), some (.dat (optI t.hi)), some (.dat t.b.d), g6, g7] = .ret (.bl (begunB t kx)) := by
        obtain ⟨a, c, b⟩ := t
        cases a with
        | none => simp [runT, sss, ss, em, ems, emT, emX, mVar, env0, dats, Tr.bind, Tr.of, tru_bl, endT, freeze, setT, setTs, optT, sz1, sz2, sz3, sz4, sz5, cm1, cm2, mulT, addT, eqT_str, tab_h, tab_d, n_wh_de, n_wh_wo, n_de_wh, n_de_wo, n_wo_wh, n_wo_de, optI, isN, begunB]
        | some x =>
          by_cases q1 : x * 2520 < kx
          · simp [runT, sss, ss, em, ems, emT, emX, mVar, env0, dats, Tr.bind, Tr.of, tru_bl, endT, freeze, setT, setTs, optT, sz1, sz2, sz3, sz4, sz5, cm1, cm2, mulT, addT, eqT_str, tab_h, tab_d, n_wh_de, n_wh_wo, n_de_wh, n_de_wo, n_wo_wh, n_wo_de, optI, ni, KI, ltI_, begunB, q1]
          · by_cases q2 : x * 2520 = kx
            · cases q3 : b.lo <;> simp [runT, sss, ss, em, ems, emT, emX, mVar, env0, dats, Tr.bind, Tr.of, tru_bl, endT, freeze, setT, setTs, optT, sz1, sz2, sz3, sz4, sz5, cm1, cm2, mulT, addT, eqT_str, tab_h, tab_d, n_wh_de, n_wh_wo, n_de_wh, n_de_wo, n_wo_wh, n_wo_de, optI, ni, KI, ltI_, eqT_int, begunB, q1, q2, ix_lo, lo_eq, q3]
            · simp [runT, sss, ss, em, ems, emT, emX, mVar, env0, dats, Tr.bind, Tr.of, tru_bl, endT, freeze, setT, setTs, optT, sz1, sz2, sz3, sz4, sz5, cm1, cm2, mulT, addT, eqT_str, tab_h, tab_d, n_wh_de, n_wh_wo, n_de_wh, n_de_wo, n_wo_wh, n_wo_de, optI, ni, KI, ltI_, eqT_int, begunB, q1, q2]
      have e2 : ∀ w : Option EV, em (Gn prog (n + 1)) (.and (.cmp .IsNot (.var 4) (.con (.non))) (.or (.cmp .Lt (.call "_law_key" [(.var 4)]) (.var 2)) (.and (.cmp .Eq (.call "_law_key" [(.var 4)]) (.var 2)) (.cmp .Eq (.ix (.var 5) (.con (.int (1)))) (.con (.str ")")))))) [some (.dat (.tup (ts.map Ty.d))), some (.dat p.d), some (.dat (.int kx)), some (.dat (optI t.lo)), some (.dat (optI t.hi)), some (.dat t.b.d), w, g7] = .ret (.bl (pastB t kx)) := by
        intro w
        obtain ⟨a, c, b⟩ := t
        cases c with
        | none => simp [runT, sss, ss, em, ems, emT, emX, mVar, env0, dats, Tr.bind, Tr.of, tru_bl, endT, freeze, setT, setTs, optT, sz1, sz2, sz3, sz4, sz5, cm1, cm2, mulT, addT, eqT_str, tab_h, tab_d, n_wh_de, n_wh_wo, n_de_wh, n_de_wo, n_wo_wh, n_wo_de, optI, isntN, pastB]
        | some x =>
          by_cases q1 : x * 2520 < kx
          · simp [runT, sss, ss, em, ems, emT, emX, mVar, env0, dats, Tr.bind, Tr.of, tru_bl, endT, freeze, setT, setTs, optT, sz1, sz2, sz3, sz4, sz5, cm1, cm2, mulT, addT, eqT_str, tab_h, tab_d, n_wh_de, n_wh_wo, n_de_wh, n_de_wo, n_wo_wh, n_wo_de, optI, isntI, KI, ltI_, pastB, q1]
          · by_cases q2 : x * 2520 = kx
            · cases q3 : b.hi <;> simp [runT, sss, ss, em, ems, emT, emX, mVar, env0, dats, Tr.bind, Tr.of, tru_bl, endT, freeze, setT, setTs, optT, sz1, sz2, sz3, sz4, sz5, cm1, cm2, mulT, addT, eqT_str, tab_h, tab_d, n_wh_de, n_wh_wo, n_de_wh, n_de_wo, n_wo_wh, n_wo_de, optI, isntI, KI, ltI_, eqT_int, pastB, q1, q2, ix_hi, hi_eq3, q3]
            · simp [runT, sss, ss, em, ems, emT, emX, mVar, env0, dats, Tr.bind, Tr.of, tru_bl, endT, freeze, setT, setTs, optT, sz1, sz2, sz3, sz4, sz5, cm1, cm2, mulT, addT, eqT_str, tab_h, tab_d, n_wh_de, n_wh_wo, n_de_wh, n_de_wo, n_wo_wh, n_wo_de, optI, isntI, KI, ltI_, eqT_int, pastB, q1, q2]
      have e3 := e2 (some (.dat (.bl (begunB t kx))))
      have e4 : ∀ u v : Bool, emT (Gn prog (n + 1)) (.and (.val (.var 6)) (.not (.val (.var 7)))) [some (.dat (.tup (ts.map Ty.d))), some (.dat p.d), some (.dat (.int kx)), some (.dat (optI t.lo)), some (.dat (optI t.hi)), some (.dat t.b.d), some (.dat (.bl u)), some (.dat (.bl v))] = .ret (u && !v) := by
        intro u v
        cases u <;> simp [runT, sss, ss, em, ems, emT, emX, mVar, env0, dats, Tr.bind, Tr.of, tru_bl, endT, freeze, setT, setTs, optT, sz1, sz2, sz3, sz4, sz5, cm1, cm2, mulT, addT, eqT_str, tab_h, tab_d, n_wh_de, n_wh_wo, n_de_wh, n_de_wo, n_wo_wh, n_wo_de]
      have e5 := e4 (begunB t kx) (pastB t kx)
      refine ⟨fun hq => ?_, fun hq => ?_⟩
      · rw [st_asg (by exact e1), st_asg (by exact e3), st_if (b := true) (by refine Eq.trans (by exact e5) ?_; exact congrArg Tr.ret hq)]
        simp only [if_true, List.cons_append, List.nil_append]
        exact st_ret (by simp [runT, sss, ss, em, ems, emT, emX, mVar, env0, dats, Tr.bind, Tr.of, tru_bl, endT, freeze, setT, setTs, optT, sz1, sz2, sz3, sz4, sz5, cm1, cm2, mulT, addT, eqT_str, tab_h, tab_d, n_wh_de, n_wh_wo, n_de_wh, n_de_wo, n_wo_wh, n_wo_de])
      · refine ⟨[some (.dat (.tup (ts.map Ty.d))), some (.dat p.d), some (.dat (.int kx)), some (.dat (optI t.lo)), some (.dat (optI t.hi)), some (.dat t.b.d), some (.dat (.bl (begunB t kx))), some (.dat (.bl (pastB t kx)))], ?_, ⟨_, _, _, _, _, rfl⟩⟩
        rw [st_asg (by exact e1), st_asg (by exact e3), st_if (b := false) (by refine Eq.trans (by exact e5) ?_; exact congrArg Tr.ret hq)]
        rfl) [some (.dat (.tup (ts.map Ty.d))), some (.dat p.d), some (.dat (.int kx)), none, none, none, none, none] ⟨none, none, none, none, none, rfl⟩
  have ea : (ts.any fun t => begunB t kx && !pastB t kx) = hasT l ts (spot l p) := by
    unfold hasT
    congr 1
    funext t
    rw [← hk]
    exact key_in h t hp hd
  rw [← ea]
  cases q : (ts.any fun t => begunB t kx && !pastB t kx) with
  | true =>
    rw [st_forR (ds := ts.map Ty.d) (d := .bl true) (by simp [runT, sss, ss, em, ems, emT, emX, mVar, env0, dats, Tr.bind, Tr.of, tru_bl, endT, freeze, setT, setTs, optT, sz1, sz2, sz3, sz4, sz5, cm1, cm2, mulT, addT, eqT_str, tab_h, tab_d, n_wh_de, n_wh_wo, n_de_wh, n_de_wo, n_wo_wh, n_wo_de, emI, itemsT, itemsD]) (by exact L.1 q)]
  | false =>
    obtain ⟨env', h1, g3, g4, g5, g6, g7, rfl⟩ := L.2 q
    rw [st_for (ds := ts.map Ty.d) (by simp [runT, sss, ss, em, ems, emT, emX, mVar, env0, dats, Tr.bind, Tr.of, tru_bl, endT, freeze, setT, setTs, optT, sz1, sz2, sz3, sz4, sz5, cm1, cm2, mulT, addT, eqT_str, tab_h, tab_d, n_wh_de, n_wh_wo, n_de_wh, n_de_wo, n_wo_wh, n_wo_de, emI, itemsT, itemsD]) (by exact h1)]
    exact st_ret (by simp [runT, sss, ss, em, ems, emT, emX, mVar, env0, dats, Tr.bind, Tr.of, tru_bl, endT, freeze, setT, setTs, optT, sz1, sz2, sz3, sz4, sz5, cm1, cm2, mulT, addT, eqT_str, tab_h, tab_d, n_wh_de, n_wh_wo, n_de_wh, n_de_wo, n_wo_wh, n_wo_de])
end
/-! ### probes -/
def intsP (i : Int) (m : Nat) : List Po := (List.range m).map fun (k : Nat) => .n (i + k)
def probesP : Ln → List Po
  | .whole => intsP (-9) 19 ++ [.n (-1000), .n 1000]
  | _ => intsP (-8) 17 ++ ((List.range 16).map fun (k : Nat) => Po.q (2 * ((k : Int) - 8) + 1) 2) ++ [.q 1 3, .q (-1) 9, .n (-1000), .n 1000]
theorem s_probes (n : Nat) {l : Ln} (h : Num l) : callT ((Gn prog (n + 1)).fn "_law_probes") [l.d] = .ret (.lst ((probesP l).map Po.d)) := by
  rcases h with rfl | rfl <;> cases n <;> kernel_rfl
def probeB : Ln → Po → Bool
  | .whole, .n _ => true
  | .dense, .n _ => true
  | .dense, .q a d => fracs.contains (a, d) && (decide (d = 2) || decide (d = 3) || decide (d = 9)) && decide (a % d ≠ 0)
  | _, _ => false
theorem probe_ok {l : Ln} (h : Num l) {p : Po} (hp : p ∈ probesP l) : PoOk l p ∧ PoW p ∧ (l = .whole → ∃ k, p = .n k) := by
  have q : (probesP l).all (probeB l) = true := by rcases h with rfl | rfl <;> decide +kernel
  have z := List.all_eq_true.mp q p hp
  rcases h with rfl | rfl
  · cases p with
    | n k => exact ⟨trivial, trivial, fun _ => ⟨k, rfl⟩⟩
    | q a d => cases z
  · cases p with
    | n k => exact ⟨trivial, trivial, fun e => by cases e⟩
    | q a d =>
      simp only [probeB, Bool.and_eq_true, Bool.or_eq_true, decide_eq_true_eq] at z
      refine ⟨?_, ⟨?_, z.2⟩, fun e => by cases e⟩
      · show (a, d) ∈ fracs
        simpa using z.1.1
      · rcases z.1.2 with (h | h) | h
        · exact .inl h
        · exact .inr (.inl h)
        · exact .inr (.inr h)
def Po.less (m : Int) : Po → Po
  | .n k => .n (k - m)
  | .q a d => .q (a - m * d) d
def Po.neg : Po → Po
  | .n k => .n (-k)
  | .q a d => .q (-a) d
theorem less_ok {l : Ln} (h : Num l) {p : Po} (m : Int) (hp : PoW p) (hd : l = .whole → ∃ k, p = .n k) : PoW (p.less m) ∧ (l = .whole → ∃ k, p.less m = .n k) ∧ spot l (p.less m) = spot l p - m * stepI l := by
  cases p with
  | n k => exact ⟨trivial, fun _ => ⟨_, rfl⟩, by rcases h with rfl | rfl <;> simp [Po.less, spot, stepI] <;> omega⟩
  | q a d =>
    obtain ⟨h1, h2⟩ := hp
    rcases h with rfl | rfl
    · obtain ⟨k, e⟩ := hd rfl
      cases e
    · refine ⟨⟨h1, ?_⟩, fun e => (by cases e), ?_⟩
      · rcases h1 with rfl | rfl | rfl <;> omega
      · show 2 * ((a - m * d) / d) + 1 = 2 * (a / d) + 1 - m * 2
        rcases h1 with rfl | rfl | rfl <;> omega
theorem neg_ok {l : Ln} (h : Num l) {p : Po} (hp : PoW p) (hd : l = .whole → ∃ k, p = .n k) : PoW p.neg ∧ (l = .whole → ∃ k, p.neg = .n k) ∧ spot l p.neg = - spot l p := by
  cases p with
  | n k => exact ⟨trivial, fun _ => ⟨_, rfl⟩, by rcases h with rfl | rfl <;> simp [Po.neg, spot] <;> omega⟩
  | q a d =>
    obtain ⟨h1, h2⟩ := hp
    rcases h with rfl | rfl
    · obtain ⟨k, e⟩ := hd rfl
      cases e
    · refine ⟨⟨h1, ?_⟩, fun e => (by cases e), ?_⟩
      · rcases h1 with rfl | rfl | rfl <;> omega
      · show 2 * ((-a) / d) + 1 = -(2 * (a / d) + 1)
        rcases h1 with rfl | rfl | rfl <;> omega
section
variable (n : Nat)
theorem s_less (p : Po) (m : Int) (hm : -4 ≤ m ∧ m ≤ 4) : callT ((Gn prog (n + 1)).fn "_law_point_less") [p.d, .int m] = .ret (p.less m).d := by
  rw [lk_fnulaw_point_less, callE rfl rfl]
  refine run_ret ?_
  unfold ir_fnulaw_point_less
  have kN := kn n
  cases p with
  | n k => simp [runT, sss, ss, em, ems, emT, emX, mVar, env0, dats, Tr.bind, Tr.of, tru_bl, endT, freeze, setT, setTs, optT, sz1, sz2, sz3, sz4, sz5, cm1, cm2, mulT, addT, eqT_str, tab_h, tab_d, n_wh_de, n_wh_wo, n_de_wh, n_de_wo, n_wo_wh, n_wo_de, Po.d, Po.less, gl_tuple, kN, isi_it, subT]
  | q a d =>
    have mu : binT (Gn prog n) .Mult (.int m) (.int d) = .ret (.int (m * d)) := mulT _ (.inl ⟨by omega, by omega⟩)
    simp [runT, sss, ss, em, ems, emT, emX, mVar, env0, dats, Tr.bind, Tr.of, tru_bl, endT, freeze, setT, setTs, optT, sz1, sz2, sz3, sz4, sz5, cm1, cm2, mulT, addT, eqT_str, tab_h, tab_d, n_wh_de, n_wh_wo, n_de_wh, n_de_wo, n_wo_wh, n_wo_de, Po.d, Po.less, gl_tuple, kN, isi_tup, subT, ix0, ix1, mu]
theorem s_negP (p : Po) : callT ((Gn prog (n + 1)).fn "_law_point_negative") [p.d] = .ret p.neg.d := by
  rw [lk_fnulaw_point_negative, callE rfl rfl]
  refine run_ret ?_
  unfold ir_fnulaw_point_negative
  have kN := kn n
  cases p with
  | n k => simp [runT, sss, ss, em, ems, emT, emX, mVar, env0, dats, Tr.bind, Tr.of, tru_bl, endT, freeze, setT, setTs, optT, sz1, sz2, sz3, sz4, sz5, cm1, cm2, mulT, addT, eqT_str, tab_h, tab_d, n_wh_de, n_wh_wo, n_de_wh, n_de_wo, n_wo_wh, n_wo_de, Po.d, Po.neg, gl_tuple, kN, isi_it, neg_i]
  | q a d => simp [runT, sss, ss, em, ems, emT, emX, mVar, env0, dats, Tr.bind, Tr.of, tru_bl, endT, freeze, setT, setTs, optT, sz1, sz2, sz3, sz4, sz5, cm1, cm2, mulT, addT, eqT_str, tab_h, tab_d, n_wh_de, n_wh_wo, n_de_wh, n_de_wo, n_wo_wh, n_wo_de, Po.d, Po.neg, gl_tuple, kN, isi_tup, neg_i, ix0, ix1]
end
end Rc

-- Pk09p
set_option Elab.async false
set_option linter.all false
set_option maxRecDepth 100000
set_option maxHeartbeats 1000000
namespace Rc
open PySem PySem.Spec PyProof.Rows L2
theorem plain_pcs : ∀ ps : List Pc, plainDs (ps.map pcD) = true ∧ depDs (ps.map pcD) ≤ 1
  | [] => ⟨rfl, by decide⟩
  | p :: r => by
    obtain ⟨h1, h2⟩ := plain_pcs r
    have hp : plainD (pcD p) = true ∧ depD (pcD p) = 1 := by
      obtain ⟨a, b⟩ := p
      rcases a with _ | a <;> rcases b with _ | b <;> exact ⟨rfl, rfl⟩
    refine ⟨?_, ?_⟩
    · simp only [List.map_cons, plainDs, hp.1, h1, Bool.and_self]
    · simp only [List.map_cons, depDs, hp.2]
      omega
theorem ok_pts (l : Ln) (ps : List Pc) : okD (.tup [l.d, pcsD ps]) = true := by
  obtain ⟨h1, h2⟩ := plain_pcs ps
  unfold okD
  simp only [pcsD, plainD, plainDs, depD, depDs, h1, Bool.and_self, Bool.true_and, decide_eq_true_eq]
  omega
theorem eq_same (G : Gs) {ds : List D} (h : okD (.tup ds) = true) : cmpT G .Eq (.tup ds) (.tup ds) = .ret (.bl true) := by
  have e : eqB (.tup ds) (.tup ds) = true := eqv_same _ (plain_of_ok h)
  simp only [cmpT, cmpD, eqD, h, e, Bool.and_self, if_true, Tr.of]
section
variable (n : Nat)
theorem isi_ss (fs : List (Str × D)) : isiD p_known [.obj "RangeSet" fs, .cls "RangeSet"] = some (.bl true) := by kernel_rfl
theorem s_eqV (v : Val) : cmpT (Gn prog (n + 1)) .Eq v.d v.d = .ret (.bl true) := by
  obtain ⟨l, r, ps⟩ := v
  cases r with
  | true => exact s_eq n l (ps.head?.map toC)
  | false =>
    have kN := kn n
    have A := attS3 n l ps
    have key : callT ((Gn prog (n + 1)).met "RangeSet" "__eq__") [setD l ps, setD l ps] = .ret (.bl true) := by
      rw [lk_met_RangeSetu_equ, callE rfl rfl]
      refine run_ret ?_
      show em (Gn prog n) _ [some (.dat (setD l ps)), some (.dat (setD l ps))] = _
      rw [em_and_t (by simp [em, mVar, Tr.bind, gl_RangeSet, Tr.of, kN, setD, isi_ss])]
      simp [em, mVar, Tr.bind, A, eq_same _ (ok_pts l ps)]
    have B : ((Gn prog (n + 1)).known.contains (Str.ofString "RangeSet") && knownB (Gn prog (n + 1)) (.obj "RangeSet" (setF l ps)) && !isLst (.obj "RangeSet" (setF l ps))) = true := by
      simp only [knownB, kn]
      rfl
    show cmpT (Gn prog (n + 1)) .Eq (.obj "RangeSet" (setF l ps)) (.obj "RangeSet" (setF l ps)) = _
    have key' : callT ((Gn prog (n + 1)).met (Str.ofString "RangeSet") (Str.ofString "__eq__")) [.obj (Str.ofString "RangeSet") (setF l ps), .obj (Str.ofString "RangeSet") (setF l ps)] = .ret (.bl true) := key
    simp only [cmpT, B, if_true, cmpName, key', Tr.bind, blT]
theorem eq_line (G : Gs) (l : Ln) : cmpT G .Eq l.d l.d = .ret (.bl true) := by cases l <;> kernel_rfl
theorem s_lineS (l : Ln) (ps : List Pc) : attT (Gn prog (n + 1)).att "line" (setD l ps) = .ret l.d := by
  have h := lk_prp_RangeSet_line n
  have A := attS1 n l ps
  simp only [setD, attT, h]
  show runT (Gn prog n) ir_prp_RangeSet_line.m ir_prp_RangeSet_line.ir [setD l ps] = _
  refine run_ret ?_
  simp [runT, sss, ss, em, ems, emT, emX, mVar, env0, dats, Tr.bind, Tr.of, tru_bl, endT, freeze, setT, setTs, optT, sz1, sz2, sz3, sz4, sz5, cm1, cm2, mulT, addT, eqT_str, tab_h, tab_d, n_wh_de, n_wh_wo, n_de_wh, n_de_wo, n_wo_wh, n_wo_de, A]
theorem s_is_of (v : Val) : callT ((Gn prog (n + 2)).fn "_law_is_of") [v.l.d, v.d, .bl v.isR] = .ret (.bl true) := by
  rw [lk_fnulaw_is_of, callE rfl rfl]
  refine run_of ?_
  unfold ir_fnulaw_is_of
  obtain ⟨l, r, ps⟩ := v
  have kN := kn (n + 1)
  cases r with
  | true =>
    have A := s_line n l (ps.head?.map toC)
    show sss (Gn prog (n + 1)) _ [some (.dat l.d), some (.dat (rangeD l (ps.head?.map toC))), some (.dat (.bl true)), none] = _
    rw [st_asg (d := .bl true) (by simp [runT, sss, ss, em, ems, emT, emX, mVar, env0, dats, Tr.bind, Tr.of, tru_bl, endT, freeze, setT, setTs, optT, sz1, sz2, sz3, sz4, sz5, cm1, cm2, mulT, addT, eqT_str, tab_h, tab_d, n_wh_de, n_wh_wo, n_de_wh, n_de_wo, n_wo_wh, n_wo_de, gl_Range, kN, rangeD, isi_r])]
    exact st_ret (by simp [runT, sss, ss, em, ems, emT, emX, mVar, env0, dats, Tr.bind, Tr.of, tru_bl, endT, freeze, setT, setTs, optT, sz1, sz2, sz3, sz4, sz5, cm1, cm2, mulT, addT, eqT_str, tab_h, tab_d, n_wh_de, n_wh_wo, n_de_wh, n_de_wo, n_wo_wh, n_wo_de, A, eq_line])
  | false =>
    have A := s_lineS n l ps
    show sss (Gn prog (n + 1)) _ [some (.dat l.d), some (.dat (setD l ps)), some (.dat (.bl false)), none] = _
    rw [st_asg (d := .bl true) (by simp [runT, sss, ss, em, ems, emT, emX, mVar, env0, dats, Tr.bind, Tr.of, tru_bl, endT, freeze, setT, setTs, optT, sz1, sz2, sz3, sz4, sz5, cm1, cm2, mulT, addT, eqT_str, tab_h, tab_d, n_wh_de, n_wh_wo, n_de_wh, n_de_wo, n_wo_wh, n_wo_de, gl_RangeSet, kN, setD, isi_ss])]
    exact st_ret (by simp [runT, sss, ss, em, ems, emT, emX, mVar, env0, dats, Tr.bind, Tr.of, tru_bl, endT, freeze, setT, setTs, optT, sz1, sz2, sz3, sz4, sz5, cm1, cm2, mulT, addT, eqT_str, tab_h, tab_d, n_wh_de, n_wh_wo, n_de_wh, n_de_wo, n_wo_wh, n_wo_de, A, eq_line])
end
theorem Val.ext' {a b : Val} (h1 : a.l = b.l) (h2 : a.isR = b.isR) (h3 : a.ps = b.ps) : a = b := by
  cases a; cases b; cases h1; cases h2; cases h3; rfl
theorem Val.sh_sh (v : Val) (m k : Int) : (v.sh m).sh k = v.sh (m + k) := Val.ext' rfl rfl (by
  show shP (k * stepI v.l) (shP (m * stepI v.l) v.ps) = shP ((m + k) * stepI v.l) v.ps
  rw [Rc.sh_sh, Int.add_mul])
theorem Val.sh_back (v : Val) (m : Int) : (v.sh m).sh (-m) = v := by
  rw [Val.sh_sh, show m + -m = 0 by omega]
  exact Val.ext' rfl rfl (by show shP (0 * stepI v.l) v.ps = v.ps; rw [Int.zero_mul, sh_0])
theorem Val.mi_mi (v : Val) : v.mi.mi = v := Val.ext' rfl rfl (Rc.mi_mi v.ps)
theorem Val.mi_sh (v : Val) (m : Int) : (v.sh m).mi = v.mi.sh (-m) := Val.ext' rfl rfl (by
  show miP (shP (m * stepI v.l) v.ps) = shP (-m * stepI v.l) (miP v.ps)
  rw [Rc.mi_sh, Int.neg_mul])
theorem st_par3 {G : Gs} {env : Env} {a b c : IE} {r : List IS} {i j l : Nat} {x y z : D} (h1 : em G a env = .ret x) (h2 : em G b env = .ret y) (h3 : em G c env = .ret z) : sss G (.par3 i j l a b c :: r) env = sss G r (((env.set i (some (.dat x))).set j (some (.dat y))).set l (some (.dat z))) := by
  simp only [sss, ss, ems, h1, h2, h3, Tr.bind, setTs, setT, Tr.of, Option.bind_some]
theorem ne_same3 (G : Gs) (a b c : Bool) : cmpT G .NotEq (.lst [.bl a, .bl b, .bl c]) (.lst [.bl a, .bl b, .bl c]) = .ret (.bl false) := by
  cases a <;> cases b <;> cases c <;> kernel_rfl
end Rc

-- Pk09q
set_option Elab.async false
set_option linter.all false
set_option maxRecDepth 100000
set_option maxHeartbeats 1000000
namespace Rc
open PySem PySem.Spec PyProof.Rows L2
/-! ### one value -/
def probeBody : List IS := [.ownC 12 (.name 14) [("_law_by", 14)] (.items (.tup [(.var 5), (.un .USub (.var 5))])) .no (.call "_law_has" [(.var 3), (.call "_law_point_less" [(.var 11), (.var 14)])]), .app 12 (.call "_law_has" [(.var 3), (.call "_law_point_negative" [(.var 11)])]), .iff (.cmp .NotEq (.lc (.name 15) [("_law_one", 15)] (.items (.var 10)) .no (.cmp .In (.var 11) (.var 15))) (.own 12)) [.ret (.con (.bl false))] []]
theorem sz_3 : (3 : Nat) ≤ sizeLine := by decide
theorem lc3 {G : Gs} {env : Env} {i : Nat} {nm : Str} {a it : IE} {x y z u v w : D} (hi : em G it env = .ret (.lst [x, y, z])) (h1 : em G a ((env.set i none).set i (some (.dat x))) = .ret u) (h2 : em G a ((env.set i none).set i (some (.dat y))) = .ret v) (h3 : em G a ((env.set i none).set i (some (.dat z))) = .ret w) : em G (.lc (.name i) [(nm, i)] (.items it) .no a) env = .ret (.lst [u, v, w]) := by
  refine em_lcE (ds := [x, y, z]) (by simp [emI, hi, Tr.bind, itemsT, itemsD, Tr.of]) sz_3 ?_
  simp only [List.map_cons, List.map_nil, wipeE, lcT, setT, Tr.of, Tr.bind, emC, if_true, h1, h2, h3]
theorem probe_turn (n : Nat) {v : Val} (hv : v.ok) {ts : List Ty} (hh : ∀ x, has v.ps x = hasT v.l ts x) {m : Int} (hm : -4 ≤ m ∧ m ≤ 4) {x0 x6 : Option EV} {p : Po} (hp : p ∈ probesP v.l) (g12 : Option EV) :
    sss (Gn prog (n + 8)) probeBody [x0, some (.dat v.l.d), some (.dat v.d), some (.dat (.tup (ts.map Ty.d))), some (.dat (.bl v.isR)), some (.dat (.int m)), x6, some (.dat (v.sh m).d), some (.dat (v.sh (-m)).d), some (.dat v.mi.d), some (.dat (.lst [(v.sh m).d, (v.sh (-m)).d, v.mi.d])), some (.dat p.d), g12, none, none, none] = .ret (.nx [x0, some (.dat v.l.d), some (.dat v.d), some (.dat (.tup (ts.map Ty.d))), some (.dat (.bl v.isR)), some (.dat (.int m)), x6, some (.dat (v.sh m).d), some (.dat (v.sh (-m)).d), some (.dat v.mi.d), some (.dat (.lst [(v.sh m).d, (v.sh (-m)).d, v.mi.d])), some (.dat p.d), some (.own [.bl (hasT v.l ts (spot v.l p - m * stepI v.l)), .bl (hasT v.l ts (spot v.l p + m * stepI v.l)), .bl (hasT v.l ts (- spot v.l p))]), none, none, none]) := by
  obtain ⟨p1, p2, p3⟩ := probe_ok hv.1 hp
  obtain ⟨a1, a2, a3⟩ := less_ok hv.1 m p2 p3
  obtain ⟨b1, b2, b3⟩ := less_ok hv.1 (-m) p2 p3
  obtain ⟨c1, c2, c3⟩ := neg_ok hv.1 p2 p3
  have A : callT ((Gn prog (n + 8)).fn "_law_has") [.tup (ts.map Ty.d), (p.less m).d] = .ret (.bl (hasT v.l ts (spot v.l p - m * stepI v.l))) := by rw [← a3]; exact s_has (n + 6) hv.1 ts a1 a2
  have B : callT ((Gn prog (n + 8)).fn "_law_has") [.tup (ts.map Ty.d), (p.less (-m)).d] = .ret (.bl (hasT v.l ts (spot v.l p + m * stepI v.l))) := by
    have e : spot v.l p + m * stepI v.l = spot v.l (p.less (-m)) := by rw [b3, Int.neg_mul]; omega
    rw [e]; exact s_has (n + 6) hv.1 ts b1 b2
  have C : callT ((Gn prog (n + 8)).fn "_law_has") [.tup (ts.map Ty.d), p.neg.d] = .ret (.bl (hasT v.l ts (- spot v.l p))) := by rw [← c3]; exact s_has (n + 6) hv.1 ts c1 c2
  have LA := s_less (n + 7) p m hm
  have LB := s_less (n + 7) p (-m) (by omega)
  have LC := s_negP (n + 7) p
  have I1 : cmpT (Gn prog (n + 8)) .In p.d (v.sh m).d = .ret (.bl (hasT v.l ts (spot v.l p - m * stepI v.l))) := by
    rw [← hh, ← sh_has]; exact s_in (n + 2) (v.sh_ok hv m) p1
  have I2 : cmpT (Gn prog (n + 8)) .In p.d (v.sh (-m)).d = .ret (.bl (hasT v.l ts (spot v.l p + m * stepI v.l))) := by
    have e : spot v.l p + m * stepI v.l = spot v.l p - (-m) * stepI v.l := by rw [Int.neg_mul]; omega
    rw [e, ← hh, ← sh_has]; exact s_in (n + 2) (v.sh_ok hv (-m)) p1
  have I3 : cmpT (Gn prog (n + 8)) .In p.d v.mi.d = .ret (.bl (hasT v.l ts (- spot v.l p))) := by
    rw [← hh, ← mi_has]; exact s_in (n + 2) (v.mi_ok hv) p1
  generalize hasT v.l ts (spot v.l p - m * stepI v.l) = h1 at *
  generalize hasT v.l ts (spot v.l p + m * stepI v.l) = h2 at *
  generalize hasT v.l ts (- spot v.l p) = h3 at *
  generalize (v.sh m).d = d1 at *
  generalize (v.sh (-m)).d = d2 at *
  generalize v.mi.d = d3 at *
  generalize (p.less m).d = e1 at *
  generalize (p.less (-m)).d = e2 at *
  generalize p.neg.d = e3 at *
  generalize p.d = e0 at *
  generalize v.d = dv at *
  generalize v.l.d = dl at *
  generalize D.tup (ts.map Ty.d) = dt at *
  clear hh a3 b3 c3
  unfold probeBody
  rw [st_ownC (ds := [.int m, .int (-m)]) (q := [.bl h1, .bl h2]) (by simp [runT, sss, ss, em, ems, emT, emX, mVar, env0, dats, Tr.bind, Tr.of, tru_bl, endT, freeze, setT, setTs, optT, sz1, sz2, sz3, sz4, sz5, cm1, cm2, mulT, addT, eqT_str, tab_h, tab_d, n_wh_de, n_wh_wo, n_de_wh, n_de_wo, n_wo_wh, n_wo_de, emI, itemsT, itemsD, neg_i]) (show (2 : Nat) ≤ sizeLine by decide) (by
    simp [wipeE, lcT, setT, Tr.of, Tr.bind, emC, em, ems, mVar, LA, LB, A, B])]
  rw [st_app (d := .bl h3) (ds := [.bl h1, .bl h2]) (by simp [runT, sss, ss, em, ems, emT, emX, mVar, env0, dats, Tr.bind, Tr.of, tru_bl, endT, freeze, setT, setTs, optT, sz1, sz2, sz3, sz4, sz5, cm1, cm2, mulT, addT, eqT_str, tab_h, tab_d, n_wh_de, n_wh_wo, n_de_wh, n_de_wo, n_wo_wh, n_wo_de, LC, C]) rfl (show 2 < sizeLine by decide)]
  rw [st_if (b := false) (by
    have L : em (Gn prog (n + 8)) (.lc (.name 15) [("_law_one", 15)] (.items (.var 10)) .no (.cmp .In (.var 11) (.var 15))) [x0, some (.dat dl), some (.dat dv), some (.dat dt), some (.dat (.bl v.isR)), some (.dat (.int m)), x6, some (.dat d1), some (.dat d2), some (.dat d3), some (.dat (.lst [d1, d2, d3])), some (.dat e0), some (.own [.bl h1, .bl h2, .bl h3]), none, none, none] = .ret (.lst [.bl h1, .bl h2, .bl h3]) := lc3 (x := d1) (y := d2) (z := d3) rfl (by simp [runT, sss, ss, em, ems, emT, emX, mVar, env0, dats, Tr.bind, Tr.of, tru_bl, endT, freeze, setT, setTs, optT, sz1, sz2, sz3, sz4, sz5, cm1, cm2, mulT, addT, eqT_str, tab_h, tab_d, n_wh_de, n_wh_wo, n_de_wh, n_de_wo, n_wo_wh, n_wo_de, I1]) (by simp [runT, sss, ss, em, ems, emT, emX, mVar, env0, dats, Tr.bind, Tr.of, tru_bl, endT, freeze, setT, setTs, optT, sz1, sz2, sz3, sz4, sz5, cm1, cm2, mulT, addT, eqT_str, tab_h, tab_d, n_wh_de, n_wh_wo, n_de_wh, n_de_wo, n_wo_wh, n_wo_de, I2]) (by simp [runT, sss, ss, em, ems, emT, emX, mVar, env0, dats, Tr.bind, Tr.of, tru_bl, endT, freeze, setT, setTs, optT, sz1, sz2, sz3, sz4, sz5, cm1, cm2, mulT, addT, eqT_str, tab_h, tab_d, n_wh_de, n_wh_wo, n_de_wh, n_de_wo, n_wo_wh, n_wo_de, I3])
    have O : em (Gn prog (n + 8)) (.own 12) [x0, some (.dat dl), some (.dat dv), some (.dat dt), some (.dat (.bl v.isR)), some (.dat (.int m)), x6, some (.dat d1), some (.dat d2), some (.dat d3), some (.dat (.lst [d1, d2, d3])), some (.dat e0), some (.own [.bl h1, .bl h2, .bl h3]), none, none, none] = .ret (.lst [.bl h1, .bl h2, .bl h3]) := by simp [em, mOwn]
    show emT (Gn prog (n + 8)) _ [x0, some (.dat dl), some (.dat dv), some (.dat dt), some (.dat (.bl v.isR)), some (.dat (.int m)), x6, some (.dat d1), some (.dat d2), some (.dat d3), some (.dat (.lst [d1, d2, d3])), some (.dat e0), some (.own [.bl h1, .bl h2, .bl h3]), none, none, none] = _
    rw [emT]
    dsimp only
    rw [L, O]
    simp only [Tr.bind, ne_same3, tru_bl])]
  rfl
section
variable (n : Nat)
theorem more_l (G : Gs) (env : Env) : em G (.lst [.one (.con (.int (1))), .one (.un .USub (.con (.int (3)))), .one (.bin .Pow (.con (.int (10))) (.con (.int (6)))), .one (.un .USub (.bin .Pow (.con (.int (10))) (.con (.int (9)))))]) env = .ret (.lst [.int 1, .int (-3), .int 1000000, .int (-1000000000)]) := by kernel_rfl
theorem ok_value {v : Val} (hv : v.ok) {ts : List Ty} (hh : ∀ x, has v.ps x = hasT v.l ts x) : Kp (fun d => d = .bl true) 2 (callT ((Gn prog (n + 9)).fn "_law_value_right") [.pot, v.l.d, v.d, .tup (ts.map Ty.d), .bl v.isR]) := by
  rw [lk_fnulaw_value_right, callE rfl rfl]
  refine k_run (env := [some (.dat .pot), some (.dat v.l.d), some (.dat v.d), some (.dat (.tup (ts.map Ty.d))), some (.dat (.bl v.isR)), none, none, none, none, none, none, none, none, none, none, none]) rfl ?_
  unfold ir_fnulaw_value_right
  have T : ∀ env : Env, env[0]? = some (some (.dat .pot)) → em (Gn prog (n + 8)) (.bin .Sub (.call "_law_take" [(.var 0), (.con (.int (9)))]) (.con (.int (4)))) env = .ask 9 fun i => .ret (.int (i - 4)) := by
    intro env h0
    have t := take_t (n + 7) 9
    simp [em, ems, mVar, h0, Tr.bind, t, subT]
  have O : ∀ env : Env, env[0]? = some (some (.dat .pot)) → em (Gn prog (n + 8)) (.call "_law_of" [(.var 0), (.lst [.one (.con (.int (1))), .one (.un .USub (.con (.int (3)))), .one (.bin .Pow (.con (.int (10))) (.con (.int (6)))), .one (.un .USub (.bin .Pow (.con (.int (10))) (.con (.int (9)))))])]) env = callT ((Gn prog (n + 8)).fn "_law_of") [.pot, .lst [.int 1, .int (-3), .int 1000000, .int (-1000000000)]] := by
    intro env h0
    have m := more_l (Gn prog (n + 8)) env
    have v0 : em (Gn prog (n + 8)) (.var 0) env = .ret .pot := by simp [em, mVar, h0]
    rw [em]
    simp only [ems, v0, m, Tr.bind]
  have F := ok_of (n + 6) [.int 1, .int (-3), .int 1000000, .int (-1000000000)] (by decide) (by decide)
  refine k_par2 (n := 1) (k := 1) (m := 0) (P := fun d => ∃ m : Int, d = .int m ∧ -4 ≤ m ∧ m ≤ 4) (P2 := fun _ d => ∃ k : Int, d = .int k) (.eq (T _ rfl) (.ask (by decide) (by decide) fun i a b => .ret ⟨i - 4, rfl, by omega, by omega⟩)) (fun _ _ => .eq (O _ rfl) (F.im (Nat.le_refl _) fun d hd => ?_)) fun x y hx hy => ?_
  · have : d = .int 1 ∨ d = .int (-3) ∨ d = .int 1000000 ∨ d = .int (-1000000000) := by simpa using hd
    rcases this with rfl | rfl | rfl | rfl <;> exact ⟨_, rfl⟩
  obtain ⟨m, rfl, hm⟩ := hx
  obtain ⟨k, rfl⟩ := hy
  clear T O F
  refine .of (a := .rt (.bl true)) ?_ ⟨_, rfl, rfl⟩
  have U := s_rshift n hv m
  have W := s_lshift n hv m
  have N := s_neg n hv
  rw [st_par3 (x := (v.sh m).d) (y := (v.sh (-m)).d) (z := v.mi.d) (by simp [runT, sss, ss, em, ems, emT, emX, mVar, env0, dats, Tr.bind, Tr.of, tru_bl, endT, freeze, setT, setTs, optT, sz1, sz2, sz3, sz4, sz5, cm1, cm2, mulT, addT, eqT_str, tab_h, tab_d, n_wh_de, n_wh_wo, n_de_wh, n_de_wo, n_wo_wh, n_wo_de, U]) (by simp [runT, sss, ss, em, ems, emT, emX, mVar, env0, dats, Tr.bind, Tr.of, tru_bl, endT, freeze, setT, setTs, optT, sz1, sz2, sz3, sz4, sz5, cm1, cm2, mulT, addT, eqT_str, tab_h, tab_d, n_wh_de, n_wh_wo, n_de_wh, n_de_wo, n_wo_wh, n_wo_de, W]) (by simp [runT, sss, ss, em, ems, emT, emX, mVar, env0, dats, Tr.bind, Tr.of, tru_bl, endT, freeze, setT, setTs, optT, sz1, sz2, sz3, sz4, sz5, cm1, cm2, mulT, addT, eqT_str, tab_h, tab_d, n_wh_de, n_wh_wo, n_de_wh, n_de_wo, n_wo_wh, n_wo_de, N])]
  rw [st_asg (d := .lst [(v.sh m).d, (v.sh (-m)).d, v.mi.d]) (by simp [runT, sss, ss, em, ems, emT, emX, mVar, env0, dats, Tr.bind, Tr.of, tru_bl, endT, freeze, setT, setTs, optT, sz1, sz2, sz3, sz4, sz5, cm1, cm2, mulT, addT, eqT_str, tab_h, tab_d, n_wh_de, n_wh_wo, n_de_wh, n_de_wo, n_wo_wh, n_wo_de])]
  have Q1 := s_is_of (n + 6) (v.sh m)
  have Q2 := s_is_of (n + 6) (v.sh (-m))
  have Q3 := s_is_of (n + 6) v.mi
  have Q1' : callT ((Gn prog (n + 8)).fn "_law_is_of") [v.l.d, (v.sh m).d, .bl v.isR] = .ret (.bl true) := Q1
  have Q2' : callT ((Gn prog (n + 8)).fn "_law_is_of") [v.l.d, (v.sh (-m)).d, .bl v.isR] = .ret (.bl true) := Q2
  have Q3' : callT ((Gn prog (n + 8)).fn "_law_is_of") [v.l.d, v.mi.d, .bl v.isR] = .ret (.bl true) := Q3
  have E0 : emT (Gn prog (n + 8)) (.not (.val (.bi .all [(.lc (.name 15) [("_law_one", 15)] (.items (.var 10)) .no (.call "_law_is_of" [(.var 1), (.var 15), (.var 4)]))]))) [some (.dat .pot), some (.dat v.l.d), some (.dat v.d), some (.dat (.tup (ts.map Ty.d))), some (.dat (.bl v.isR)), some (.dat (.int m)), some (.dat (.int k)), some (.dat (v.sh m).d), some (.dat (v.sh (-m)).d), some (.dat v.mi.d), some (.dat (.lst [(v.sh m).d, (v.sh (-m)).d, v.mi.d])), none, none, none, none, none] = .ret false := by
    have L : em (Gn prog (n + 8)) (.lc (.name 15) [("_law_one", 15)] (.items (.var 10)) .no (.call "_law_is_of" [(.var 1), (.var 15), (.var 4)])) [some (.dat .pot), some (.dat v.l.d), some (.dat v.d), some (.dat (.tup (ts.map Ty.d))), some (.dat (.bl v.isR)), some (.dat (.int m)), some (.dat (.int k)), some (.dat (v.sh m).d), some (.dat (v.sh (-m)).d), some (.dat v.mi.d), some (.dat (.lst [(v.sh m).d, (v.sh (-m)).d, v.mi.d])), none, none, none, none, none] = .ret (.lst [.bl true, .bl true, .bl true]) := lc3 (x := (v.sh m).d) (y := (v.sh (-m)).d) (z := v.mi.d) rfl (by simp [runT, sss, ss, em, ems, emT, emX, mVar, env0, dats, Tr.bind, Tr.of, tru_bl, endT, freeze, setT, setTs, optT, sz1, sz2, sz3, sz4, sz5, cm1, cm2, mulT, addT, eqT_str, tab_h, tab_d, n_wh_de, n_wh_wo, n_de_wh, n_de_wo, n_wo_wh, n_wo_de, Q1']) (by simp [runT, sss, ss, em, ems, emT, emX, mVar, env0, dats, Tr.bind, Tr.of, tru_bl, endT, freeze, setT, setTs, optT, sz1, sz2, sz3, sz4, sz5, cm1, cm2, mulT, addT, eqT_str, tab_h, tab_d, n_wh_de, n_wh_wo, n_de_wh, n_de_wo, n_wo_wh, n_wo_de, Q2']) (by simp [runT, sss, ss, em, ems, emT, emX, mVar, env0, dats, Tr.bind, Tr.of, tru_bl, endT, freeze, setT, setTs, optT, sz1, sz2, sz3, sz4, sz5, cm1, cm2, mulT, addT, eqT_str, tab_h, tab_d, n_wh_de, n_wh_wo, n_de_wh, n_de_wo, n_wo_wh, n_wo_de, Q3'])
    rw [emT]
    dsimp only
    rw [emT]
    dsimp only
    rw [em_bi L]
    rfl
  rw [st_no (by exact E0)]
  clear E0 Q1 Q2 Q3 Q1' Q2' Q3'
  have PR := s_probes (n + 7) hv.1
  obtain ⟨env', h1, g11, g12, h2⟩ := loop_map (σ := Unit) (tg := .name 11) (body := sss (Gn prog (n + 8)) probeBody) (f := Po.d)
    (fun _ _ env => ∃ g11 g12 : Option EV, env = [some (.dat .pot), some (.dat v.l.d), some (.dat v.d), some (.dat (.tup (ts.map Ty.d))), some (.dat (.bl v.isR)), some (.dat (.int m)), some (.dat (.int k)), some (.dat (v.sh m).d), some (.dat (v.sh (-m)).d), some (.dat v.mi.d), some (.dat (.lst [(v.sh m).d, (v.sh (-m)).d, v.mi.d])), g11, g12, none, none, none]) (fun _ _ => ()) (probesP v.l) 0 (by
      rintro j s p env _ hp ⟨g11, g12, rfl⟩
      refine ⟨[some (.dat .pot), some (.dat v.l.d), some (.dat v.d), some (.dat (.tup (ts.map Ty.d))), some (.dat (.bl v.isR)), some (.dat (.int m)), some (.dat (.int k)), some (.dat (v.sh m).d), some (.dat (v.sh (-m)).d), some (.dat v.mi.d), some (.dat (.lst [(v.sh m).d, (v.sh (-m)).d, v.mi.d])), some (.dat p.d), g12, none, none, none], _, rfl, probe_turn n hv hh hm hp g12, ⟨_, _, rfl⟩⟩) () [some (.dat .pot), some (.dat v.l.d), some (.dat v.d), some (.dat (.tup (ts.map Ty.d))), some (.dat (.bl v.isR)), some (.dat (.int m)), some (.dat (.int k)), some (.dat (v.sh m).d), some (.dat (v.sh (-m)).d), some (.dat v.mi.d), some (.dat (.lst [(v.sh m).d, (v.sh (-m)).d, v.mi.d])), none, none, none, none, none] ⟨none, none, rfl⟩
  rw [st_for (ds := (probesP v.l).map Po.d) (e := env') (by simp [runT, sss, ss, em, ems, emT, emX, mVar, env0, dats, Tr.bind, Tr.of, tru_bl, endT, freeze, setT, setTs, optT, sz1, sz2, sz3, sz4, sz5, cm1, cm2, mulT, addT, eqT_str, tab_h, tab_d, n_wh_de, n_wh_wo, n_de_wh, n_de_wo, n_wo_wh, n_wo_de, emI, itemsT, itemsD, PR]) (by exact h1)]
  clear h1 PR
  subst h2
  have B1 := s_lshift n (v.sh_ok hv m) m
  rw [Val.sh_back] at B1
  have B2 := s_neg n (v.mi_ok hv)
  rw [Val.mi_mi] at B2
  have EQ := fun w : Val => s_eqV (n + 7) w
  have EV0 := EQ v
  rw [st_if (b := false) (by simp [runT, sss, ss, em, ems, emT, emX, mVar, env0, dats, Tr.bind, Tr.of, tru_bl, endT, freeze, setT, setTs, optT, sz1, sz2, sz3, sz4, sz5, cm1, cm2, mulT, addT, eqT_str, tab_h, tab_d, n_wh_de, n_wh_wo, n_de_wh, n_de_wo, n_wo_wh, n_wo_de, B1, B2, EV0])]
  simp only [Bool.false_eq_true, if_false, List.nil_append]
  have R1 := s_rshift n hv k
  rw [st_asg (d := (v.sh k).d) (by simp [runT, sss, ss, em, ems, emT, emX, mVar, env0, dats, Tr.bind, Tr.of, tru_bl, endT, freeze, setT, setTs, optT, sz1, sz2, sz3, sz4, sz5, cm1, cm2, mulT, addT, eqT_str, tab_h, tab_d, n_wh_de, n_wh_wo, n_de_wh, n_de_wo, n_wo_wh, n_wo_de, R1])]
  have R2 := s_lshift n (v.sh_ok hv k) k
  rw [Val.sh_back] at R2
  have R3 := s_rshift n (v.sh_ok hv m) k
  rw [Val.sh_sh] at R3
  have R4 := s_rshift n hv (m + k)
  have R5 := s_neg n (v.sh_ok hv k)
  have R6 := s_lshift n (v.mi_ok hv) k
  rw [Val.mi_sh] at R5
  have E2 := EQ (v.sh (m + k))
  have E3 := EQ (v.mi.sh (-k))
  exact st_ret (by simp [runT, sss, ss, em, ems, emT, emX, mVar, env0, dats, Tr.bind, Tr.of, tru_bl, endT, freeze, setT, setTs, optT, sz1, sz2, sz3, sz4, sz5, cm1, cm2, mulT, addT, eqT_str, tab_h, tab_d, n_wh_de, n_wh_wo, n_de_wh, n_de_wo, n_wo_wh, n_wo_de, R2, R3, R4, R5, R6, N, EV0, E2, E3])
end
end Rc

-- Pk09r
set_option Elab.async false
set_option linter.all false
set_option maxRecDepth 100000
set_option maxHeartbeats 1000000
namespace Rc
open PySem PySem.Spec PyProof.Rows L2
/-! ### loops that draw -/
theorem k_loop {tg : Tg} {body : Env → Tr Fw} {R : Env → Prop} {N : Nat} : ∀ (ds : List D), (∀ d env, d ∈ ds → R env → ∃ e1, setT tg d env = some e1 ∧ Kp (fun w => ∃ e2, w = .nx e2 ∧ R e2) N (body e1)) → ∀ env, R env → Kp (fun w => ∃ e2, w = .nx e2 ∧ R e2) (N * ds.length) (loopT tg body ds env)
  | [], _, env, h => .ret ⟨env, rfl, h⟩
  | d :: ds, hb, env, h => by
    obtain ⟨e1, h1, h2⟩ := hb d env List.mem_cons_self h
    have e : loopT tg body (d :: ds) env = (body e1).bind fun w => match w with
      | .nx e => loopT tg body ds e
      | .ct e => loopT tg body ds e
      | .bk e => .ret (.nx e)
      | .rt r => .ret (.rt r) := by
      simp only [loopT, h1, Tr.of, Tr.bind]
      try congr 1
    rw [e, List.length_cons, Nat.mul_succ, Nat.add_comm (N * ds.length) N]
    refine h2.bind (m := N * ds.length) fun w hw => ?_
    obtain ⟨e2, rfl, hR⟩ := hw
    exact k_loop ds (fun d env m => hb d env (List.mem_cons_of_mem _ m)) e2 hR
theorem k_for {G : Gs} {env : Env} {tg : Tg} {it : II} {b r : List IS} {ds : List D} {R : Env → Prop} {Q : Fw → Prop} {N m : Nat} (hi : emI G it env = .ret ds) (hR : R env) (hb : ∀ d env, d ∈ ds → R env → ∃ e1, setT tg d env = some e1 ∧ Kp (fun w => ∃ e2, w = .nx e2 ∧ R e2) N (sss G b e1)) (hr : ∀ e, R e → Kp Q m (sss G r e)) : Kp Q (N * ds.length + m) (sss G (.for tg it b :: r) env) := by
  have e : sss G (.for tg it b :: r) env = (loopT tg (sss G b) ds env).bind fun w => match w with
      | .nx e => sss G r e
      | w => .ret w := by
    simp only [sss, ss, hi, Tr.bind]
    try congr 1
  refine .eq e ((k_loop ds hb env hR).bind fun w hw => ?_)
  obtain ⟨e2, rfl, h2⟩ := hw
  exact hr e2 h2
theorem em_bilc {G : Gs} {env : Env} {f : Bif} {tg : Tg} {own : List (Str × Nat)} {it : II} {c : IC} {a : IE} : em G (.bi f [.lc tg own it c a]) env = (emI G it env).bind fun ds => (optT (decide (ds.length ≤ sizeLine)) ()).bind fun _ => (lcT (fun d => setT tg d (wipeE env (own.map (·.2)))) (emC G c) (em G a) ds).bind fun q => bifT G f [.lst q] := by
  simp only [em, ems, Tr.bind_bind, Tr.bind]
section
variable (n : Nat)
theorem end_t {l : Ln} (h : Num l) : callT ((Gn prog (n + 2)).fn "_law_end") [.pot, l.d] = .ask 13 fun i => .ret (.int (i - 6)) := by
  rw [lk_fnulaw_end, callE rfl rfl]
  have t := take_t n 13
  rcases h with rfl | rfl
  · unfold ir_fnulaw_end
    simp [runT, sss, ss, em, ems, emT, emX, mVar, env0, dats, Tr.bind, Tr.of, tru_bl, endT, freeze, setT, setTs, optT, sz1, sz2, sz3, sz4, sz5, cm1, cm2, mulT, addT, eqT_str, tab_h, tab_d, n_wh_de, n_wh_wo, n_de_wh, n_de_wo, n_wo_wh, n_wo_de, t, subT, Ln.d, Ln.s]
  · unfold ir_fnulaw_end
    simp [runT, sss, ss, em, ems, emT, emX, mVar, env0, dats, Tr.bind, Tr.of, tru_bl, endT, freeze, setT, setTs, optT, sz1, sz2, sz3, sz4, sz5, cm1, cm2, mulT, addT, eqT_str, tab_h, tab_d, n_wh_de, n_wh_wo, n_de_wh, n_de_wo, n_wo_wh, n_wo_de, t, subT, Ln.d, Ln.s]
theorem ok_rangeT {l : Ln} (h : Num l) : Kp (fun d => ∃ t : Ty, d = t.d ∧ t.ok) 4 (callT ((Gn prog (n + 4)).fn "_law_range") [.pot, l.d]) := by
  rw [lk_fnulaw_range, callE rfl rfl]
  refine k_run (env := [some (.dat .pot), some (.dat l.d), none, none, none, none, none, none]) rfl ?_
  unfold ir_fnulaw_range
  have t0 := end_t (n + 1) h
  have E : Kp (fun d => ∃ x : Int, d = .int x) 1 (callT ((Gn prog (n + 3)).fn "_law_end") [.pot, l.d]) := .eq t0 (.ask (by decide) (by decide) fun i _ _ => .ret ⟨_, rfl⟩)
  have eE : ∀ env : Env, env[0]? = some (some (.dat .pot)) → env[1]? = some (some (.dat l.d)) → em (Gn prog (n + 3)) (.call "_law_end" [.var 0, .var 1]) env = callT ((Gn prog (n + 3)).fn "_law_end") [.pot, l.d] := by
    intro env h1 h2
    simp [em, ems, mVar, h1, h2, Tr.bind]
  have t := ok_take (n + 2) 12 (by decide) (by decide)
  have eT : ∀ env : Env, env[0]? = some (some (.dat .pot)) → em (Gn prog (n + 3)) (.call "_law_take" [.var 0, .con (.int 12)]) env = callT ((Gn prog (n + 3)).fn "_law_take") [.pot, .int 12] := by
    intro env h1
    simp [em, ems, mVar, h1, Tr.bind]
  have eB : ∀ env : Env, env[0]? = some (some (.dat .pot)) → em (Gn prog (n + 3)) (.call "_law_of" [(.var 0), (.lst [.one (.con (.str "[)")), .one (.con (.str "[]")), .one (.con (.str "(]")), .one (.con (.str "()")), .one (.con (.str "[)"))])]) env = callT ((Gn prog (n + 3)).fn "_law_of") [.pot, .lst [.str "[)", .str "[]", .str "(]", .str "()", .str "[)"]] := by
    intro env h1
    simp [em, ems, emX, mVar, h1, Tr.bind, optT, sz5]
  have B := ok_brs (n + 1)
  refine k_par2 (n := 1) (k := 1) (m := 2) (.eq (eE _ rfl rfl) E) (fun _ _ => .eq (eE _ rfl rfl) E) fun x y hx hy => ?_
  obtain ⟨p, rfl⟩ := hx
  obtain ⟨q, rfl⟩ := hy
  obtain ⟨lo, hi, ht, hlh⟩ : ∃ lo hi : Int, lo ≤ hi ∧ em (Gn prog (n + 3)) (.ite (.cmp .LtE (.var 2) (.var 3)) (.tup [(.var 2), (.var 3)]) (.tup [(.var 3), (.var 2)])) [some (.dat .pot), some (.dat l.d), some (.dat (.int p)), some (.dat (.int q)), none, none, none, none] = .ret (.tup [.int lo, .int hi]) := by
    by_cases e : p ≤ q
    · exact ⟨p, q, e, by simp [runT, sss, ss, em, ems, emT, emX, mVar, env0, dats, Tr.bind, Tr.of, tru_bl, endT, freeze, setT, setTs, optT, sz1, sz2, sz3, sz4, sz5, cm1, cm2, mulT, addT, eqT_str, tab_h, tab_d, n_wh_de, n_wh_wo, n_de_wh, n_de_wo, n_wo_wh, n_wo_de, leI_, e]⟩
    · exact ⟨q, p, by omega, by simp [runT, sss, ss, em, ems, emT, emX, mVar, env0, dats, Tr.bind, Tr.of, tru_bl, endT, freeze, setT, setTs, optT, sz1, sz2, sz3, sz4, sz5, cm1, cm2, mulT, addT, eqT_str, tab_h, tab_d, n_wh_de, n_wh_wo, n_de_wh, n_de_wo, n_wo_wh, n_wo_de, leI_, e]⟩
  rw [st_asg2 (by exact hlh)]
  clear hlh t0
  refine k_asg (n := 1) (m := 1) (.eq (eT _ rfl) t) fun d hd => ?_
  obtain ⟨i, rfl, _, _⟩ := hd
  refine k_asg (n := 1) (m := 0) (.eq (eB _ rfl) B) fun d hd => ?_
  obtain ⟨b, rfl⟩ := hd
  clear eE eT eB
  refine k_ret (.of (a := Ty.d ⟨if i = 0 ∨ i = 2 then none else some lo, if i = 1 ∨ i = 2 then none else some hi, b⟩) ?_ ⟨_, rfl, ?_⟩)
  · by_cases c1 : i = 0 ∨ i = 2 <;> by_cases c2 : i = 1 ∨ i = 2 <;> simp [runT, sss, ss, em, ems, emT, emX, mVar, env0, dats, Tr.bind, Tr.of, tru_bl, endT, freeze, setT, setTs, optT, sz1, sz2, sz3, sz4, sz5, cm1, cm2, mulT, addT, eqT_str, tab_h, tab_d, n_wh_de, n_wh_wo, n_de_wh, n_de_wo, n_wo_wh, n_wo_de, in2, c1, c2, optI, Ty.d]
  · intro x y e1 e2
    dsimp only at e1 e2
    split at e1
    · cases e1
    split at e2
    · cases e2
    cases e1; cases e2; exact ht
def tysOk (d : D) : Prop := ∃ ts : List Ty, d = .tup (ts.map Ty.d) ∧ (∀ t ∈ ts, t.ok) ∧ ts.length ≤ 3
theorem tys_of : ∀ {q : List D}, (∀ d ∈ q, ∃ t : Ty, d = t.d ∧ t.ok) → ∃ ts : List Ty, q = ts.map Ty.d ∧ ∀ t ∈ ts, t.ok
  | [], _ => ⟨[], rfl, fun _ z => by cases z⟩
  | d :: q, h => by
    obtain ⟨t, rfl, ht⟩ := h d List.mem_cons_self
    obtain ⟨ts, rfl, hs⟩ := tys_of (q := q) fun x hx => h x (List.mem_cons_of_mem _ hx)
    exact ⟨t :: ts, rfl, fun z hz => by
      rcases List.mem_cons.mp hz with rfl | hz
      · exact ht
      · exact hs z hz⟩
theorem ok_lot {l : Ln} (h : Num l) : Kp tysOk 13 (callT ((Gn prog (n + 5)).fn "_law_lot") [.pot, l.d, .int 3]) := by
  rw [lk_fnulaw_lot, callE rfl rfl]
  refine k_run (env := [some (.dat .pot), some (.dat l.d), some (.dat (.int 3)), none]) rfl ?_
  unfold ir_fnulaw_lot
  refine k_ret ?_
  have t := take_t (n + 3) 4
  have R := ok_rangeT n h
  have e : em (Gn prog (n + 4)) (.bi .tuple [(.lc (.name 3) [("_law_lap", 3)] (.rng1 (.call "_law_take" [(.var 0), (.bin .Add (.var 2) (.con (.int (1))))])) .no (.call "_law_range" [(.var 0), (.var 1)]))]) (freeze [some (.dat .pot), some (.dat l.d), some (.dat (.int 3)), none]) = .ask 4 fun i => (Tr.of (rngD [.int i])).bind fun ds => (optT (decide (ds.length ≤ sizeLine)) ()).bind fun _ => (lcT (fun d => setT (.name 3) d [some (.dat .pot), some (.dat l.d), some (.dat (.int 3)), none]) (emC (Gn prog (n + 4)) .no) (em (Gn prog (n + 4)) (.call "_law_range" [(.var 0), (.var 1)])) ds).bind fun q => .ret (.tup q) := by
    have e1 : emI (Gn prog (n + 4)) (.rng1 (.call "_law_take" [(.var 0), (.bin .Add (.var 2) (.con (.int (1))))])) [some (.dat .pot), some (.dat l.d), some (.dat (.int 3)), none] = .ask 4 fun i => Tr.of (rngD [.int i]) := by
      simp [runT, sss, ss, em, ems, emT, emX, mVar, env0, dats, Tr.bind, Tr.of, tru_bl, endT, freeze, setT, setTs, optT, sz1, sz2, sz3, sz4, sz5, cm1, cm2, mulT, addT, eqT_str, tab_h, tab_d, n_wh_de, n_wh_wo, n_de_wh, n_de_wo, n_wo_wh, n_wo_de, emI, t]
    have fz : freeze [some (.dat .pot), some (.dat l.d), some (.dat (.int 3)), none] = [some (EV.dat .pot), some (.dat l.d), some (.dat (.int 3)), none] := rfl
    rw [fz, em_bilc, e1]
    simp only [Tr.bind]
    congr 1
  refine .eq e (.ask (n := 12) (by decide) (by decide) fun i a b => ?_)
  have hr : rngD [.int i] = some ((List.range i.toNat).map fun (j : Nat) => D.int (0 + j)) := by
    simp only [rngD]
    rw [if_pos (by constructor <;> omega)]
  have hl : ((List.range i.toNat).map fun (j : Nat) => D.int (0 + j)).length ≤ sizeLine := by
    simp only [List.length_map, List.length_range]
    exact Nat.le_trans (show i.toNat ≤ 1000 by omega) (by decide)
  rw [hr]
  simp only [Tr.of, Tr.bind, optT, hl, decide_true, if_true]
  have L := k_lc (g := fun d => setT (.name 3) d [some (.dat .pot), some (.dat l.d), some (.dat (.int 3)), none]) (c := emC (Gn prog (n + 4)) .no) (e := em (Gn prog (n + 4)) (.call "_law_range" [(.var 0), (.var 1)])) (P := fun d => ∃ t : Ty, d = t.d ∧ t.ok) (n := 4) (ds := (List.range i.toNat).map fun (j : Nat) => D.int (0 + j)) (by
    intro d hd
    refine ⟨[some (.dat .pot), some (.dat l.d), some (.dat (.int 3)), some (.dat d)], rfl, rfl, ?_⟩
    exact .eq (by simp [runT, sss, ss, em, ems, emT, emX, mVar, env0, dats, Tr.bind, Tr.of, tru_bl, endT, freeze, setT, setTs, optT, sz1, sz2, sz3, sz4, sz5, cm1, cm2, mulT, addT, eqT_str, tab_h, tab_d, n_wh_de, n_wh_wo, n_de_wh, n_de_wo, n_wo_wh, n_wo_de]) R)
  rw [List.length_map, List.length_range] at L
  refine (L.bind (m := 0) fun q hq => .ret ?_).le (by omega)
  obtain ⟨ts, e, ht⟩ := tys_of hq.2
  refine ⟨ts, by rw [e], ht, ?_⟩
  have := hq.1
  rw [e, List.length_map] at this
  omega
end
end Rc

-- Lk09
set_option Elab.async false
set_option linter.all false
set_option maxRecDepth 100000
set_option maxHeartbeats 0
namespace Rc
open PySem PySem.Spec PyProof.Rows L2
def itIR : II := .rng1 (.bi .max [(.con (.int (1))), (.bi .min [(.con (.int (2))), (.bi .len [(.var 0)])])])
def turnIR : List IS := [.iff (.not (.val (.bi .all [(.lc (.name 3) [("_law_line", 3)] (.items (.tup [(.con (.str "whole")), (.con (.str "dense"))])) .no (.call "_law_right" [(.var 2), (.var 3)]))]))) [.ret (.con (.bl false))] []]
def tailIR : List IS := ir_fn_law.ir.tail
def lawOk : Prop := LawA (Gn prog 12) 4 itIR turnIR tailIR
end Rc

-- Pk09s
set_option Elab.async false
set_option linter.all false
set_option maxRecDepth 100000
set_option maxHeartbeats 1000000
namespace Rc
open PySem PySem.Spec PyProof.Rows L2
theorem cuts_full {l : Ln} {t : Ty} : ∀ p, t.cuts l = some p → fullP p = true := by
  intro p e
  unfold Ty.cuts at e
  split at e
  · cases e; assumption
  · cases e
theorem emT_notval {G : Gs} {env : Env} {a : IE} : emT G (.not (.val a)) env = (em G a env).bind fun d => (truT d).bind fun b => .ret (!b) := by
  simp only [emT, Tr.bind_bind]
theorem k_notval {G : Gs} {env : Env} {a : IE} {N : Nat} (h : Kp (fun d => d = .bl true) N (em G a env)) : Kp (fun b => b = false) N (emT G (.not (.val a)) env) := by
  refine .eq emT_notval ?_
  exact h.bind (m := 0) fun d hd => by subst hd; exact .ret rfl
section
variable (n : Nat)
theorem ok_right {l : Ln} (h : Num l) : Kp (fun d => d = .bl true) 168 (callT ((Gn prog (n + 10)).fn "_law_right") [.pot, l.d]) := by
  rw [lk_fnulaw_right, callE rfl rfl]
  refine k_run (env := [some (.dat .pot), some (.dat l.d), none, none, none, none, none]) rfl ?_
  unfold ir_fnulaw_right
  refine k_for (N := 21) (m := 0) (ds := (List.range 8).map fun (i : Nat) => D.int (0 + i)) (R := fun env => ∃ g2 g3 g4 g5 g6 : Option EV, env = [some (.dat .pot), some (.dat l.d), g2, g3, g4, g5, g6]) (by simp [emI, em, Tr.bind, rngD, Tr.of]) ⟨_, _, _, _, _, rfl⟩ ?_ ?_
  · rintro d env _ ⟨g2, g3, g4, g5, g6, rfl⟩
    refine ⟨[some (.dat .pot), some (.dat l.d), some (.dat d), g3, g4, g5, g6], rfl, ?_⟩
    refine k_asg3 (n := 4) (m := 17) (P := fun d => ∃ t : Ty, d = t.d ∧ t.ok) (.eq (t' := callT ((Gn prog (n + 9)).fn "_law_range") [.pot, l.d]) (by simp [runT, sss, ss, em, ems, emT, emX, mVar, env0, dats, Tr.bind, Tr.of, tru_bl, endT, freeze, setT, setTs, optT, sz1, sz2, sz3, sz4, sz5, cm1, cm2, mulT, addT, eqT_str, tab_h, tab_d, n_wh_de, n_wh_wo, n_de_wh, n_de_wo, n_wo_wh, n_wo_de]) ((ok_rangeT (n + 5) h).im (Nat.le_refl _) fun d hd => ?_)) fun x y z hd => ?_
    · obtain ⟨t, rfl, ht⟩ := hd
      exact ⟨_, _, _, rfl, t, rfl, ht⟩
    obtain ⟨t, e, ht⟩ := hd
    cases e
    have V1 : (Val.mk l true (t.cuts l).toList).ok := by
      refine ⟨h, ?_, ?_, fun _ => ?_⟩
      · cases e : t.cuts l with
        | none => trivial
        | some p => exact cuts_full p e
      · cases t.cuts l <;> simp
      · cases t.cuts l <;> simp
    have W1 := ok_value n V1 (ts := [t]) (fun x => by
      have := has_flat l x [t]
      rw [← this]
      show has (t.cuts l).toList x = has ((t.cuts l).toList ++ []) x
      rw [List.append_nil])
    have hd1 : (Val.mk l true (t.cuts l).toList).d = rangeI l (t.cuts l) := by
      show rangeI l (t.cuts l).toList.head? = _
      cases t.cuts l <;> rfl
    rw [hd1] at W1
    have M := s_mkT (n + 5) h ht
    have eW : em (Gn prog (n + 9)) (.call "_law_value_right" [(.var 0), (.var 1), (.mk "Range" [(.var 1), (.var 3), (.var 4), (.var 5)]), (.tup [(.tup [(.var 3), (.var 4), (.var 5)])]), (.con (.bl true))]) [some (.dat .pot), some (.dat l.d), some (.dat d), some (.dat (optI t.lo)), some (.dat (optI t.hi)), some (.dat t.b.d), g6] = callT ((Gn prog (n + 9)).fn "_law_value_right") [.pot, l.d, rangeI l (t.cuts l), .tup [t.d], .bl true] := by
      have M1 : em (Gn prog (n + 9)) (.mk "Range" [(.var 1), (.var 3), (.var 4), (.var 5)]) [some (.dat .pot), some (.dat l.d), some (.dat d), some (.dat (optI t.lo)), some (.dat (optI t.hi)), some (.dat t.b.d), g6] = .ret (rangeI l (t.cuts l)) := (em_mk (ems4 rfl rfl rfl rfl)).trans M
      have T1 : em (Gn prog (n + 9)) (.tup [(.tup [(.var 3), (.var 4), (.var 5)])]) [some (.dat .pot), some (.dat l.d), some (.dat d), some (.dat (optI t.lo)), some (.dat (optI t.hi)), some (.dat t.b.d), g6] = .ret (.tup [t.d]) := by simp [runT, sss, ss, em, ems, emT, emX, mVar, env0, dats, Tr.bind, Tr.of, tru_bl, endT, freeze, setT, setTs, optT, sz1, sz2, sz3, sz4, sz5, cm1, cm2, mulT, addT, eqT_str, tab_h, tab_d, n_wh_de, n_wh_wo, n_de_wh, n_de_wo, n_wo_wh, n_wo_de, Ty.d]
      generalize rangeI l (t.cuts l) = rr at *
      conv => lhs; rw [em]
      simp only [ems, M1, T1, Tr.bind]
      simp [em, mVar, Tr.bind]
    refine k_iff (n := 2) (m := 15) (PB := fun b => b = false) (k_notval (.eq (by exact eW) W1)) (fun z => by cases z) fun _ => ?_
    clear eW W1 M V1 hd1
    refine k_asg (n := 13) (m := 2) (.eq (t' := callT ((Gn prog (n + 9)).fn "_law_lot") [.pot, l.d, .int 3]) (by simp [runT, sss, ss, em, ems, emT, emX, mVar, env0, dats, Tr.bind, Tr.of, tru_bl, endT, freeze, setT, setTs, optT, sz1, sz2, sz3, sz4, sz5, cm1, cm2, mulT, addT, eqT_str, tab_h, tab_d, n_wh_de, n_wh_wo, n_de_wh, n_de_wo, n_wo_wh, n_wo_de]) (ok_lot (n + 4) h)) fun d2 hd => ?_
    obtain ⟨ts, rfl, hts, hl3⟩ := hd
    have Vn := normal_ok (flat (ts.map (Ty.cuts l)))
    have ln : (normalI (flat (ts.map (Ty.cuts l)))).length ≤ 1000 := by
      have l1 : (flat (ts.map (Ty.cuts l))).length ≤ 3 := Nat.le_trans (flat_len _) (by simpa using hl3)
      have l2 : (sortPc ((flat (ts.map (Ty.cuts l))).filter fullP)).length ≤ 3 := by rw [(sort_ok _).1.length_eq]; exact Nat.le_trans (List.length_filter_le _ _) l1
      exact Nat.le_trans (Nat.le_trans (mrgs_len _) l2) (by decide)
    have V2 : (Val.mk l false (normalI (flat (ts.map (Ty.cuts l))))).ok := ⟨h, Vn.1, ln, fun z => by cases z⟩
    have W2 := ok_value n V2 (ts := ts) (fun x => (normal_has _ x).trans (has_flat l x ts))
    have hd2 : (Val.mk l false (normalI (flat (ts.map (Ty.cuts l))))).d = setD l (normalI (flat (ts.map (Ty.cuts l)))) := rfl
    rw [hd2] at W2
    have M2 := s_made (n + 2) h hts (by omega)
    generalize setD l (normalI (flat (ts.map (Ty.cuts l)))) = sv at *
    have eW : em (Gn prog (n + 9)) (.call "_law_value_right" [(.var 0), (.var 1), (.call "_law_made" [(.var 1), (.var 6)]), (.var 6), (.con (.bl false))]) [some (.dat .pot), some (.dat l.d), some (.dat d), some (.dat (optI t.lo)), some (.dat (optI t.hi)), some (.dat t.b.d), some (.dat (.tup (ts.map Ty.d)))] = callT ((Gn prog (n + 9)).fn "_law_value_right") [.pot, l.d, sv, .tup (ts.map Ty.d), .bl false] := by
      simp [runT, sss, ss, em, ems, emT, emX, mVar, env0, dats, Tr.bind, Tr.of, tru_bl, endT, freeze, setT, setTs, optT, sz1, sz2, sz3, sz4, sz5, cm1, cm2, mulT, addT, eqT_str, tab_h, tab_d, n_wh_de, n_wh_wo, n_de_wh, n_de_wo, n_wo_wh, n_wo_de, M2]
    refine k_iff (n := 2) (m := 0) (PB := fun b => b = false) (k_notval (.eq (by exact eW) W2)) (fun z => by cases z) fun _ => ?_
    exact .ret ⟨_, rfl, _, _, _, _, _, rfl⟩
  · rintro e ⟨g2, g3, g4, g5, g6, rfl⟩
    exact k_ret (.of (a := .bl true) (by simp [runT, sss, ss, em, ems, emT, emX, mVar, env0, dats, Tr.bind, Tr.of, tru_bl, endT, freeze, setT, setTs, optT, sz1, sz2, sz3, sz4, sz5, cm1, cm2, mulT, addT, eqT_str, tab_h, tab_d, n_wh_de, n_wh_wo, n_de_wh, n_de_wo, n_wo_wh, n_wo_de]) rfl)
end
theorem law_ok : lawOk := by
  refine ⟨fun ns hns => ?_, fun ns j hns hj => ?_, fun ns hns => ?_⟩
  · exact it_of _ 4 2 (by decide) (by decide) ns
  · refine turn_of (N := 336) (by decide) ?_
    have e0 : env0 4 [.scr ns, .int (j : Int), .pot] = [some (.dat (.scr ns)), some (.dat (.int j)), some (.dat .pot), none] := rfl
    rw [e0]
    unfold turnIR
    refine k_iff (n := 336) (m := 0) (PB := fun b => b = false) (k_notval ?_) (fun h => by cases h) fun _ => .ret ⟨_, rfl, rfl, rfl⟩
    have e : em (Gn prog 12) (.bi .all [(.lc (.name 3) [("_law_line", 3)] (.items (.tup [(.con (.str "whole")), (.con (.str "dense"))])) .no (.call "_law_right" [(.var 2), (.var 3)]))]) [some (.dat (.scr ns)), some (.dat (.int j)), some (.dat .pot), none] = (lcT (fun d => setT (.name 3) d [some (.dat (.scr ns)), some (.dat (.int j)), some (.dat .pot), none]) (emC (Gn prog 12) .no) (em (Gn prog 12) (.call "_law_right" [(.var 2), (.var 3)])) [Ln.d .whole, Ln.d .dense]).bind fun q => bifT (Gn prog 12) .all [.lst q] := by
      have e1 : emI (Gn prog 12) (.items (.tup [(.con (.str "whole")), (.con (.str "dense"))])) [some (.dat (.scr ns)), some (.dat (.int j)), some (.dat .pot), none] = .ret [Ln.d .whole, Ln.d .dense] := by
        simp [runT, sss, ss, em, ems, emT, emX, mVar, env0, dats, Tr.bind, Tr.of, tru_bl, endT, freeze, setT, setTs, optT, sz1, sz2, sz3, sz4, sz5, cm1, cm2, mulT, addT, eqT_str, tab_h, tab_d, n_wh_de, n_wh_wo, n_de_wh, n_de_wo, n_wo_wh, n_wo_de, emI, itemsT, itemsD, Ln.d, Ln.s]
      rw [em_bilc, e1]
      simp only [Tr.bind, optT, List.length_cons, List.length_nil, show (0 + 1 + 1 : Nat) ≤ sizeLine by decide, decide_true, if_true]
      rfl
    have L := k_lc (g := fun d => setT (.name 3) d [some (.dat (.scr ns)), some (.dat (.int j)), some (.dat .pot), none]) (c := emC (Gn prog 12) .no) (e := em (Gn prog 12) (.call "_law_right" [(.var 2), (.var 3)])) (P := fun d => d = .bl true) (n := 168) (ds := [Ln.d .whole, Ln.d .dense]) (by
      intro d hd
      refine ⟨[some (.dat (.scr ns)), some (.dat (.int j)), some (.dat .pot), some (.dat d)], rfl, rfl, ?_⟩
      have : d = Ln.d .whole ∨ d = Ln.d .dense := by simpa using hd
      rcases this with rfl | rfl
      · exact .eq (by simp [runT, sss, ss, em, ems, emT, emX, mVar, env0, dats, Tr.bind, Tr.of, tru_bl, endT, freeze, setT, setTs, optT, sz1, sz2, sz3, sz4, sz5, cm1, cm2, mulT, addT, eqT_str, tab_h, tab_d, n_wh_de, n_wh_wo, n_de_wh, n_de_wo, n_wo_wh, n_wo_de]) (ok_right 2 (.inl rfl))
      · exact .eq (by simp [runT, sss, ss, em, ems, emT, emX, mVar, env0, dats, Tr.bind, Tr.of, tru_bl, endT, freeze, setT, setTs, optT, sz1, sz2, sz3, sz4, sz5, cm1, cm2, mulT, addT, eqT_str, tab_h, tab_d, n_wh_de, n_wh_wo, n_de_wh, n_de_wo, n_wo_wh, n_wo_de]) (ok_right 2 (.inr rfl)))
    exact .eq e (L.bind (m := 0) fun q hq => .of (all_true hq.2) rfl)
  · refine ⟨⟨0, 0, 0⟩, ?_⟩
    have e : ∀ ns : List Int, sss (Gn prog 12) tailIR (env0 4 [.scr ns]) = .ret (.rt (.bl true)) := fun ns => by kernel_rfl
    rw [e]
    rfl
end Rc

-- Fk09
set_option Elab.async false
set_option linter.all false
set_option maxRecDepth 100000
set_option maxHeartbeats 0
namespace Rc
open PySem PySem.Spec PyProof.Rows L2

/-! ### entries -/
theorem all_mem {α : Type} {l : List α} {p : α → Bool} (h : l.all p = true) {x : α} (m : x ∈ l) : p x = true := List.all_eq_true.mp h x m
theorem ent_plain {l : List Ent} (h : l.all (fun e => entB p_fld e && plainB e) = true) {e : Ent} (m : e ∈ l) : EntOk p_fld e := by
  have q := all_mem h m
  rw [Bool.and_eq_true] at q
  exact ent_ok q.1 q.2
theorem range_binds (K : PySem.W.Frag) (fd : FuncData) (a : Addr) (dvs : List V) (W : WildAll en_mak_Range.d.dfl dvs) (F : FunD K en_mak_Range.d.name en_mak_Range.d.qual (defArgs en_mak_Range.d.st) (defBody en_mak_Range.d.st) (defScope en_mak_Range.d.st) dvs [] a fd) : BindsAll K fd en_mak_Range.ps en_mak_Range.f.dfl := by
  obtain rfl : dvs = en_mak_Range.d.dfl := by
    obtain ⟨w1, r1, rfl, h1, w2, r2, rfl, h2, w3, r3, rfl, h3, e⟩ := W
    cases e
    have g1 := h1.resolve_right (by decide)
    have g2 := h2.resolve_right (by decide)
    have g3 := h3.resolve_right (by decide)
    rw [← g1, ← g2, ← g3]
    rfl
  intro j hj
  have hj' : j ≤ 3 := hj
  have key : ∀ n j : Nat, n + (3 - j) = 5 → j ≤ 3 → ∃ ds, Vals ((en_mak_Range.d.dfl).drop j) ds ∧ Binds K fd en_mak_Range.ps ds := by
    intro n j hn hj
    refine FunD.binds1 F n j (by decide) (by exact hn) ?_
    intro T kV doc pm an cdv ct us its hu hi
    have hi' : its.length = 3 := hi
    match its, hi' with
    | [x, y, z], _ =>
      match j, hj with
      | 0, _ =>
        obtain rfl : n = 2 := by omega
        match us, hu with
        | [a, b], _ => exact ⟨_, rfl, rfl⟩
      | 1, _ =>
        obtain rfl : n = 3 := by omega
        match us, hu with
        | [a, b, c], _ => exact ⟨_, rfl, rfl⟩
      | 2, _ =>
        obtain rfl : n = 4 := by omega
        match us, hu with
        | [a, b, c, d], _ => exact ⟨_, rfl, rfl⟩
      | 3, _ =>
        obtain rfl : n = 5 := by omega
        match us, hu with
        | [a, b, c, d, e], _ => exact ⟨_, rfl, rfl⟩
  obtain ⟨ds, v, b⟩ := key (2 + j) j (by omega) hj'
  refine ⟨ds, (en_mak_Range.d.dfl).drop j, b, fun pa M H => Reps.drop j ?_, v⟩
  exact ⟨_, _, rfl, rfl, _, _, rfl, rfl, _, _, rfl, ⟨rfl, by decide +kernel⟩, rfl⟩
theorem set_binds (K : PySem.W.Frag) (fd : FuncData) (a : Addr) (dvs : List V) (W : WildAll en_mak_RangeSet.d.dfl dvs) (F : FunD K en_mak_RangeSet.d.name en_mak_RangeSet.d.qual (defArgs en_mak_RangeSet.d.st) (defBody en_mak_RangeSet.d.st) (defScope en_mak_RangeSet.d.st) dvs [] a fd) : BindsAll K fd en_mak_RangeSet.ps en_mak_RangeSet.f.dfl := by
  have hl : dvs.length = 1 := W.len
  intro j hj
  have hj' : j = 0 := by
    have : j ≤ 0 := hj
    omega
  subst hj'
  obtain ⟨ds, v, b⟩ := FunD.binds1 (ps := en_mak_RangeSet.ps) F 3 1 (by intro e; rw [e] at hl; cases hl) (by rw [hl]; rfl) (by
    intro T kV doc pm an cdv ct us its hu hi
    have hi' : its.length = 1 := hi.trans hl
    match its, hi' with
    | [x], _ =>
      match us, hu with
      | [a, b, c], _ => exact ⟨_, rfl, rfl⟩)
  have e : dvs.drop 1 = [] := List.drop_eq_nil_of_le (by omega)
  rw [e] at v
  cases v
  exact ⟨[], [], b, fun pa M H => rfl, .nil⟩
theorem ent_all : ∀ e ∈ LS, EntOk p_fld e := by
  intro e m
  unfold LS at m
  simp only [List.mem_append] at m
  rcases m with m | m | m | m | m | m | m
  · exact ent_plain ok_ls0 m
  · exact ent_plain ok_ls1 m
  · exact ent_plain ok_ls2 m
  · exact ent_plain ok_ls3 m
  · exact ent_plain ok_ls4 m
  · exact ent_plain ok_ls5 m
  · have q := all_mem ok_lsD m
    have m' : e = en_mak_RangeSet ∨ e = en_mak_Range := by simpa [lsD] using m
    rcases m' with rfl | rfl
    · exact ⟨q, set_binds⟩
    · exact ⟨q, range_binds⟩
def kindC (e : Ent) : Bool := match e.d.at_ with
  | .met c _ => p_known.contains c
  | .prp c _ => p_known.contains c
  | _ => true
theorem kind_all : LS.all kindC = true := by decide +kernel
theorem kind_of {e : Ent} (m : e ∈ LS) (c m' : Str) (h : e.d.at_ = .met c m' ∨ e.d.at_ = .prp c m') : c ∈ p_known := by
  have q := all_mem kind_all m
  unfold kindC at q
  rcases h with h | h <;> rw [h] at q <;> simpa using q
section
variable {T : Th} {h : Heap}
theorem told2 (S : Says p_known LX p_glo p_tab p_fld p_known T h) : Told T prog := by
  refine told_of S (fun e m => List.mem_append_left _ m) ent_all (fun e m c m' q => kind_of m c m' q) fun g0 x f e => ?_
  have e' : x = "_law_take" ∧ f = ⟨2, [], takeT⟩ := by
    rw [List.lookup_cons] at e
    split at e
    · rename_i q
      cases e
      exact ⟨beq_iff_eq.mp q, rfl⟩
    · cases e
  obtain ⟨rfl, rfl⟩ := e'
  obtain ⟨a1, fd, dvs, W, F⟩ := S.fn (e := en_fnulaw_take) (List.mem_append_right _ (by simp [lsX]))
  exact take_fnk g0 (He.glo_ok S.X S.G a1) (txt_of (ent_plain ok_lsX (by simp [lsX])) W F)
theorem pot2 (S : Says p_known LX p_glo p_tab p_fld p_known T h) : PotDef T 4 := by
  obtain ⟨a1, fd, dvs, W, F⟩ := S.fn (e := en_fnulaw_pot) (List.mem_append_right _ (by simp [lsX]))
  have o : EntOk p_fld en_fnulaw_pot := ent_plain ok_lsX (by simp [lsX])
  have h := o.st
  unfold entB at h
  simp only [Bool.and_eq_true, decide_eq_true_eq] at h
  refine ⟨_, fd, en_fnulaw_pot.ps, He.glo_ok S.X S.G a1, F.kp, binds_nil (o.bn _ _ _ _ W F), ?_⟩
  exact fg_pot (k := 0) (gok (told2 S) 0) F (sc_of h.1.1.1.1.2) rfl rfl h.1.1.1.1.1
end
end Rc

-- Gk09
set_option Elab.async false
set_option linter.all false
set_option maxRecDepth 100000
set_option maxHeartbeats 0
namespace Rc
open PySem PySem.Spec PyProof.Rows L2
theorem fl_nil {G : Gs} {l : List (Str × Str)} (h : l = []) : Fl0 G l := fun q hq => by rw [h] at hq; cases hq
abbrev LawD (K : PySem.W.Frag) (fd : FuncData) : Prop := FunD K en_fn_law.d.name en_fn_law.d.qual (defArgs en_fn_law.d.st) (defBody en_fn_law.d.st) (defScope en_fn_law.d.st) [] [] (He.ga K "law") fd
theorem law_binds {K : PySem.W.Frag} {fd : FuncData} (F : LawD K fd) (s : Shared) (u : Value) : BindsTo s fd ⟨[u], []⟩ [("_law_script", u)] := by
  have hp : plainArgs (defArgs en_fn_law.d.st) en_fn_law.ps = true := by decide +kernel
  exact FunD.bindsA (ps := ["_law_script"]) F (fun kV doc pm an cdv ct us hl => plain_binds hp (by decide) kV doc pm an cdv ct us hl) s [u] rfl
theorem law2 {T : Th} {h : Heap} (S : Says p_known LX p_glo p_tab p_fld p_known T h) (L : lawOk) {fd : FuncData} (F : LawD T.K fd) : FG T.P T.w T.K T.mg T.base 52 (He.ga T.K "law") fd ["_law_script"] (spL T.K) := by
  have o : EntOk p_fld en_fn_law := ent_plain ok_lsX (by simp [lsX])
  have h := o.st
  unfold entB at h
  simp only [Bool.and_eq_true, decide_eq_true_eq] at h
  have D : PotDef T (4 * 12 + 3) := by
    obtain ⟨a, fd, ps, h1, h2, h3, h4⟩ := (pot2 S).ex
    exact ⟨a, fd, ps, h1, h2, h3, h4.mono (by decide)⟩
  exact fg_law (k := 4 * 12) (it := itIR) (R := turnIR) (TL := tailIR) (gok (told2 S) 12) D F (sc_of h.1.1.1.1.2) (by decide) rfl h.1.1.1.1.1 (fl_nil (by decide +kernel)) (fl_nil (by decide +kernel)) (fl_nil (by decide +kernel)) L
theorem law3 {P : Program} {w : World} {K : PySem.W.Frag} {mg : Str → Option Value} {h : Heap} {fa : Addr} (c : SaysH facts w K) (KX : K.In h) (G : h.Ns mainGlobals mg) (L : lawOk) (hm : mg "law" = some (.ref fa)) :
    ∃ (K : PySem.W.Frag) (fd : FuncData), K.In h ∧ (∀ (s : Shared) (u : Value), BindsTo s fd ⟨[u], []⟩ [("_law_script", u)]) ∧ ∀ base : Heap, K.In base → base.Ns mainGlobals mg → FG P w K mg base 52 fa fd ["_law_script"] (spL K) := by
  have S : Says p_known LX p_glo p_tab p_fld p_known ⟨P, w, K, mg, h⟩ h := ⟨c, KX, G⟩
  obtain ⟨a1, fd, dvs, W, F⟩ := S.fn (e := en_fn_law) (List.mem_append_right _ (by simp [lsX]))
  have ed : dvs = [] := by
    have W' : WildAll [] dvs := W
    cases W'; rfl
  subst ed
  have ea : He.ga K "law" = fa := by
    have e := (He.glo_ok KX G a1).symm.trans hm
    cases e; rfl
  subst ea
  exact ⟨K, fd, KX, law_binds F, fun base kb gb => law2 (T := ⟨P, w, K, mg, base⟩) (h := base) ⟨c, kb, gb⟩ L F⟩
end Rc
open PySem PySem.W PySem.Calls PyProof.Rows
theorem holds_if (L : Rc.lawOk) : PySem.Challenge.rw_rangecells_k09_moved_and_mirrored.Holds := by
  w_on; o_law
  refine HandSHeadRun.head_any (r := OpenLaw.row PySem.Challenge.rw_rangecells_k09_moved_and_mirrored) (q := view (OpenLaw.row PySem.Challenge.rw_rangecells_k09_moved_and_mirrored).prog [106]) (H := Rc.hk) (ob := Rc.obH Rc.facts 11) (M := 20000) (loose := Rc.loose) (d := HandSHeadRun.topDef (OpenLaw.row PySem.Challenge.rw_rangecells_k09_moved_and_mirrored).prog 106) (kwd := []) (Rc.obH_eq Rc.facts 11)
    (by kernel_rfl) (fun s => by kernel_rfl) Rc.run_w (by kernel_rfl) (by kernel_rfl) (by kernel_rfl) (by rfl) (by first | assumption | decide +kernel) (by decide +kernel) ⟨rfl, rfl, rfl, rfl, rfl, by decide +kernel⟩ ?hw ?hc
  case hw => w_witness2
  case hc =>
    refine Rc.walk_FG (l := PySem.Challenge.rw_rangecells_k09_moved_and_mirrored) (k := 52) (x := "_law_script") rfl (by kernel_rfl) ⟨rfl, by decide, by decide⟩ ?F
    intro w mg fa h Y G hmg0
    obtain ⟨K, KX, c⟩ := Y
    have hmg : mg ("law" : PySem.Str) = some (.ref fa) := by
      have e : (HandSHeadRun.topDef (OpenLaw.row PySem.Challenge.rw_rangecells_k09_moved_and_mirrored).prog 106).name = ("law" : PySem.Str) := by kernel_rfl
      rw [← e]
      exact hmg0
    exact Rc.law3 c KX G L hmg

set_option maxHeartbeats 0 in
theorem PySem.Challenge.cw_rangecells_k09_moved_and_mirrored_holds : PySem.Challenge.rw_rangecells_k09_moved_and_mirrored.Holds :=
  holds_if Rc.law_ok
