import PyProof.Rows.All
import Wide.All
import OpenK.AllK
import Wide.FinOn
import KE.KStateDown
import KE.LtData
import HandS.ForExc
import HandS.ForMost
import HandS.Defaults
import HandS.Wide
import HandS.Deep
import HandS.CallSlots
import HandS.Conv
import HandS.IsInst
import HandS.ClsMeth
import HandS.Property
import KE.GoesMore
import HandS.Small
import KE.KDictDisplayH
import HandS.ExcOwn
import HandS.Head0
import HandS.Head1
import HandS.Head2
import HandS.HeadEnd
import HandS.HeadHook1
import HandS.HeadHook2
import HandS.Codes
import HandS.Ends
import KE.SortData
import PySem.Challenge.RW_pinnedbycounts_k19_ring_links
-- EvA
set_option Elab.async false
set_option linter.all false
set_option maxRecDepth 100000
set_option maxHeartbeats 2000000
namespace Ev
open PySem PySem.Spec L2
open PyProof.Rows hiding St

/-! ## data without a heap -/
inductive D where
  | non | bl (b : Bool) | int (i : Int) | str (s : Str)
  | tup (xs : List D) | lst (xs : List D) | dct (t : Bool) (kvs : List (D × D)) | ins (c : String) (fs : List (String × D))
  | scr (ns : List Int) | obj (a : Addr)
  deriving Inhabited

mutual
def D.dec : (a b : D) → Decidable (a = b)
  | .non, b => match b with
    | .non => .isTrue rfl
    | .bl _ | .int _ | .str _ | .tup _ | .lst _ | .dct _ _ | .ins _ _ | .scr _ | .obj _ => .isFalse (by simp)
  | .bl x, b => match b with
    | .bl y => if h : x = y then .isTrue (by rw [h]) else .isFalse (by simpa using h)
    | .non | .int _ | .str _ | .tup _ | .lst _ | .dct _ _ | .ins _ _ | .scr _ | .obj _ => .isFalse (by simp)
  | .int x, b => match b with
    | .int y => if h : x = y then .isTrue (by rw [h]) else .isFalse (by simpa using h)
    | .non | .bl _ | .str _ | .tup _ | .lst _ | .dct _ _ | .ins _ _ | .scr _ | .obj _ => .isFalse (by simp)
  | .str x, b => match b with
    | .str y => if h : x = y then .isTrue (by rw [h]) else .isFalse (by simpa using h)
    | .non | .bl _ | .int _ | .tup _ | .lst _ | .dct _ _ | .ins _ _ | .scr _ | .obj _ => .isFalse (by simp)
  | .tup x, b => match b with
    | .tup y => match D.decL x y with
      | .isTrue h => .isTrue (by rw [h])
      | .isFalse h => .isFalse (by simpa using h)
    | .non | .bl _ | .int _ | .str _ | .lst _ | .dct _ _ | .ins _ _ | .scr _ | .obj _ => .isFalse (by simp)
  | .lst x, b => match b with
    | .lst y => match D.decL x y with
      | .isTrue h => .isTrue (by rw [h])
      | .isFalse h => .isFalse (by simpa using h)
    | .non | .bl _ | .int _ | .str _ | .tup _ | .dct _ _ | .ins _ _ | .scr _ | .obj _ => .isFalse (by simp)
  | .dct t x, b => match b with
    | .dct u y => if q : t = u then match D.decK x y with
        | .isTrue h => .isTrue (by rw [q, h])
        | .isFalse h => .isFalse (by simp [h])
      else .isFalse (by simp [q])
    | .non | .bl _ | .int _ | .str _ | .tup _ | .lst _ | .ins _ _ | .scr _ | .obj _ => .isFalse (by simp)
  | .ins t x, b => match b with
    | .ins u y => if q : t = u then match D.decF x y with
        | .isTrue h => .isTrue (by rw [q, h])
        | .isFalse h => .isFalse (by simp [h])
      else .isFalse (by simp [q])
    | .non | .bl _ | .int _ | .str _ | .tup _ | .lst _ | .dct _ _ | .scr _ | .obj _ => .isFalse (by simp)
  | .scr x, b => match b with
    | .scr y => if h : x = y then .isTrue (by rw [h]) else .isFalse (by simpa using h)
    | .non | .bl _ | .int _ | .str _ | .tup _ | .lst _ | .dct _ _ | .ins _ _ | .obj _ => .isFalse (by simp)
  | .obj x, b => match b with
    | .obj y => if h : x = y then .isTrue (by rw [h]) else .isFalse (by simpa using h)
    | .non | .bl _ | .int _ | .str _ | .tup _ | .lst _ | .dct _ _ | .ins _ _ | .scr _ => .isFalse (by simp)
def D.decL : (a b : List D) → Decidable (a = b)
  | [], [] => .isTrue rfl
  | [], _ :: _ => .isFalse (by simp)
  | _ :: _, [] => .isFalse (by simp)
  | a :: as, b :: bs => match D.dec a b, D.decL as bs with
    | .isTrue h, .isTrue k => .isTrue (by rw [h, k])
    | .isFalse h, _ => .isFalse (by simp [h])
    | _, .isFalse k => .isFalse (by simp [k])
def D.decK : (a b : List (D × D)) → Decidable (a = b)
  | [], [] => .isTrue rfl
  | [], _ :: _ => .isFalse (by simp)
  | _ :: _, [] => .isFalse (by simp)
  | (a, x) :: as, (b, y) :: bs => match D.dec a b, D.dec x y, D.decK as bs with
    | .isTrue h, .isTrue j, .isTrue k => .isTrue (by rw [h, j, k])
    | .isFalse h, _, _ => .isFalse (by simp [h])
    | _, .isFalse h, _ => .isFalse (by simp [h])
    | _, _, .isFalse k => .isFalse (by simp [k])
def D.decF : (a b : List (String × D)) → Decidable (a = b)
  | [], [] => .isTrue rfl
  | [], _ :: _ => .isFalse (by simp)
  | _ :: _, [] => .isFalse (by simp)
  | (a, x) :: as, (b, y) :: bs => if h : a = b then match D.dec x y, D.decF as bs with
      | .isTrue j, .isTrue k => .isTrue (by rw [h, j, k])
      | .isFalse h, _ => .isFalse (by simp [h])
      | _, .isFalse k => .isFalse (by simp [k])
    else .isFalse (by simp [h])
end
instance : DecidableEq D := D.dec

/-- what stands of the program: the written part, where the classes stand -/
structure Gm where
  K : PySem.W.Frag
  cls : String → Addr

def kD : Key → D
  | .inl i => .int i
  | .inr x => .str x

/-- a class's own facts -/
def InsOk (Γ : Gm) (c : String) (fs : List (String × D)) : Prop :=
  Cls Γ.K (Γ.cls c) ∧ ∀ f : String, f ∈ fs.map (fun p => p.1) → NoAttr Γ.K (Γ.cls c) (Str.ofString f)

mutual
/-- the value reads as the data, in the frozen part of the heap -/
inductive Rv (Γ : Gm) (F : Hp) : V → D → Prop
  | non : Rv Γ F .non .non
  | bl (b : Bool) : Rv Γ F (.bl b) (.bl b)
  | int (i : Int) : Rv Γ F (.int i) (.int i)
  | str (s : Str) : Rv Γ F (.str s) (.str s)
  | tup {a : Addr} {vs : List V} {ds : List D} : F a = some (.tup vs) → vs.length ≤ sizeLine → RvL Γ F vs ds → Rv Γ F (.ref a) (.tup ds)
  | lst {a : Addr} {vs : List V} {ds : List D} : F a = some (.lst vs) → vs.length ≤ sizeLine → RvL Γ F vs ds → Rv Γ F (.ref a) (.lst ds)
  | dK {a : Addr} {kvs : List (Key × V)} {ds : List (D × D)} : F a = some (.dK kvs) → RvK Γ F kvs ds → Rv Γ F (.ref a) (.dct false ds)
  | dT {a : Addr} {kvs : List (List Key × V)} {ds : List (D × D)} : F a = some (.dT kvs) → RvT Γ F kvs ds → Rv Γ F (.ref a) (.dct true ds)
  | ins {a dx : Addr} {c : String} {fvs : List (Str × V)} {fs : List (String × D)} : F a = some (.ins (Γ.cls c) dx fvs) → RvF Γ F fvs fs → InsOk Γ c fs → Rv Γ F (.ref a) (.ins c fs)
  | scr {a : Addr} {ns : List Int} : SqL Γ.K F a (ns.map V.int) → ns.length ≤ sizeLine → Rv Γ F (.ref a) (.scr ns)
  | obj (a : Addr) : Rv Γ F (.ref a) (.obj a)
inductive RvL (Γ : Gm) (F : Hp) : List V → List D → Prop
  | nil : RvL Γ F [] []
  | cons {v : V} {vs : List V} {d : D} {ds : List D} : Rv Γ F v d → RvL Γ F vs ds → RvL Γ F (v :: vs) (d :: ds)
inductive RvK (Γ : Gm) (F : Hp) : List (Key × V) → List (D × D) → Prop
  | nil : RvK Γ F [] []
  | cons {k : Key} {v : V} {vs : List (Key × V)} {d : D} {ds : List (D × D)} : Rv Γ F v d → RvK Γ F vs ds → RvK Γ F ((k, v) :: vs) ((kD k, d) :: ds)
inductive RvT (Γ : Gm) (F : Hp) : List (List Key × V) → List (D × D) → Prop
  | nil : RvT Γ F [] []
  | cons {k : List Key} {v : V} {vs : List (List Key × V)} {d : D} {ds : List (D × D)} : Rv Γ F v d → RvT Γ F vs ds → RvT Γ F ((k, v) :: vs) ((.tup (k.map kD), d) :: ds)
inductive RvF (Γ : Gm) (F : Hp) : List (Str × V) → List (String × D) → Prop
  | nil : RvF Γ F [] []
  | cons {f : String} {v : V} {vs : List (Str × V)} {d : D} {ds : List (String × D)} : Rv Γ F v d → RvF Γ F vs ds → RvF Γ F (((f : Str), v) :: vs) ((f, d) :: ds)
end

def Sub (F H : Hp) : Prop := ∀ a o, F a = some o → H a = some o
theorem Sub.refl {F : Hp} : Sub F F := fun _ _ h => h
theorem Sub.trans {F G H : Hp} (a : Sub F G) (b : Sub G H) : Sub F H := fun x o h => b x o (a x o h)
theorem SqL.sub {K : PySem.W.Frag} {F H : Hp} {a : Addr} {xs : List V} (s : Sub F H) (h : SqL K F a xs) : SqL K H a xs := by
  rcases h with h | h
  · rcases h with h | ⟨o, h⟩
    · exact .inl (.inl (s _ _ h))
    · exact .inl (.inr ⟨o, s _ _ h⟩)
  · exact .inr h
mutual
theorem Rv.mono {Γ : Gm} {F G : Hp} (s : Sub F G) : ∀ {v : V} {d : D}, Rv Γ F v d → Rv Γ G v d
  | _, _, .non => .non
  | _, _, .bl b => .bl b
  | _, _, .int b => .int b
  | _, _, .str b => .str b
  | _, _, .tup h z r => .tup (s _ _ h) z (RvL.mono s r)
  | _, _, .lst h z r => .lst (s _ _ h) z (RvL.mono s r)
  | _, _, .dK h r => .dK (s _ _ h) (RvK.mono s r)
  | _, _, .dT h r => .dT (s _ _ h) (RvT.mono s r)
  | _, _, .ins h r k => .ins (s _ _ h) (RvF.mono s r) k
  | _, _, .scr h z => .scr (SqL.sub s h) z
  | _, _, .obj a => .obj a
theorem RvL.mono {Γ : Gm} {F G : Hp} (s : Sub F G) : ∀ {v : List V} {d : List D}, RvL Γ F v d → RvL Γ G v d
  | _, _, .nil => .nil
  | _, _, .cons h r => .cons (Rv.mono s h) (RvL.mono s r)
theorem RvK.mono {Γ : Gm} {F G : Hp} (s : Sub F G) : ∀ {v : List (Key × V)} {d : List (D × D)}, RvK Γ F v d → RvK Γ G v d
  | _, _, .nil => .nil
  | _, _, .cons h r => .cons (Rv.mono s h) (RvK.mono s r)
theorem RvT.mono {Γ : Gm} {F G : Hp} (s : Sub F G) : ∀ {v : List (List Key × V)} {d : List (D × D)}, RvT Γ F v d → RvT Γ G v d
  | _, _, .nil => .nil
  | _, _, .cons h r => .cons (Rv.mono s h) (RvT.mono s r)
theorem RvF.mono {Γ : Gm} {F G : Hp} (s : Sub F G) : ∀ {v : List (Str × V)} {d : List (String × D)}, RvF Γ F v d → RvF Γ G v d
  | _, _, .nil => .nil
  | _, _, .cons h r => .cons (Rv.mono s h) (RvF.mono s r)
end

/-! ## what a slot holds -/
inductive O where
  | no | fz (d : D) | lst (ds : List D) | dct (t : Bool) (kvs : List (D × D)) | ins (c : String) (fs : List (String × D))
  deriving Inhabited
def O.own : O → Bool
  | .no => false
  | .fz _ => false
  | _ => true
def O.view : O → Option D
  | .no => none
  | .fz d => some d
  | .lst ds => some (.lst ds)
  | .dct t kvs => some (.dct t kvs)
  | .ins c fs => some (.ins c fs)
inductive OR (Γ : Gm) (F H : Hp) : Option V → O → Prop
  | no {v : Option V} : OR Γ F H v .no
  | fz {v : V} {d : D} : Rv Γ F v d → OR Γ F H (some v) (.fz d)
  | lst {a : Addr} {vs : List V} {ds : List D} : H a = some (.lst vs) → vs.length ≤ sizeLine → RvL Γ F vs ds → F a = none → OR Γ F H (some (.ref a)) (.lst ds)
  | dK {a : Addr} {kvs : List (Key × V)} {ds : List (D × D)} : H a = some (.dK kvs) → RvK Γ F kvs ds → F a = none → OR Γ F H (some (.ref a)) (.dct false ds)
  | dT {a : Addr} {kvs : List (List Key × V)} {ds : List (D × D)} : H a = some (.dT kvs) → RvT Γ F kvs ds → F a = none → OR Γ F H (some (.ref a)) (.dct true ds)
  | ins {a dx : Addr} {c : String} {fvs : List (Str × V)} {fs : List (String × D)} : H a = some (.ins (Γ.cls c) dx fvs) → RvF Γ F fvs fs → InsOk Γ c fs → F a = none → OR Γ F H (some (.ref a)) (.ins c fs)
/-- an owned thing's address -/
theorem OR.addr {Γ : Gm} {F H : Hp} {v : Option V} {o : O} (h : OR Γ F H v o) (w : o.own = true) : ∃ a u, v = some (.ref a) ∧ F a = none ∧ H a = some u := by
  cases h with
  | no => cases w
  | fz _ => cases w
  | lst h _ _ n => exact ⟨_, _, rfl, n, h⟩
  | dK h _ n => exact ⟨_, _, rfl, n, h⟩
  | dT h _ n => exact ⟨_, _, rfl, n, h⟩
  | ins h _ _ n => exact ⟨_, _, rfl, n, h⟩
/-- it stands while its own address and the frozen part stand -/
theorem OR.keep {Γ : Gm} {F F' H H' : Hp} {v : Option V} {o : O} (h : OR Γ F H v o) (s : Sub F F') (k : ∀ a u, o.own = true → v = some (.ref a) → H a = some u → H' a = some u) (n : ∀ a, o.own = true → v = some (.ref a) → F' a = none) : OR Γ F' H' v o := by
  cases h with
  | no => exact .no
  | fz r => exact .fz (r.mono s)
  | lst h z r _ => exact .lst (k _ _ rfl rfl h) z (r.mono s) (n _ rfl rfl)
  | dK h r _ => exact .dK (k _ _ rfl rfl h) (r.mono s) (n _ rfl rfl)
  | dT h r _ => exact .dT (k _ _ rfl rfl h) (r.mono s) (n _ rfl rfl)
  | ins h r i _ => exact .ins (k _ _ rfl rfl h) (r.mono s) i (n _ rfl rfl)

/-- slot i owns a -/
def OwnAt (σ : St) (env : List O) (i : Nat) (a : Addr) : Prop := σ[i]? = some (some (.ref a)) ∧ ∃ o, env[i]? = some o ∧ o.own = true
def Own (σ : St) (env : List O) (a : Addr) : Prop := ∃ i, OwnAt σ env i a
structure Wr (Γ : Gm) (F H : Hp) (σ : St) (env : List O) : Prop where
  sub : Sub F H
  len : σ.length = env.length
  rel : ∀ (i : Nat) (v : Option V) (o : O), σ[i]? = some v → env[i]? = some o → OR Γ F H v o
  dis : ∀ (i j : Nat) (a : Addr), OwnAt σ env i a → OwnAt σ env j a → i = j
theorem Wr.ownF {Γ : Gm} {F H : Hp} {σ : St} {env : List O} (w : Wr Γ F H σ env) {a : Addr} (h : Own σ env a) : F a = none ∧ ∃ u, H a = some u := by
  obtain ⟨i, h1, o, h2, h3⟩ := h
  obtain ⟨b, u, e, n, q⟩ := (w.rel i _ o h1 h2).addr h3
  cases e
  exact ⟨n, u, q⟩

/-- the world goes on: S was owned, S' is -/
structure Stp (F H : Hp) (S : Addr → Prop) (F' H' : Hp) (S' : Addr → Prop) : Prop where
  sub : Sub F F'
  new : ∀ a o, F' a = some o → F a = some o ∨ H a = none ∨ S a
  keep : ∀ a o, H a = some o → ¬ S a → H' a = some o
  own : ∀ a, S' a → S a ∨ H a = none
theorem Stp.refl {F H : Hp} {S : Addr → Prop} : Stp F H S F H S := ⟨.refl, fun _ _ h => .inl h, fun _ _ h _ => h, fun _ h => .inl h⟩
theorem Stp.trans {F H F' H' F'' H'' : Hp} {S S' S'' : Addr → Prop} (a : Stp F H S F' H' S') (b : Stp F' H' S' F'' H'' S'') : Stp F H S F'' H'' S'' := by
  have key : ∀ x, H' x = none → H x = none ∨ S x := fun x h => by
    by_cases hs : S x
    · exact .inr hs
    · cases e : H x with
      | none => exact .inl rfl
      | some u => rw [a.keep x u e hs] at h; cases h
  refine ⟨a.sub.trans b.sub, fun x o h => ?_, fun x o h n => ?_, fun x h => ?_⟩
  · rcases b.new x o h with h | h | h
    · exact a.new x o h
    · exact .inr (key x h)
    · rcases a.own x h with h | h
      · exact .inr (.inr h)
      · exact .inr (.inl h)
  · refine b.keep x o (a.keep x o h n) fun q => ?_
    rcases a.own x q with q | q
    · exact n q
    · rw [h] at q; cases q
  · rcases b.own x h with h | h
    · exact a.own x h
    · exact (key x h).symm
theorem Stp.weak {F H F' H' : Hp} {S S' T : Addr → Prop} (a : Stp F H S F' H' S') (h : ∀ x, T x → S' x ∨ H x = none ∨ S x) : Stp F H S F' H' T :=
  ⟨a.sub, a.new, a.keep, fun x t => by
    rcases h x t with q | q | q
    · exact a.own x q
    · exact .inr q
    · exact .inl q⟩

/-! ## results -/
inductive Rs where
  | fz (d : D) | bor (i : Nat) | ow (o : O)
structure Ex where
  c : String
  fs : List (String × D)
inductive Ot (α : Type) where
  | ok (a : α) (s : List O)
  | ex (e : Ex) (s : List O)
abbrev M (α : Type) := List O → Option (Ot α)
def M.bind {α β : Type} (m : M α) (f : α → M β) : M β := fun s => match m s with
  | none => none
  | some (.ex e s') => some (.ex e s')
  | some (.ok a s') => f a s'
def M.pure {α : Type} (a : α) : M α := fun s => some (.ok a s)
abbrev SE := M Rs

/-- the value v is the result r -/
def RR (Γ : Gm) (F H : Hp) (σ : St) (env : List O) (v : V) : Rs → Prop
  | .fz d => Rv Γ F v d
  | .bor i => σ[i]? = some (some v) ∧ ∃ o, env[i]? = some o ∧ o.own = true
  | .ow o => OR Γ F H (some v) o ∧ o.own = true ∧ ∀ a, v = .ref a → ¬ Own σ env a
def OwnR (σ : St) (env : List O) (v : V) : Rs → Addr → Prop
  | .ow _, a => Own σ env a ∨ v = .ref a
  | _, a => Own σ env a
/-- an exception as it lies -/
def XR (Γ : Gm) (F H : Hp) (cls : Value) (dd : Option Addr) (e : Ex) : Prop :=
  cls = .ref (Γ.cls e.c) ∧ ((dd = none ∧ e.fs = []) ∨ ∃ d fvs, dd = some d ∧ H d = some (.xd fvs) ∧ RvF Γ F fvs e.fs)

def PostE (Γ : Gm) (W : St → XK) (F H : Hp) (σ : St) (env : List O) (Q : VK) : Ot Rs → Prop
  | .ok r env' => ∀ v F' H', Wr Γ F' H' σ env' → RR Γ F' H' σ env' v r → Stp F H (Own σ env) F' H' (OwnR σ env' v r) → Q v H'
  | .ex e env' => ∀ cls dd F' H', Wr Γ F' H' σ env' → XR Γ F' H' cls dd e → Stp F H (Own σ env) F' H' (Own σ env') → W σ cls dd H'
def SimE (Γ : Gm) (W : St → XK) (t : TE) (f : SE) : Prop :=
  ∀ (F H : Hp) (σ : St) (env : List O) (res : Ot Rs) (Q : VK), Wr Γ F H σ env → f env = some res → PostE Γ W F H σ env Q res → t σ H Q
/-- an expression is worth f -/
def EE (X : Cx) (Γ : Gm) (W : St → XK) (e : Expr) (f : SE) : Prop := ∃ t, PE X e t ∧ SimE Γ W t f

/-! ### operands -/
def O.toD : O → D := fun o => (o.view).getD .non
/-- an operand: what is owned and new is frozen -/
def opd (f : SE) : SE := fun s => match f s with
  | some (.ok (.ow o) s') => match o.view with
    | some d => some (.ok (.fz d) s')
    | none => none
  | r => r
def vw (s : List O) : Rs → Option D
  | .fz d => some d
  | .bor i => (s[i]?).bind O.view
  | .ow o => o.view
/-- read as data by its own object in H, by its parts in F -/
def Vw (Γ : Gm) (F H : Hp) (v : V) (d : D) : Prop := Rv Γ F v d ∨ ∃ o, o.own = true ∧ OR Γ F H (some v) o ∧ o.view = some d

end Ev
-- EvB
set_option Elab.async false
set_option linter.all false
set_option maxRecDepth 100000
set_option maxHeartbeats 2000000
namespace Ev
open PySem PySem.Spec L2
open PyProof.Rows hiding St

section
variable {Γ : Gm} {F F' H H' : Hp} {σ : St} {env : List O}

theorem OwnAt.set_ne {i j : Nat} {o : O} {a : Addr} (h : OwnAt σ (env.set i o) j a) (n : j ≠ i) : OwnAt σ env j a := by
  obtain ⟨h1, o', h2, h3⟩ := h
  rw [List.getElem?_set_ne (Ne.symm n)] at h2
  exact ⟨h1, o', h2, h3⟩
theorem OwnAt.set_self {i : Nat} {o : O} {a : Addr} (h : OwnAt σ (env.set i o) i a) : o.own = true ∧ σ[i]? = some (some (.ref a)) := by
  obtain ⟨h1, o', h2, h3⟩ := h
  have hl : i < env.length := by
    have := (List.getElem?_eq_some_iff.mp h2).1
    simpa using this
  rw [List.getElem?_set_self hl] at h2
  cases h2
  exact ⟨h3, h1⟩
/-- another world, the slots as they are -/
theorem Wr.mono (w : Wr Γ F H σ env) (s : Sub F F') (s' : Sub F' H') (k : ∀ a u, Own σ env a → H a = some u → H' a = some u ∧ F' a = none) : Wr Γ F' H' σ env where
  sub := s'
  len := w.len
  rel := fun i v o h1 h2 => (w.rel i v o h1 h2).keep s (fun a u ho hv hu => (k a u ⟨i, by rw [h1, hv], o, h2, ho⟩ hu).1) fun a ho hv => by
    obtain ⟨b, u, e, _, hu⟩ := (w.rel i v o h1 h2).addr ho
    have : a = b := by rw [hv] at e; cases e; rfl
    subst this
    exact (k a u ⟨i, by rw [h1, hv], o, h2, ho⟩ hu).2
  dis := w.dis
/-- another world, one slot holds something else (its value is the same) -/
theorem Wr.gen (w : Wr Γ F H σ env) {i : Nat} {v : Option V} {o' : O} (hi : σ[i]? = some v) (s : Sub F F') (s' : Sub F' H')
    (k : ∀ j a u, j ≠ i → OwnAt σ env j a → H a = some u → H' a = some u ∧ F' a = none) (h : OR Γ F' H' v o')
    (n : ∀ a, o'.own = true → v = some (.ref a) → ∀ j, j ≠ i → ¬ OwnAt σ env j a) : Wr Γ F' H' σ (env.set i o') where
  sub := s'
  len := by rw [List.length_set]; exact w.len
  rel := fun j v' o h1 h2 => by
    by_cases e : j = i
    · subst e
      have hl : j < env.length := by
        have := (List.getElem?_eq_some_iff.mp h2).1
        simpa using this
      rw [List.getElem?_set_self hl] at h2
      cases h2
      rw [hi] at h1; cases h1
      exact h
    · rw [List.getElem?_set_ne (Ne.symm e)] at h2
      refine (w.rel j v' o h1 h2).keep s (fun a u ho hv hu => (k j a u e ⟨by rw [h1, hv], o, h2, ho⟩ hu).1) fun a ho hv => ?_
      obtain ⟨b, u, e', _, hu⟩ := (w.rel j v' o h1 h2).addr ho
      have : a = b := by rw [hv] at e'; cases e'; rfl
      subst this
      exact (k j a u e ⟨by rw [h1, hv], o, h2, ho⟩ hu).2
  dis := fun j l a h1 h2 => by
    by_cases e1 : j = i
    · by_cases e2 : l = i
      · rw [e1, e2]
      · subst e1
        obtain ⟨q1, q2⟩ := h1.set_self
        rw [hi] at q2
        exact absurd (h2.set_ne e2) (n a q1 (Option.some.inj q2) l e2)
    · by_cases e2 : l = i
      · subst e2
        obtain ⟨q1, q2⟩ := h2.set_self
        rw [hi] at q2
        exact absurd (h1.set_ne e1) (n a q1 (Option.some.inj q2) j e1)
      · exact w.dis j l a (h1.set_ne e1) (h2.set_ne e2)
/-- forgetting a slot's content -/
theorem Wr.forget (w : Wr Γ F H σ env) (i : Nat) : Wr Γ F H σ (env.set i .no) := by
  by_cases h : i < σ.length
  · exact w.gen (v := σ[i]) (by simp [h]) Sub.refl w.sub (fun j a u e o hu => ⟨hu, (w.ownF ⟨j, o⟩).1⟩) .no (fun a ho => by cases ho)
  · rw [List.set_eq_of_length_le (by rw [← w.len]; omega)]
    exact w
theorem Own.set_sub {i : Nat} {o : O} {a : Addr} (h : Own σ (env.set i o) a) (ho : o.own = true → ∃ o', env[i]? = some o' ∧ o'.own = true) : Own σ env a := by
  obtain ⟨j, hj⟩ := h
  by_cases e : j = i
  · subst e
    obtain ⟨q1, q2⟩ := hj.set_self
    exact ⟨j, q2, ho q1⟩
  · exact ⟨j, hj.set_ne e⟩

/-- an object of its own becomes frozen -/
theorem OR.frz {v : V} {o : O} {d : D} (r : OR Γ F H (some v) o) (ho : o.own = true) (hd : o.view = some d) :
    ∃ a u, v = .ref a ∧ H a = some u ∧ F a = none ∧ Rv Γ (upd F a u) v d := by
  have ext : ∀ {a u}, F a = none → Sub F (upd F a u) := fun {a u} n b w e => by
    by_cases hb : b = a
    · subst hb; rw [n] at e; cases e
    · rw [upd_ne hb]; exact e
  cases r with
  | no => cases ho
  | fz _ => cases ho
  | lst h z r n => cases hd; exact ⟨_, _, rfl, h, n, .lst upd_same z (r.mono (ext n))⟩
  | dK h r n => cases hd; exact ⟨_, _, rfl, h, n, .dK upd_same (r.mono (ext n))⟩
  | dT h r n => cases hd; exact ⟨_, _, rfl, h, n, .dT upd_same (r.mono (ext n))⟩
  | ins h r i n => cases hd; exact ⟨_, _, rfl, h, n, .ins upd_same (r.mono (ext n)) i⟩
theorem sub_upd {a : Addr} {u : HO} (n : F a = none) : Sub F (upd F a u) := fun b w e => by
  by_cases hb : b = a
  · subst hb; rw [n] at e; cases e
  · rw [upd_ne hb]; exact e
theorem sub_updH {a : Addr} {u : HO} (s : Sub F H) (h : H a = some u) : Sub (upd F a u) H := fun b w e => by
  by_cases hb : b = a
  · subst hb; rw [upd_same] at e; cases e; exact h
  · rw [upd_ne hb] at e; exact s b w e
/-- a slot is frozen -/
theorem Wr.freeze (w : Wr Γ F H σ env) {i : Nat} {v : V} {o : O} {d : D} (hi : σ[i]? = some (some v)) (he : env[i]? = some o) (hd : o.view = some d) :
    ∃ F', Wr Γ F' H σ (env.set i (.fz d)) ∧ Rv Γ F' v d ∧ Stp F H (Own σ env) F' H (Own σ (env.set i (.fz d))) := by
  have r := w.rel i _ o hi he
  cases ho : o.own with
  | false =>
    cases o with
    | fz e =>
      cases hd
      cases r with
      | fz r =>
        refine ⟨F, w.gen hi Sub.refl w.sub (fun j a u e o hu => ⟨hu, (w.ownF ⟨j, o⟩).1⟩) (.fz r) (fun a ho => by cases ho), r, Stp.refl.weak fun x h => .inl (h.set_sub fun q => by cases q)⟩
    | no => cases hd
    | _ => cases ho
  | true =>
    obtain ⟨a, u, e, hu, hn, rv⟩ := r.frz ho hd
    subst e
    have own : OwnAt σ env i a := ⟨hi, o, he, ho⟩
    refine ⟨upd F a u, w.gen hi (sub_upd hn) (sub_updH w.sub hu) (fun j b u' e q hu' => ⟨hu', ?_⟩) (.fz rv) (fun a ho => by cases ho), rv, ⟨sub_upd hn, fun b w' e => ?_, fun b w' e _ => e, fun b h => ?_⟩⟩
    · have : b ≠ a := fun z => e (w.dis j i a (z ▸ q) own)
      rw [upd_ne this]
      exact (w.ownF ⟨j, q⟩).1
    · by_cases hb : b = a
      · subst hb; exact .inr (.inr ⟨i, own⟩)
      · rw [upd_ne hb] at e; exact .inl e
    · exact .inl (h.set_sub fun q => by cases q)
/-- something new and owned becomes frozen -/
theorem Wr.freezeR (w : Wr Γ F H σ env) {v : V} {o : O} {d : D} (r : RR Γ F H σ env v (.ow o)) (hd : o.view = some d) :
    ∃ F', Wr Γ F' H σ env ∧ Rv Γ F' v d ∧ Stp F H (OwnR σ env v (.ow o)) F' H (Own σ env) := by
  obtain ⟨r, ho, hn⟩ := r
  obtain ⟨a, u, e, hu, hf, rv⟩ := r.frz ho hd
  subst e
  refine ⟨upd F a u, w.mono (sub_upd hf) (sub_updH w.sub hu) (fun b u' q hu' => ⟨hu', ?_⟩), rv, ⟨sub_upd hf, fun b w' e => ?_, fun b w' e _ => e, fun b h => .inl (.inl h)⟩⟩
  · have : b ≠ a := fun z => hn a rfl (z ▸ q)
    rw [upd_ne this]
    exact (w.ownF q).1
  · by_cases hb : b = a
    · subst hb; exact .inr (.inr (.inr rfl))
    · rw [upd_ne hb] at e; exact .inl e
end

/-! ## operands -/
theorem Rv.vw {Γ : Gm} {F H : Hp} {v : V} {d : D} (h : Rv Γ F v d) : Vw Γ F H v d := .inl h
/-- the result of an operand is never new and owned -/
def Rs.opn : Rs → Bool
  | .ow _ => false
  | _ => true
theorem opd_opn {f : SE} {env : List O} {r : Rs} {env' : List O} (h : opd f env = some (.ok r env')) : r.opn = true := by
  unfold opd at h
  split at h
  · split at h
    · cases h; rfl
    · cases h
  · rename_i hno
    cases r with
    | ow o => exact absurd h (hno o env')
    | fz d => rfl
    | bor i => rfl
theorem SimE.opd {Γ : Gm} {W : St → XK} {t : TE} {f : SE} (h : SimE Γ W t f) : SimE Γ W t (opd f) := by
  intro F H σ env res Q w hf post
  cases e : f env with
  | none =>
    have : Ev.opd f env = none := by unfold Ev.opd; rw [e]
    rw [this] at hf; cases hf
  | some res0 =>
    refine h F H σ env res0 Q w e ?_
    cases res0 with
    | ex ee s' =>
      have : Ev.opd f env = some (.ex ee s') := by unfold Ev.opd; rw [e]
      rw [this] at hf; cases hf
      exact post
    | ok r s' =>
      cases r with
      | fz d =>
        have : Ev.opd f env = some (.ok (.fz d) s') := by unfold Ev.opd; rw [e]
        rw [this] at hf; cases hf
        exact post
      | bor d =>
        have : Ev.opd f env = some (.ok (.bor d) s') := by unfold Ev.opd; rw [e]
        rw [this] at hf; cases hf
        exact post
      | ow o =>
        cases hd : o.view with
        | none =>
          have : Ev.opd f env = none := by unfold Ev.opd; rw [e]; simp only [hd]
          rw [this] at hf; cases hf
        | some d =>
          have : Ev.opd f env = some (.ok (.fz d) s') := by unfold Ev.opd; rw [e]; simp only [hd]
          rw [this] at hf; cases hf
          intro v F' H' w' r' st
          obtain ⟨F2, w2, rv, st2⟩ := w'.freezeR r' hd
          exact post v F2 H' w2 rv (st.trans st2)
/-- what an operand's result reads as, at the end -/
theorem RR.vw {Γ : Gm} {F F' H H' : Hp} {σ : St} {env env' : List O} {v : V} {r : Rs} {d : D} (h : RR Γ F H σ env v r) (ho : r.opn = true) (w : Wr Γ F' H' σ env') (s : Sub F F') (e : vw env' r = some d) : Vw Γ F' H' v d := by
  cases r with
  | fz d' => cases e; exact .inl (Rv.mono s h)
  | ow o => cases ho
  | bor i =>
    obtain ⟨h1, _⟩ := h
    have e : (env'[i]?).bind O.view = some d := e
    cases q : env'[i]? with
    | none => rw [q] at e; cases e
    | some o =>
      rw [q] at e
      have e : o.view = some d := e
      have r := w.rel i _ o h1 q
      cases o with
      | no => cases e
      | fz d' => cases e; cases r with | fz r => exact .inl r
      | lst ds => exact .inr ⟨_, rfl, r, e⟩
      | dct t kvs => exact .inr ⟨_, rfl, r, e⟩
      | ins c fs => exact .inr ⟨_, rfl, r, e⟩

/-! ## new things -/
/-- from F, H: v is the result o, new or frozen, all else stands -/
structure Gr (Γ : Gm) (F H : Hp) (v : V) (o : O) (F' H' : Hp) : Prop where
  sub : Sub F F'
  subH : Sub F' H'
  keep : Sub H H'
  new : ∀ a u, F' a = some u → F a = some u ∨ H a = none
  rel : OR Γ F' H' (some v) o
  fresh : ∀ a, o.own = true → v = .ref a → H a = none
def rsO : O → Rs
  | .fz d => .fz d
  | o => .ow o
/-- a rule's result -/
def QR (Γ : Gm) (F H : Hp) (o : O) (Q : VK) : Prop := ∀ v F' H', Gr Γ F H v o F' H' → Q v H'
theorem gr_frz {Γ : Gm} {F H : Hp} {v : V} {d : D} (s : Sub F H) (r : Rv Γ F v d) : Gr Γ F H v (.fz d) F H :=
  ⟨.refl, s, .refl, fun _ _ h => .inl h, .fz r, fun _ h => by cases h⟩
theorem sub_new {H : Hp} {p : Addr} {o : HO} (h : H p = none) : Sub H (upd H p o) := sub_upd h
theorem none_of_sub {F H : Hp} (s : Sub F H) {p : Addr} (h : H p = none) : F p = none := by
  cases e : F p with
  | none => rfl
  | some u => rw [s _ _ e] at h; cases h
/-- a new list -/
theorem gr_lst {Γ : Gm} {F H : Hp} {p : Addr} {vs : List V} {ds : List D} (s : Sub F H) (hp : H p = none) (z : vs.length ≤ sizeLine) (r : RvL Γ F vs ds) : Gr Γ F H (.ref p) (.lst ds) F (upd H p (.lst vs)) :=
  ⟨.refl, s.trans (sub_new hp), sub_new hp, fun _ _ h => .inl h, .lst upd_same z r (none_of_sub s hp), fun a _ e => by cases e; exact hp⟩
/-- a new tuple -/
theorem gr_tup {Γ : Gm} {F H : Hp} {p : Addr} {vs : List V} {ds : List D} (s : Sub F H) (hp : H p = none) (z : vs.length ≤ sizeLine) (r : RvL Γ F vs ds) : Gr Γ F H (.ref p) (.fz (.tup ds)) (upd F p (.tup vs)) (upd H p (.tup vs)) where
  sub := sub_upd (none_of_sub s hp)
  subH := fun b w e => by
    by_cases hb : b = p
    · subst hb; rw [upd_same] at e ⊢; exact e
    · rw [upd_ne hb] at e ⊢; exact s b w e
  keep := sub_new hp
  new := fun a u e => by
    by_cases hb : a = p
    · subst hb; exact .inr hp
    · rw [upd_ne hb] at e; exact .inl e
  rel := .fz (.tup upd_same z (r.mono (sub_upd (none_of_sub s hp))))
  fresh := fun a h => by cases h
theorem gr_dK {Γ : Gm} {F H : Hp} {p : Addr} {kvs : List (Key × V)} {ds : List (D × D)} (s : Sub F H) (hp : H p = none) (r : RvK Γ F kvs ds) : Gr Γ F H (.ref p) (.dct false ds) F (upd H p (.dK kvs)) :=
  ⟨.refl, s.trans (sub_new hp), sub_new hp, fun _ _ h => .inl h, .dK upd_same r (none_of_sub s hp), fun a _ e => by cases e; exact hp⟩
theorem gr_dT {Γ : Gm} {F H : Hp} {p : Addr} {kvs : List (List Key × V)} {ds : List (D × D)} (s : Sub F H) (hp : H p = none) (r : RvT Γ F kvs ds) : Gr Γ F H (.ref p) (.dct true ds) F (upd H p (.dT kvs)) :=
  ⟨.refl, s.trans (sub_new hp), sub_new hp, fun _ _ h => .inl h, .dT upd_same r (none_of_sub s hp), fun a _ e => by cases e; exact hp⟩

/-- a rule's result closes the post -/
theorem QR.post {Γ : Gm} {W : St → XK} {F H F1 H1 : Hp} {σ : St} {env env1 : List O} {o : O} {Q : VK} (w1 : Wr Γ F1 H1 σ env1) (st : Stp F H (Own σ env) F1 H1 (Own σ env1))
    (ho : o ≠ .no) (post : PostE Γ W F H σ env Q (.ok (rsO o) env1)) : QR Γ F1 H1 o Q := by
  intro v F2 H2 g
  have w2 : Wr Γ F2 H2 σ env1 := w1.mono g.sub g.subH fun a u q hu => ⟨g.keep _ _ hu, by
    cases e : F2 a with
    | none => rfl
    | some z =>
      rcases g.new a z e with h | h
      · rw [(w1.ownF q).1] at h; cases h
      · rw [hu] at h; cases h⟩
  have st2 : ∀ (S' : Addr → Prop), (∀ a, S' a → Own σ env1 a ∨ H1 a = none) → Stp F1 H1 (Own σ env1) F2 H2 S' := fun S' h =>
    ⟨g.sub, fun a u e => (g.new a u e).elim .inl fun z => .inr (.inl z), fun a u e _ => g.keep a u e, h⟩
  have post' : ∀ v F' H', Wr Γ F' H' σ env1 → RR Γ F' H' σ env1 v (rsO o) → Stp F H (Own σ env) F' H' (OwnR σ env1 v (rsO o)) → Q v H' := post
  have frr : ∀ a, o.own = true → v = .ref a → ¬ Own σ env1 a := fun a h e q => by
    have z := g.fresh a h e
    obtain ⟨_, u, hu⟩ := w1.ownF q
    rw [hu] at z; cases z
  cases o with
  | no => exact absurd rfl ho
  | fz d =>
    have r := g.rel
    cases r with
    | fz r => exact post' v F2 H2 w2 r (st.trans (st2 _ fun a h => .inl h))
  | lst ds => exact post' v F2 H2 w2 ⟨g.rel, rfl, fun a e => frr a rfl e⟩ (st.trans (st2 _ fun a h => h.elim .inl fun e => .inr (g.fresh a rfl e)))
  | dct t ds => exact post' v F2 H2 w2 ⟨g.rel, rfl, fun a e => frr a rfl e⟩ (st.trans (st2 _ fun a h => h.elim .inl fun e => .inr (g.fresh a rfl e)))
  | ins c ds => exact post' v F2 H2 w2 ⟨g.rel, rfl, fun a e => frr a rfl e⟩ (st.trans (st2 _ fun a h => h.elim .inl fun e => .inr (g.fresh a rfl e)))

/-! ## one, two operands -/
def ret (φ : Option O) : SE := fun s => match φ with
  | some .no => none
  | some o => some (.ok (rsO o) s)
  | none => none
def prim1 (f : SE) (φ : D → Option O) : SE := M.bind (opd f) fun r s => ret ((vw s r).bind φ) s
def prim2 (f g : SE) (φ : D → D → Option O) : SE := M.bind (opd f) fun r => M.bind (opd g) fun r' s => ret ((vw s r).bind fun d => (vw s r').bind fun e => φ d e) s
/-- a rule of one value, of two -/
def P1 (Γ : Gm) (r : V → Hp → VK → Prop) (φ : D → Option O) : Prop := ∀ (F H : Hp) (x : V) (d : D) (o : O) (Q : VK), Sub F H → Vw Γ F H x d → φ d = some o → QR Γ F H o Q → r x H Q
def P2 (Γ : Gm) (r : R2) (φ : D → D → Option O) : Prop := ∀ (F H : Hp) (x y : V) (d e : D) (o : O) (Q : VK), Sub F H → Vw Γ F H x d → Vw Γ F H y e → φ d e = some o → QR Γ F H o Q → r x y H Q

theorem M.bind_some {α β : Type} {m : M α} {f : α → M β} {s : List O} {res : Ot β} (h : M.bind m f s = some res) : (∃ e s', m s = some (.ex e s') ∧ res = .ex e s') ∨ ∃ a s', m s = some (.ok a s') ∧ f a s' = some res := by
  unfold M.bind at h
  split at h
  · cases h
  · rename_i e s' q; cases h; exact .inl ⟨e, s', q, rfl⟩
  · rename_i a s' q; exact .inr ⟨a, s', q, h⟩
theorem ret_some {φ : Option O} {s : List O} {res : Ot Rs} (h : ret φ s = some res) : ∃ o, φ = some o ∧ o ≠ .no ∧ res = .ok (rsO o) s := by
  unfold ret at h
  split at h
  · cases h
  · rename_i o q; cases h; exact ⟨o, rfl, fun e => q (by rw [e]), rfl⟩
  · cases h
theorem PostE.ex_trans {Γ : Gm} {W : St → XK} {F H F1 H1 : Hp} {σ : St} {env env1 : List O} {Q Q' : VK} {e : Ex} {s' : List O} (st : Stp F H (Own σ env) F1 H1 (Own σ env1)) (p : PostE Γ W F H σ env Q (.ex e s')) : PostE Γ W F1 H1 σ env1 Q' (.ex e s') :=
  fun cls dd F' H' w x s => p cls dd F' H' w x (st.trans s)

theorem SimE.prim1 {Γ : Gm} {W : St → XK} {ta : TE} {f : SE} {φ : D → Option O} {r : V → Hp → VK → Prop} (ha : SimE Γ W ta f) (hp : P1 Γ r φ) : SimE Γ W (tUn r ta) (prim1 f φ) := by
  intro F H σ env res Q w hf post
  rcases M.bind_some hf with ⟨e, s', h1, rfl⟩ | ⟨a, s', h1, h2⟩
  · exact ha.opd F H σ env _ _ w h1 post
  · refine ha.opd F H σ env _ _ w h1 fun v F1 H1 w1 r1 st1 => ?_
    have on := opd_opn h1
    obtain ⟨o, ho, hno, rfl⟩ := ret_some h2
    cases hv : vw s' a with
    | none => rw [hv] at ho; cases ho
    | some d =>
      rw [hv] at ho
      have st1' : Stp F H (Own σ env) F1 H1 (Own σ s') := st1.weak fun x h => .inl (by cases a <;> first | exact h | exact .inl h)
      exact hp F1 H1 v d o Q w1.sub (r1.vw on w1 Sub.refl hv) ho (QR.post w1 st1' hno post)
theorem SimE.prim2 {Γ : Gm} {W : St → XK} {ta tb : TE} {f g : SE} {φ : D → D → Option O} {r : R2} (ha : SimE Γ W ta f) (hb : SimE Γ W tb g) (hp : P2 Γ r φ) : SimE Γ W (tOp r ta tb) (prim2 f g φ) := by
  intro F H σ env res Q w hf post
  rcases M.bind_some hf with ⟨e, s', h1, rfl⟩ | ⟨a, s', h1, h2⟩
  · exact ha.opd F H σ env _ _ w h1 post
  · refine ha.opd F H σ env _ _ w h1 fun v F1 H1 w1 r1 st1 => ?_
    have on := opd_opn h1
    have st1' : Stp F H (Own σ env) F1 H1 (Own σ s') := st1.weak fun x h => .inl (by cases a <;> first | exact h | exact .inl h)
    rcases M.bind_some h2 with ⟨e, s2, h3, rfl⟩ | ⟨b, s2, h3, h4⟩
    · exact hb.opd F1 H1 σ s' _ _ w1 h3 (PostE.ex_trans st1' post)
    · refine hb.opd F1 H1 σ s' _ _ w1 h3 fun u F2 H2 w2 r2 st2 => ?_
      have on2 := opd_opn h3
      have st2' : Stp F1 H1 (Own σ s') F2 H2 (Own σ s2) := st2.weak fun x h => .inl (by cases b <;> first | exact h | exact .inl h)
      obtain ⟨o, ho, hno, rfl⟩ := ret_some h4
      cases hv : vw s2 a with
      | none => rw [hv] at ho; cases ho
      | some d =>
        rw [hv] at ho
        cases hu : vw s2 b with
        | none =>
          have ho : (vw s2 b).bind (φ d) = some o := ho
          rw [hu] at ho; cases ho
        | some e =>
          have ho : (vw s2 b).bind (φ d) = some o := ho
          rw [hu] at ho
          have r1' : Vw Γ F2 H2 v d := r1.vw on w2 st2.sub hv
          exact hp F2 H2 v u d e o Q w2.sub r1' (r2.vw on2 w2 Sub.refl hu) ho (QR.post w2 (st1'.trans st2') hno post)
end Ev
-- EvC
set_option Elab.async false
set_option linter.all false
set_option maxRecDepth 100000
set_option maxHeartbeats 2000000
namespace Ev
open PySem PySem.Spec L2
open PyProof.Rows hiding St

/-! ## plain data -/
mutual
def D.p : D → PyData
  | .non => .none
  | .bl b => .bool b
  | .int i => .int i
  | .str s => .str s
  | .tup xs => .tuple (D.pAll xs)
  | .lst xs => .list (D.pAll xs)
  | .dct _ _ => .none
  | .ins _ _ => .none
  | .scr _ => .none
  | .obj _ => .none
def D.pAll : List D → List PyData
  | [] => []
  | x :: xs => D.p x :: D.pAll xs
end
mutual
def D.plain : D → Bool
  | .non => true
  | .bl _ => true
  | .int _ => true
  | .str s => PyData.strOk s
  | .tup xs => D.plainAll xs
  | .lst xs => D.plainAll xs
  | .dct _ _ => false
  | .ins _ _ => false
  | .scr _ => false
  | .obj _ => false
def D.plainAll : List D → Bool
  | [] => true
  | x :: xs => D.plain x && D.plainAll xs
end
theorem D.pAll_map (xs : List D) : D.pAll xs = xs.map D.p := by
  induction xs with
  | nil => rw [D.pAll]; rfl
  | cons x xs ih => rw [D.pAll, ih]; rfl
theorem D.plainAll_all (xs : List D) : D.plainAll xs = xs.all D.plain := by
  induction xs with
  | nil => rw [D.plainAll]; rfl
  | cons x xs ih => rw [D.plainAll, ih]; rfl
def okD (d : D) : Bool := d.plain && decide (d.p.depth ≤ 64)
mutual
theorem D.lay : ∀ d : D, d.plain = true → d.p.canLay0 = true
  | .non, _ => by simp [D.p, PyData.canLay0]
  | .bl _, _ => by simp [D.p, PyData.canLay0]
  | .int _, _ => by simp [D.p, PyData.canLay0]
  | .str s, h => by simpa [D.p, PyData.canLay0, D.plain] using h
  | .tup xs, h => by
    have := D.layAll xs (by simpa [D.plain] using h)
    simpa [D.p, PyData.canLay0] using this
  | .lst xs, h => by
    have := D.layAll xs (by simpa [D.plain] using h)
    simpa [D.p, PyData.canLay0] using this
  | .dct _ _, h => by simp [D.plain] at h
  | .ins _ _, h => by simp [D.plain] at h
  | .scr _, h => by simp [D.plain] at h
  | .obj _, h => by simp [D.plain] at h
theorem D.layAll : ∀ xs : List D, D.plainAll xs = true → PyData.canLayAll0 (D.pAll xs) = true
  | [], _ => by simp [D.pAll, PyData.canLayAll0]
  | x :: xs, h => by
    simp only [D.plainAll, Bool.and_eq_true] at h
    simp only [D.pAll, PyData.canLayAll0, Bool.and_eq_true]
    exact ⟨D.lay x h.1, D.layAll xs h.2⟩
end
theorem okD_shaped {d : D} (h : okD d = true) : SeqAt.shaped d.p = true := by
  unfold okD at h
  rw [Bool.and_eq_true] at h
  unfold SeqAt.shaped
  rw [Bool.and_eq_true]
  exact ⟨D.lay d h.1, h.2⟩
mutual
theorem Rv.dp {Γ : Gm} {F : Hp} : ∀ {v : V} {d : D}, Rv Γ F v d → d.plain = true → Dp Γ.K F v d.p
  | _, _, .non, _ => by simp only [D.p]; exact .non
  | _, _, .bl b, _ => by simp only [D.p]; exact .bl b
  | _, _, .int b, _ => by simp only [D.p]; exact .int b
  | _, _, .str b, _ => by simp only [D.p]; exact .str b
  | _, _, .tup h z r, p => by simp only [D.p]; exact .tup (SqT.of h) (RvL.dp r (by simpa [D.plain] using p))
  | _, _, .lst h z r, p => by simp only [D.p]; exact .lst (SqL.of h) (RvL.dp r (by simpa [D.plain] using p))
  | _, _, .dK h r, p => by simp [D.plain] at p
  | _, _, .dT h r, p => by simp [D.plain] at p
  | _, _, .ins h r k, p => by simp [D.plain] at p
  | _, _, .scr h z, p => by simp [D.plain] at p
  | _, _, .obj a, p => by simp [D.plain] at p
theorem RvL.dp {Γ : Gm} {F : Hp} : ∀ {vs : List V} {ds : List D}, RvL Γ F vs ds → D.plainAll ds = true → DpAll Γ.K F vs (D.pAll ds)
  | _, _, .nil, _ => by simp only [D.pAll]; exact .nil
  | _, _, .cons h r, p => by
    simp only [D.plainAll, Bool.and_eq_true] at p
    simp only [D.pAll]
    exact .cons (Rv.dp h p.1) (RvL.dp r p.2)
end
theorem SqT.sub {K : PySem.W.Frag} {F H : Hp} {a : Addr} {xs : List V} (s : Sub F H) (h : SqT K F a xs) : SqT K H a xs := by
  rcases h with h | h
  · rcases h with h | ⟨o, h⟩
    · exact .inl (.inl (s _ _ h))
    · exact .inl (.inr ⟨o, s _ _ h⟩)
  · exact .inr h
mutual
theorem dp_sub {K : PySem.W.Frag} {F H : Hp} (s : Sub F H) : ∀ {v : V} {d : PyData}, Dp K F v d → Dp K H v d
  | _, _, .non => .non
  | _, _, .bl b => .bl b
  | _, _, .int b => .int b
  | _, _, .str b => .str b
  | _, _, .lst h r => .lst (SqL.sub s h) (dpAll_sub s r)
  | _, _, .tup h r => .tup (SqT.sub s h) (dpAll_sub s r)
theorem dpAll_sub {K : PySem.W.Frag} {F H : Hp} (s : Sub F H) : ∀ {v : List V} {d : List PyData}, DpAll K F v d → DpAll K H v d
  | _, _, .nil => .nil
  | _, _, .cons h r => .cons (dp_sub s h) (dpAll_sub s r)
end
theorem Vw.dp {Γ : Gm} {F H : Hp} {v : V} {d : D} (s : Sub F H) (h : Vw Γ F H v d) (p : d.plain = true) : Dp Γ.K H v d.p := by
  rcases h with h | ⟨o, ho, r, e⟩
  · exact dp_sub s (h.dp p)
  · cases r with
    | no => cases ho
    | fz _ => cases ho
    | lst h z r n =>
      cases e
      simp only [D.p]
      exact .lst (SqL.of h) (dpAll_sub s (r.dp (by simpa [D.plain] using p)))
    | dK h r n => cases e; simp [D.plain] at p
    | dT h r n => cases e; simp [D.plain] at p
    | ins h r i n => cases e; simp [D.plain] at p

/-! ### views by kind -/
section
variable {Γ : Gm} {F H : Hp} {v : V}
theorem Vw.int {i : Int} (h : Vw Γ F H v (.int i)) : v = .int i := by
  rcases h with h | ⟨o, ho, r, e⟩
  · cases h; rfl
  · cases r with
    | no => cases ho
    | fz _ => cases ho
    | lst h z r n => cases e
    | dK h r n => cases e
    | dT h r n => cases e
    | ins h r i n => cases e
theorem Vw.bl {i : Bool} (h : Vw Γ F H v (.bl i)) : v = .bl i := by
  rcases h with h | ⟨o, ho, r, e⟩
  · cases h; rfl
  · cases r with
    | no => cases ho
    | fz _ => cases ho
    | lst h z r n => cases e
    | dK h r n => cases e
    | dT h r n => cases e
    | ins h r i n => cases e
theorem Vw.str {i : Str} (h : Vw Γ F H v (.str i)) : v = .str i := by
  rcases h with h | ⟨o, ho, r, e⟩
  · cases h; rfl
  · cases r with
    | no => cases ho
    | fz _ => cases ho
    | lst h z r n => cases e
    | dK h r n => cases e
    | dT h r n => cases e
    | ins h r i n => cases e
theorem Vw.non (h : Vw Γ F H v .non) : v = .non := by
  rcases h with h | ⟨o, ho, r, e⟩
  · cases h; rfl
  · cases r with
    | no => cases ho
    | fz _ => cases ho
    | lst h z r n => cases e
    | dK h r n => cases e
    | dT h r n => cases e
    | ins h r i n => cases e
theorem Vw.lst {ds : List D} (s : Sub F H) (h : Vw Γ F H v (.lst ds)) : ∃ a vs, v = .ref a ∧ H a = some (.lst vs) ∧ vs.length ≤ sizeLine ∧ RvL Γ F vs ds := by
  rcases h with h | ⟨o, ho, r, e⟩
  · cases h with | lst h z r => exact ⟨_, _, rfl, s _ _ h, z, r⟩
  · cases r with
    | no => cases ho
    | fz _ => cases ho
    | lst h z r n => cases e; exact ⟨_, _, rfl, h, z, r⟩
    | dK h r n => cases e
    | dT h r n => cases e
    | ins h r i n => cases e
theorem Vw.tup {ds : List D} (h : Vw Γ F H v (.tup ds)) : ∃ a vs, v = .ref a ∧ F a = some (.tup vs) ∧ vs.length ≤ sizeLine ∧ RvL Γ F vs ds := by
  rcases h with h | ⟨o, ho, r, e⟩
  · cases h with | tup h z r => exact ⟨_, _, rfl, h, z, r⟩
  · cases r with
    | no => cases ho
    | fz _ => cases ho
    | lst h z r n => cases e
    | dK h r n => cases e
    | dT h r n => cases e
    | ins h r i n => cases e
theorem Vw.dct {t : Bool} {ds : List (D × D)} (s : Sub F H) (h : Vw Γ F H v (.dct t ds)) : ∃ a, v = .ref a ∧ ((t = false ∧ ∃ kvs, H a = some (.dK kvs) ∧ RvK Γ F kvs ds) ∨ (t = true ∧ ∃ kvs, H a = some (.dT kvs) ∧ RvT Γ F kvs ds)) := by
  rcases h with h | ⟨o, ho, r, e⟩
  · cases h with
    | dK h r => exact ⟨_, rfl, .inl ⟨rfl, _, s _ _ h, r⟩⟩
    | dT h r => exact ⟨_, rfl, .inr ⟨rfl, _, s _ _ h, r⟩⟩
  · cases r with
    | no => cases ho
    | fz _ => cases ho
    | lst h z r n => cases e
    | dK h r n => cases e; exact ⟨_, rfl, .inl ⟨rfl, _, h, r⟩⟩
    | dT h r n => cases e; exact ⟨_, rfl, .inr ⟨rfl, _, h, r⟩⟩
    | ins h r i n => cases e
theorem Vw.ins {c : String} {fs : List (String × D)} (s : Sub F H) (h : Vw Γ F H v (.ins c fs)) : ∃ a dx fvs, v = .ref a ∧ H a = some (.ins (Γ.cls c) dx fvs) ∧ RvF Γ F fvs fs ∧ InsOk Γ c fs := by
  rcases h with h | ⟨o, ho, r, e⟩
  · cases h with | ins h r k => exact ⟨_, _, _, rfl, s _ _ h, r, k⟩
  · cases r with
    | no => cases ho
    | fz _ => cases ho
    | lst h z r n => cases e
    | dK h r n => cases e
    | dT h r n => cases e
    | ins h r i n => cases e; exact ⟨_, _, _, rfl, h, r, i⟩
theorem Vw.scr {ns : List Int} (s : Sub F H) (h : Vw Γ F H v (.scr ns)) : ∃ a, v = .ref a ∧ SqL Γ.K H a (ns.map V.int) ∧ ns.length ≤ sizeLine := by
  rcases h with h | ⟨o, ho, r, e⟩
  · cases h with | scr h z => exact ⟨_, rfl, SqL.sub s h, z⟩
  · cases r with
    | no => cases ho
    | fz _ => cases ho
    | lst h z r n => cases e
    | dK h r n => cases e
    | dT h r n => cases e
    | ins h r i n => cases e
theorem RvL.length {vs : List V} {ds : List D} (h : RvL Γ F vs ds) : vs.length = ds.length := by
  induction ds generalizing vs with
  | nil => cases h; rfl
  | cons d ds ih => cases h with | cons _ r => simp [ih r]
theorem RvL.get {vs : List V} {ds : List D} (h : RvL Γ F vs ds) : ∀ {i : Nat} {d : D}, ds[i]? = some d → ∃ v, vs[i]? = some v ∧ Rv Γ F v d := by
  induction ds generalizing vs with
  | nil => intro i d e; simp at e
  | cons x ds ih =>
    cases h with
    | cons q r =>
      intro i d e
      cases i with
      | zero => simp at e; subst e; exact ⟨_, rfl, q⟩
      | succ i => exact ih r (by simpa using e)
theorem RvL.append {vs ws : List V} {ds es : List D} (h : RvL Γ F vs ds) (k : RvL Γ F ws es) : RvL Γ F (vs ++ ws) (ds ++ es) := by
  induction ds generalizing vs with
  | nil => cases h; exact k
  | cons x ds ih => cases h with | cons q r => exact .cons q (ih r)
theorem RvL.take {vs : List V} {ds : List D} (h : RvL Γ F vs ds) : ∀ n : Nat, RvL Γ F (vs.take n) (ds.take n) := by
  induction ds generalizing vs with
  | nil => cases h; intro n; simp; exact .nil
  | cons x ds ih =>
    cases h with
    | cons q r =>
      intro n
      cases n with
      | zero => simp; exact .nil
      | succ n => simp; exact .cons q (ih r n)
theorem RvL.drop {vs : List V} {ds : List D} (h : RvL Γ F vs ds) : ∀ n : Nat, RvL Γ F (vs.drop n) (ds.drop n) := by
  induction ds generalizing vs with
  | nil => cases h; intro n; simp; exact .nil
  | cons x ds ih =>
    cases h with
    | cons q r =>
      intro n
      cases n with
      | zero => simp; exact .cons q r
      | succ n => simp; exact ih r n
theorem RvL.set {vs : List V} {ds : List D} {v : V} {d : D} (h : RvL Γ F vs ds) (q : Rv Γ F v d) : ∀ n : Nat, RvL Γ F (vs.set n v) (ds.set n d) := by
  induction ds generalizing vs with
  | nil => cases h; intro n; simp; exact .nil
  | cons x ds ih =>
    cases h with
    | cons z r =>
      intro n
      cases n with
      | zero => simp; exact .cons q r
      | succ n => simp; exact .cons z (ih r n)
theorem RvL.dropLast {vs : List V} {ds : List D} (h : RvL Γ F vs ds) : RvL Γ F vs.dropLast ds.dropLast := by
  rw [List.dropLast_eq_take, List.dropLast_eq_take, h.length]
  exact h.take _
theorem RvL.eraseIdx {vs : List V} {ds : List D} (h : RvL Γ F vs ds) : ∀ n : Nat, RvL Γ F (vs.eraseIdx n) (ds.eraseIdx n) := by
  induction ds generalizing vs with
  | nil => cases h; intro n; simp; exact .nil
  | cons x ds ih =>
    cases h with
    | cons z r =>
      intro n
      cases n with
      | zero => simp; exact r
      | succ n => simp; exact .cons z (ih r n)
theorem RvL.reverse {vs : List V} {ds : List D} (h : RvL Γ F vs ds) : RvL Γ F vs.reverse ds.reverse := by
  induction ds generalizing vs with
  | nil => cases h; simp; exact .nil
  | cons x ds ih => cases h with | cons q r => simp; exact (ih r).append (.cons q .nil)
theorem RvL.mem {vs : List V} {ds : List D} (h : RvL Γ F vs ds) {v : V} (hv : v ∈ vs) : ∃ d ∈ ds, Rv Γ F v d := by
  induction ds generalizing vs with
  | nil => cases h; cases hv
  | cons x ds ih =>
    cases h with
    | cons q r =>
      rcases List.mem_cons.mp hv with e | e
      · subst e; exact ⟨x, List.mem_cons_self, q⟩
      · obtain ⟨d, hd, hr⟩ := ih r e
        exact ⟨d, List.mem_cons_of_mem _ hd, hr⟩
end
theorem RvL.ints {Γ : Gm} {F : Hp} : ∀ (ns : List Int), RvL Γ F (ns.map V.int) (ns.map D.int)
  | [] => .nil
  | n :: ns => .cons (.int n) (RvL.ints ns)
end Ev
-- EvD
set_option Elab.async false
set_option linter.all false
set_option maxRecDepth 100000
set_option maxHeartbeats 2000000
namespace Ev
open PySem PySem.Spec L2
open PyProof.Rows hiding St

/-! ## what the operators do with data -/
abbrev fits (n : Nat) : Prop := n ≤ sizeLine
def addD : D → D → Option O
  | .int i, .int j => some (.fz (.int (i + j)))
  | .str i, .str j => if fits (i.length + j.length) then some (.fz (.str (i ++ j))) else none
  | .lst a, .lst b => if fits (a.length + b.length) then some (.lst (a ++ b)) else none
  | .tup a, .tup b => if fits (a.length + b.length) then some (.fz (.tup (a ++ b))) else none
  | _, _ => none
def subD : D → D → Option O
  | .int i, .int j => some (.fz (.int (i - j)))
  | _, _ => none
/-- two factors of which one is small, or together below a million bits -/
def mulOk (i j : Int) : Prop := CMul i j ∨ CMulW i j
instance (i j : Int) : Decidable (mulOk i j) := by unfold mulOk CMul CMulW; infer_instance
def mulD : D → D → Option O
  | .int i, .int j => if mulOk i j then some (.fz (.int (i * j))) else none
  | _, _ => none
def modD : D → D → Option O
  | .int i, .int j => if 0 < j then some (.fz (.int (i % j))) else none
  | _, _ => none
def fdivD : D → D → Option O
  | .int i, .int j => if 0 < j ∧ j.natAbs.log2 < 9000 then some (.fz (.int (i / j))) else none
  | _, _ => none
def powD : D → D → Option O
  | .int i, .int j => if 0 ≤ j ∧ j ≤ 1000000 ∧ i.natAbs < 2 ^ 64 then some (.fz (.int (i ^ j.toNat))) else none
  | _, _ => none
def negD : D → Option O
  | .int i => some (.fz (.int (-i)))
  | _ => none
abbrev oB (b : Bool) : Option O := some (.fz (.bl b))
def eqD : D → D → Option O
  | .int i, .int j => oB (decide (i = j))
  | .str i, .str j => oB (decide (i = j))
  | d, e => if okD d = true ∧ okD e = true then oB (PyData.eqv d.p e.p) else none
def neD : D → D → Option O
  | .int i, .int j => oB (!decide (i = j))
  | .str i, .str j => oB (!decide (i = j))
  | d, e => if okD d = true ∧ okD e = true then oB (!PyData.eqv d.p e.p) else none
def ltD : D → D → Option O
  | .int i, .int j => oB (decide (i < j))
  | .tup a, .tup b => if okD (.tup a) = true ∧ okD (.tup b) = true ∧ PySem.W.alikeAll (D.pAll a) (D.pAll b) = true then oB (PySem.W.dataLt (D.p (.tup a)) (D.p (.tup b))) else none
  | .str i, .str j => oB (decide (i.cps.toList < j.cps.toList))
  | _, _ => none
def leD : D → D → Option O
  | .int i, .int j => oB (decide (i ≤ j))
  | _, _ => none
def gtD : D → D → Option O
  | .int i, .int j => oB (decide (j < i))
  | _, _ => none
def geD : D → D → Option O
  | .int i, .int j => oB (decide (j ≤ i))
  | _, _ => none
def isND : D → Option O
  | .non => oB true
  | _ => oB false
def isNotND : D → Option O
  | .non => oB false
  | _ => oB true
/-! dicts -/
def kOf : D → Option Key
  | .int i => some (.inl i)
  | .str s => some (.inr s)
  | _ => none
def ksOf : List D → Option (List Key)
  | [] => some []
  | x :: xs => match kOf x, ksOf xs with
    | some k, some ks => some (k :: ks)
    | _, _ => none
def keyOk (t : Bool) : D → Bool
  | .int _ => !t
  | .str _ => !t
  | .tup xs => t && (ksOf xs).isSome
  | _ => false
def dfind (kvs : List (D × D)) (k : D) : Option D := (kvs.find? fun p => decide (p.1 = k)).map (·.2)
def dput (kvs : List (D × D)) (k v : D) : List (D × D) := if kvs.any (fun p => decide (p.1 = k)) then kvs.map fun p => if p.1 = k then (p.1, v) else p else kvs ++ [(k, v)]
def inB (k : D) (xs : List D) : Bool := xs.any fun z => PyData.eqv z.p k.p
def inD : D → D → Option Bool
  | k, .lst xs => if okD k = true ∧ okD (.lst xs) = true then some (inB k xs) else none
  | k, .tup xs => if okD k = true ∧ okD (.tup xs) = true then some (inB k xs) else none
  | k, .dct t kvs => if keyOk t k = true then some (dfind kvs k).isSome else none
  | .str i, .str s => some (!(Builtin.Str.occurrences s i 0 s.length 1).isEmpty)
  | _, _ => none
def inO (k c : D) : Option O := (inD k c).bind fun b => oB b
def ninO (k c : D) : Option O := (inD k c).bind fun b => oB (!b)
def idxD : D → D → Option O
  | .lst xs, .int i => (atI xs i).map .fz
  | .tup xs, .int i => (atI xs i).map .fz
  | .str s, .int i => if fits s.length then (atI s.cps.toList i).map fun c => .fz (.str ⟨#[c]⟩) else none
  | .dct t kvs, k => if keyOk t k = true then (dfind kvs k).map .fz else none
  | _, _ => none

/-! ## rules -/
section
variable {Γ : Gm}
theorem QR.fz {F H : Hp} {v : V} {d : D} {Q : VK} (s : Sub F H) (h : QR Γ F H (.fz d) Q) (r : Rv Γ F v d) : Q v H := h v F H (gr_frz s r)
theorem P2.or {r r' : R2} {φ φ1 φ2 : D → D → Option O} (h : P2 Γ r φ1) (h' : P2 Γ r' φ2) (e : ∀ d e o, φ d e = some o → φ1 d e = some o ∨ φ2 d e = some o) : P2 Γ (fun x y H Q => r x y H Q ∨ r' x y H Q) φ :=
  fun F H x y d e' o Q s vx vy q k => (e d e' o q).elim (fun q => .inl (h F H x y d e' o Q s vx vy q k)) fun q => .inr (h' F H x y d e' o Q s vx vy q k)

def rCat0 (K : PySem.W.Frag) : R2 := fun x y H Q => ∃ a b ys, x = .ref a ∧ y = .ref b ∧ SqT K H a [] ∧ SqT K H b ys ∧ Q (.ref b) H
theorem op_catT0 {X : Cx} : OpR X (binaryOp .Add) (rCat0 X.K) := by
  intro pins s σ H x y v u Q I rx ry h
  obtain ⟨a, b, ys, rfl, rfl, ha, hb, q⟩ := h
  cases rx
  cases ry
  obtain ⟨its, r1, ht, _⟩ := I.tuple ha
  obtain ⟨its2, r2, hb2, _⟩ := I.tuple hb
  cases r1
  obtain ⟨⟨cls, dd, data, sl⟩, ho, hc, n, hd⟩ := id ht
  obtain ⟨⟨cls2, dd2, data2, sl2⟩, ho2, hc2, n2, hd2⟩ := id hb2
  simp only at hc hd hc2 hd2
  subst hc hd hc2 hd2
  exact concat_meets ⟨_, ho, rfl⟩ ⟨_, ho2, rfl⟩ noFill_tuple_add seq_tuple_add PySem.F.slot_tuple_add PySem.F.entry_tuple_add (PySem.F.args_tuple_add_2 _ _)
      (tuple_addW0 a b _ its2.toArray n n2 dd dd2 sl sl2 (by simp)) ⟨ho, ho2, ⟨.ref b, H, I, rfl, q⟩⟩
def rAdd (K : PySem.W.Frag) : R2 := fun x y H Q => (rI0 fun i j => .int (i + j)) x y H Q ∨ (∃ i j, x = .str i ∧ y = .str j ∧ i.length + j.length ≤ sizeLine ∧ Q (.str (i ++ j)) H) ∨ rCat x y H Q ∨ rCatT K x y H Q ∨ rCat0 K x y H Q
theorem op_addD {X : Cx} : OpR X (binaryOp .Add) (rAdd X.K) := op_add.or (op_add_str.or (op_cat.or (op_catT.or op_catT0)))
theorem p_add : P2 Γ (rAdd Γ.K) addD := by
  intro F H x y d e o Q s vx vy h q
  unfold addD at h
  split at h
  · cases h
    cases vx.int; cases vy.int
    exact .inl ⟨_, _, rfl, rfl, q.fz s (.int _)⟩
  · split at h
    · rename_i hz
      cases h
      cases vx.str; cases vy.str
      exact .inr (.inl ⟨_, _, rfl, rfl, hz, q.fz s (.str _)⟩)
    · cases h
  · split at h
    · rename_i hz
      cases h
      obtain ⟨a, vs, rfl, h1, z1, r1⟩ := vx.lst s
      obtain ⟨b, ws, rfl, h2, z2, r2⟩ := vy.lst s
      have hz' : vs.length + ws.length ≤ sizeLine := by rw [r1.length, r2.length]; exact hz
      exact .inr (.inr (.inl ⟨_, _, _, _, rfl, rfl, h1, h2, hz', fun p hp => q _ _ _ (gr_lst s hp (by rw [List.length_append]; exact hz') (r1.append r2))⟩))
    · cases h
  · split at h
    · rename_i hz
      cases h
      obtain ⟨a, vs, rfl, h1, z1, r1⟩ := vx.tup
      obtain ⟨b, ws, rfl, h2, z2, r2⟩ := vy.tup
      have hz' : vs.length + ws.length ≤ sizeLine := by rw [r1.length, r2.length]; exact hz
      refine .inr (.inr (.inr ?_))
      by_cases e0 : vs = []
      · subst e0
        cases r1
        exact .inr ⟨_, _, _, rfl, rfl, SqT.of (s _ _ h1), SqT.of (s _ _ h2), q.fz s (.tup h2 z2 (by simpa using r2))⟩
      · refine .inl ⟨_, _, _, _, rfl, rfl, SqT.of (s _ _ h1), SqT.of (s _ _ h2), e0, hz', fun e => ?_, fun e p hp => q _ _ _ (gr_tup s hp (by rw [List.length_append]; exact hz') (r1.append r2))⟩
        subst e
        cases r2
        exact q.fz s (.tup h1 z1 (by simpa using r1))
    · cases h
  · cases h
theorem p_sub : P2 Γ (rI0 fun i j => .int (i - j)) subD := by
  intro F H x y d e o Q s vx vy h q
  unfold subD at h
  split at h
  · cases h; cases vx.int; cases vy.int
    exact ⟨_, _, rfl, rfl, q.fz s (.int _)⟩
  · cases h
def rMul : R2 := fun x y H Q => rI CMul (fun i j => .int (i * j)) x y H Q ∨ rI CMulW (fun i j => .int (i * j)) x y H Q
theorem op_mulD {X : Cx} : OpR X (binaryOp .Mult) rMul := op_mul.or op_mulW
theorem p_mul : P2 Γ rMul mulD := by
  intro F H x y d e o Q s vx vy h q
  unfold mulD at h
  split at h
  · split at h
    · rename_i hc
      cases h; cases vx.int; cases vy.int
      rcases hc with hc | hc
      · exact .inl ⟨_, _, rfl, rfl, hc, q.fz s (.int _)⟩
      · exact .inr ⟨_, _, rfl, rfl, hc, q.fz s (.int _)⟩
    · cases h
  · cases h
theorem p_mod : P2 Γ (rI (fun _ j => 0 < j) fun i j => .int (i % j)) modD := by
  intro F H x y d e o Q s vx vy h q
  unfold modD at h
  split at h
  · split at h
    · rename_i hc
      cases h; cases vx.int; cases vy.int
      exact ⟨_, _, rfl, rfl, hc, q.fz s (.int _)⟩
    · cases h
  · cases h
theorem p_fdiv : P2 Γ (rI CDivW fun i j => .int (i / j)) fdivD := by
  intro F H x y d e o Q s vx vy h q
  unfold fdivD at h
  split at h
  · split at h
    · rename_i hc
      cases h; cases vx.int; cases vy.int
      exact ⟨_, _, rfl, rfl, hc, q.fz s (.int _)⟩
    · cases h
  · cases h
theorem p_pow : P2 Γ (rI CPow fun i j => .int (i ^ j.toNat)) powD := by
  intro F H x y d e o Q s vx vy h q
  unfold powD at h
  split at h
  · split at h
    · rename_i hc
      cases h; cases vx.int; cases vy.int
      exact ⟨_, _, rfl, rfl, hc, q.fz s (.int _)⟩
    · cases h
  · cases h
theorem p_neg : P1 Γ (rU fun i => .int (-i)) negD := by
  intro F H x d o Q s vx h q
  unfold negD at h
  split at h
  · cases h; cases vx.int
    exact ⟨_, rfl, q.fz s (.int _)⟩
  · cases h

/-! comparisons -/
theorem okD_int (i : Int) : okD (.int i) = true := by simp [okD, D.plain, D.p, PyData.depth]
theorem eqv_int (i j : Int) : PyData.eqv (D.p (.int i)) (D.p (.int j)) = decide (i = j) := by
  simp only [D.p, PyData.eqv]
  exact Bool.beq_eq_decide_eq i j
def rEqU (K : PySem.W.Frag) : R2 := fun x y H Q => rEq x y H Q ∨ rEqD K x y H Q
def rNeU (K : PySem.W.Frag) : R2 := fun x y H Q => rNe x y H Q ∨ rNeD K x y H Q
theorem op_eqU {X : Cx} (hu : X.A.units + 64 < cLine) : OpR X (compareOp .Eq) (rEqU X.K) := op_eq.or (op_eqD hu)
theorem op_neU {X : Cx} (hu : X.A.units + 64 < cLine) : OpR X (compareOp .NotEq) (rNeU X.K) := op_ne.or (op_neD hu)
theorem p_eq : P2 Γ (rEqU Γ.K) eqD := by
  intro F H x y d e o Q s vx vy h q
  unfold eqD at h
  split at h
  · cases h; cases vx.int; cases vy.int
    refine .inl ⟨rfl, ?_⟩
    have z := q.fz s (.bl _)
    rename_i i j
    have e : decide (V.int i = V.int j) = decide (i = j) := by simp
    rw [e]; exact z
  · cases h; cases vx.str; cases vy.str
    refine .inl ⟨rfl, ?_⟩
    have z := q.fz s (.bl _)
    rename_i i j
    have e : decide (V.str i = V.str j) = decide (i = j) := by simp
    rw [e]; exact z
  · split at h
    · rename_i hc
      cases h
      have p1 : D.plain d = true := by have := hc.1; unfold okD at this; rw [Bool.and_eq_true] at this; exact this.1
      have p2 : D.plain e = true := by have := hc.2; unfold okD at this; rw [Bool.and_eq_true] at this; exact this.1
      exact .inr ⟨_, _, vx.dp s p1, vy.dp s p2, okD_shaped hc.1, okD_shaped hc.2, q.fz s (.bl _)⟩
    · cases h
theorem p_ne : P2 Γ (rNeU Γ.K) neD := by
  intro F H x y d e o Q s vx vy h q
  unfold neD at h
  split at h
  · cases h; cases vx.int; cases vy.int
    refine .inl ⟨rfl, ?_⟩
    have z := q.fz s (.bl _)
    rename_i i j
    have e : decide (V.int i = V.int j) = decide (i = j) := by simp
    rw [e]; exact z
  · cases h; cases vx.str; cases vy.str
    refine .inl ⟨rfl, ?_⟩
    have z := q.fz s (.bl _)
    rename_i i j
    have e : decide (V.str i = V.str j) = decide (i = j) := by simp
    rw [e]; exact z
  · split at h
    · rename_i hc
      cases h
      have p1 : D.plain d = true := by have := hc.1; unfold okD at this; rw [Bool.and_eq_true] at this; exact this.1
      have p2 : D.plain e = true := by have := hc.2; unfold okD at this; rw [Bool.and_eq_true] at this; exact this.1
      exact .inr ⟨_, _, vx.dp s p1, vy.dp s p2, okD_shaped hc.1, okD_shaped hc.2, q.fz s (.bl _)⟩
    · cases h
def rLtA (K : PySem.W.Frag) : R2 := fun x y H Q => ∃ d e, Dp K H x (.tuple d) ∧ Dp K H y (.tuple e) ∧ SeqAt.shaped (.tuple d) = true ∧ PySem.W.alikeAll d e = true ∧ Q (.bl (PySem.W.dataLt (.tuple d) (.tuple e))) H
theorem op_ltA {X : Cx} (hu : X.A.units + 64 < cLine) : OpR X (compareOp .Lt) (rLtA X.K) := by
  intro pins s σ H x y v u Q I rx ry h
  obtain ⟨d, e, hd, he, sd, al, q⟩ := h
  obtain ⟨as, r1⟩ := Dp.reads I _ x v hd rx
  obtain ⟨bs, r2⟩ := Dp.reads I _ y u he ry
  have hdep : (PyData.tuple d).depth ≤ 64 := SeqAt.depth_of_shaped sd
  exact PySem.W.rcLt_alike _ _ X.A s v u as bs r1 r2 (by simpa [PySem.W.alike] using al) (by simp) (by have := Nat.min_le_left (PyData.tuple d).depth (PyData.tuple e).depth; omega) X.prog X.w X.xe _ ⟨.bl _, H, I, rfl, q⟩
def rLtU (K : PySem.W.Frag) : R2 := fun x y H Q => (rI0 fun i j => .bl (decide (i < j))) x y H Q ∨ (∃ i j, x = .str i ∧ y = .str j ∧ Q (.bl (decide (i.cps.toList < j.cps.toList))) H) ∨ rLtA K x y H Q
theorem op_ltU {X : Cx} (hu : X.A.units + 64 < cLine) : OpR X (compareOp .Lt) (rLtU X.K) := op_lt.or (op_lt_str.or (op_ltA hu))
theorem p_lt : P2 Γ (rLtU Γ.K) ltD := by
  intro F H x y d e o Q s vx vy h q
  unfold ltD at h
  split at h
  · cases h; cases vx.int; cases vy.int
    exact .inl ⟨_, _, rfl, rfl, q.fz s (.bl _)⟩
  · split at h
    · rename_i a b hc
      cases h
      have p1 : D.plain (.tup a) = true := by have := hc.1; unfold okD at this; rw [Bool.and_eq_true] at this; exact this.1
      have p2 : D.plain (.tup b) = true := by have := hc.2.1; unfold okD at this; rw [Bool.and_eq_true] at this; exact this.1
      have d1 := vx.dp s p1
      have d2 := vy.dp s p2
      have s1 := okD_shaped hc.1
      have z := q.fz s (.bl _)
      simp only [D.p] at d1 d2 s1 z
      exact .inr (.inr ⟨_, _, d1, d2, s1, hc.2.2, z⟩)
    · cases h
  · cases h; cases vx.str; cases vy.str
    exact .inr (.inl ⟨_, _, rfl, rfl, q.fz s (.bl _)⟩)
  · cases h
theorem p_le : P2 Γ (rI0 fun i j => .bl (decide (i ≤ j))) leD := by
  intro F H x y d e o Q s vx vy h q
  unfold leD at h
  split at h
  · cases h; cases vx.int; cases vy.int
    exact ⟨_, _, rfl, rfl, q.fz s (.bl _)⟩
  · cases h
theorem p_gt : P2 Γ (rI0 fun i j => .bl (decide (j < i))) gtD := by
  intro F H x y d e o Q s vx vy h q
  unfold gtD at h
  split at h
  · cases h; cases vx.int; cases vy.int
    exact ⟨_, _, rfl, rfl, q.fz s (.bl _)⟩
  · cases h
theorem p_ge : P2 Γ (rI0 fun i j => .bl (decide (j ≤ i))) geD := by
  intro F H x y d e o Q s vx vy h q
  unfold geD at h
  split at h
  · cases h; cases vx.int; cases vy.int
    exact ⟨_, _, rfl, rfl, q.fz s (.bl _)⟩
  · cases h
theorem Vw.isNon {F H : Hp} {x : V} {d : D} (h : Vw Γ F H x d) : decide (x = .non) = (match d with | .non => true | _ => false) := by
  rcases h with h | ⟨o, ho, r, e⟩
  · cases h <;> simp
  · cases r with
    | no => cases ho
    | fz _ => cases ho
    | lst h z r n => cases e; simp
    | dK h r n => cases e; simp
    | dT h r n => cases e; simp
    | ins h r i n => cases e; simp

/-! in -/
def rInT (K : PySem.W.Frag) (neg : Bool) : R2 := fun x y H Q => ∃ d ds, Dp K H x d ∧ Dp K H y (.tuple ds) ∧ SeqAt.shaped d = true ∧ SeqAt.shaped (.tuple ds) = true ∧ Q (.bl (if neg then !(ds.any fun z => PyData.eqv z d) else ds.any fun z => PyData.eqv z d)) H
theorem op_inT {X : Cx} (hu : X.A.units + 65 < cLine) : OpR X (compareOp .In) (rInT X.K false) := by
  intro pins s σ H x y v u Q I rx ry h
  obtain ⟨d, ds, hd, he, sd, se, q⟩ := h
  obtain ⟨as, r1⟩ := Dp.reads I d x v hd rx
  obtain ⟨bs, r2⟩ := Dp.reads I (.tuple ds) y u he ry
  exact SeqAt.in_tuple_reads r2 r1 (SeqAt.canLay_of_shaped se) (SeqAt.canLay_of_shaped sd) (room_in_shaped sd hu) ⟨.bl _, H, I, rfl, q⟩
theorem op_notInT {X : Cx} (hu : X.A.units + 65 < cLine) : OpR X (compareOp .NotIn) (rInT X.K true) := by
  intro pins s σ H x y v u Q I rx ry h
  obtain ⟨d, ds, hd, he, sd, se, q⟩ := h
  obtain ⟨as, r1⟩ := Dp.reads I d x v hd rx
  obtain ⟨bs, r2⟩ := Dp.reads I (.tuple ds) y u he ry
  exact SeqAt.notIn_tuple_reads r2 r1 (SeqAt.canLay_of_shaped se) (SeqAt.canLay_of_shaped sd) (room_in_shaped sd hu) ⟨.bl _, H, I, rfl, q⟩
def rInDct (neg : Bool) : R2 := fun x y H Q => ∃ a o, y = .ref a ∧ DGet H a x o ∧ Q (.bl (if neg then !o.isSome else o.isSome)) H
theorem op_inDct {X : Cx} (hu : X.A.units + 1 < cLine) : OpR X (compareOp .In) (rInDct false) := by
  intro pins s σ H x y v u Q I rx ry h
  obtain ⟨a, o, rfl, g, q⟩ := h
  cases ry
  exact d_in hu I g rx fun s' I' => ⟨.bl _, H, I', rfl, q⟩
theorem op_notInDct {X : Cx} (hu : X.A.units + 1 < cLine) : OpR X (compareOp .NotIn) (rInDct true) := by
  intro pins s σ H x y v u Q I rx ry h
  obtain ⟨a, o, rfl, g, q⟩ := h
  cases ry
  exact d_notIn hu I g rx fun s' I' => ⟨.bl _, H, I', rfl, q⟩
def rInU (K : PySem.W.Frag) : R2 := fun x y H Q => rInD K x y H Q ∨ rInT K false x y H Q ∨ rInDct false x y H Q ∨ (∃ i j, x = .str i ∧ y = .str j ∧ Q (.bl (!(Builtin.Str.occurrences j i 0 j.length 1).isEmpty)) H)
def rNinU (K : PySem.W.Frag) : R2 := fun x y H Q => rNotInD K x y H Q ∨ rInT K true x y H Q ∨ rInDct true x y H Q ∨ (∃ i j, x = .str i ∧ y = .str j ∧ Q (.bl (!(!(Builtin.Str.occurrences j i 0 j.length 1).isEmpty))) H)
theorem op_inU {X : Cx} (hu : X.A.units + 65 < cLine) : OpR X (compareOp .In) (rInU X.K) := (op_inD hu).or ((op_inT hu).or ((op_inDct (by omega)).or op_in_str))
theorem op_ninU {X : Cx} (hu : X.A.units + 65 < cLine) : OpR X (compareOp .NotIn) (rNinU X.K) := (op_notInD hu).or ((op_notInT hu).or ((op_notInDct (by omega)).or op_notin_str))

theorem kD_kOf {d : D} {k : Key} (h : kOf d = some k) : d = kD k := by
  cases d <;> simp [kOf] at h <;> subst h <;> rfl
theorem kOf_kD (k : Key) : kOf (kD k) = some k := by cases k <;> rfl
theorem kD_inj {a b : Key} (h : kD a = kD b) : a = b := by
  have := congrArg kOf h
  rw [kOf_kD, kOf_kD] at this
  exact Option.some.inj this
theorem ksOf_some : ∀ {xs : List D} {ks : List Key}, ksOf xs = some ks → xs = ks.map kD
  | [], ks, h => by simp [ksOf] at h; subst h; rfl
  | x :: xs, ks, h => by
    unfold ksOf at h
    split at h
    · rename_i k ks' h1 h2
      cases h
      rw [kD_kOf h1, ksOf_some h2]; rfl
    · cases h
theorem map_kD_inj {a b : List Key} (h : a.map kD = b.map kD) : a = b := by
  induction a generalizing b with
  | nil => cases b with | nil => rfl | cons _ _ => simp at h
  | cons x xs ih =>
    cases b with
    | nil => simp at h
    | cons y ys => simp at h; rw [kD_inj h.1, ih h.2]
theorem Rv.key {F : Hp} {v : V} {k : Key} (h : Rv Γ F v (kD k)) : v = kV k := by
  cases k with
  | inl i => cases h; rfl
  | inr i => cases h; rfl
theorem RvL.keys {F : Hp} : ∀ {ks : List Key} {vs : List V}, RvL Γ F vs (ks.map kD) → vs = ks.map kV
  | [], vs, h => by cases h; rfl
  | k :: ks, vs, h => by
    cases h with
    | cons a b => rw [a.key, RvL.keys b]; rfl
theorem RvK.find {F : Hp} : ∀ {kvs : List (Key × V)} {ds : List (D × D)}, RvK Γ F kvs ds → ∀ k : Key, (valV kvs k = none ∧ dfind ds (kD k) = none) ∨ ∃ v d, valV kvs k = some v ∧ dfind ds (kD k) = some d ∧ Rv Γ F v d
  | _, _, .nil, k => .inl ⟨rfl, rfl⟩
  | _, _, .cons (k := k') (v := v) (vs := vs) (d := d) (ds := ds) h r, k => by
    by_cases e : k' = k
    · subst e
      exact .inr ⟨v, d, valV_pos rfl, by simp [dfind], h⟩
    · have e2 : ¬ kD k' = kD k := fun z => e (kD_inj z)
      rcases RvK.find r k with ⟨h1, h2⟩ | ⟨v', d', h1, h2, h3⟩
      · exact .inl ⟨by rw [valV_neg e]; exact h1, by simpa [dfind, e2] using h2⟩
      · exact .inr ⟨v', d', by rw [valV_neg e]; exact h1, by simpa [dfind, e2] using h2, h3⟩
theorem RvT.find {F : Hp} : ∀ {kvs : List (List Key × V)} {ds : List (D × D)}, RvT Γ F kvs ds → ∀ k : List Key, (valV kvs k = none ∧ dfind ds (.tup (k.map kD)) = none) ∨ ∃ v d, valV kvs k = some v ∧ dfind ds (.tup (k.map kD)) = some d ∧ Rv Γ F v d
  | _, _, .nil, k => .inl ⟨rfl, rfl⟩
  | _, _, .cons (k := k') (v := v) (vs := vs) (d := d) (ds := ds) h r, k => by
    by_cases e : k' = k
    · subst e
      exact .inr ⟨v, d, valV_pos rfl, by simp [dfind], h⟩
    · have e2 : ¬ D.tup (k'.map kD) = D.tup (k.map kD) := fun z => e (map_kD_inj (by simpa using z))
      rcases RvT.find r k with ⟨h1, h2⟩ | ⟨v', d', h1, h2, h3⟩
      · exact .inl ⟨by rw [valV_neg e]; exact h1, by simpa [dfind, e2] using h2⟩
      · exact .inr ⟨v', d', by rw [valV_neg e]; exact h1, by simpa [dfind, e2] using h2, h3⟩
/-- what a dict holds at a key -/
theorem Vw.dget {F H : Hp} {x y : V} {t : Bool} {k : D} {kvs : List (D × D)} (s : Sub F H) (vy : Vw Γ F H y (.dct t kvs)) (vx : Vw Γ F H x k) (hk : keyOk t k = true) :
    ∃ a, y = .ref a ∧ ((DGet H a x none ∧ dfind kvs k = none) ∨ ∃ v d, DGet H a x (some v) ∧ dfind kvs k = some d ∧ Rv Γ F v d) := by
  obtain ⟨a, rfl, ⟨rfl, kv, h, r⟩ | ⟨rfl, kv, h, r⟩⟩ := vy.dct s
  · refine ⟨a, rfl, ?_⟩
    obtain ⟨key, rfl⟩ : ∃ key, k = kD key := by
      cases k with
      | int i => exact ⟨.inl i, rfl⟩
      | str i => exact ⟨.inr i, rfl⟩
      | _ => simp [keyOk] at hk
    have ex : x = kV key := by
      cases key with
      | inl i => exact vx.int
      | inr i => exact vx.str
    subst ex
    rcases r.find key with ⟨h1, h2⟩ | ⟨v, d, h1, h2, h3⟩
    · exact .inl ⟨by rw [← h1]; exact .k h, h2⟩
    · exact .inr ⟨v, d, by rw [← h1]; exact .k h, h2, h3⟩
  · refine ⟨a, rfl, ?_⟩
    obtain ⟨xs, rfl⟩ : ∃ xs, k = .tup xs := by
      cases k with
      | tup i => exact ⟨i, rfl⟩
      | _ => simp [keyOk] at hk
    obtain ⟨ks, hks⟩ : ∃ ks, ksOf xs = some ks := by
      simp [keyOk] at hk
      exact Option.isSome_iff_exists.mp hk
    have := ksOf_some hks
    subst this
    obtain ⟨b, vs, rfl, hb, _, rl⟩ := vx.tup
    have := rl.keys
    subst this
    rcases r.find ks with ⟨h1, h2⟩ | ⟨v, d, h1, h2, h3⟩
    · exact .inl ⟨by rw [← h1]; exact .t h (s _ _ hb), h2⟩
    · exact .inr ⟨v, d, by rw [← h1]; exact .t h (s _ _ hb), h2, h3⟩
theorem okD_plain {d : D} (h : okD d = true) : d.plain = true := by unfold okD at h; rw [Bool.and_eq_true] at h; exact h.1
theorem inB_lst (k : D) (xs : List D) : (D.pAll xs).any (fun z => PyData.eqv z k.p) = inB k xs := by
  rw [D.pAll_map, List.any_map]; rfl
theorem p_in : P2 Γ (rInU Γ.K) inO := by
  intro F H x y d e o Q s vx vy h q
  unfold inO at h
  cases hb : inD d e with
  | none => rw [hb] at h; cases h
  | some b =>
    rw [hb] at h
    cases h
    have z := q.fz s (.bl b)
    unfold inD at hb
    split at hb
    · split at hb
      · rename_i xs hc
        cases hb
        have d2 := vy.dp s (okD_plain hc.2)
        have s2 := okD_shaped hc.2
        simp only [D.p] at d2 s2
        exact .inl ⟨_, _, vx.dp s (okD_plain hc.1), d2, okD_shaped hc.1, s2, by rw [inB_lst]; exact z⟩
      · cases hb
    · split at hb
      · rename_i xs hc
        cases hb
        have d2 := vy.dp s (okD_plain hc.2)
        have s2 := okD_shaped hc.2
        simp only [D.p] at d2 s2
        refine .inr (.inl ⟨_, _, vx.dp s (okD_plain hc.1), d2, okD_shaped hc.1, s2, ?_⟩)
        simp only [Bool.false_eq_true, if_false]
        rw [inB_lst]; exact z
      · cases hb
    · split at hb
      · rename_i t kvs hc
        cases hb
        obtain ⟨a, rfl, ⟨g, e⟩ | ⟨v, d', g, e, _⟩⟩ := vy.dget s vx hc
        · refine .inr (.inr (.inl ⟨a, _, rfl, g, ?_⟩))
          rw [e] at z; exact z
        · refine .inr (.inr (.inl ⟨a, _, rfl, g, ?_⟩))
          rw [e] at z; exact z
      · cases hb
    · cases hb
      cases vx.str; cases vy.str
      exact .inr (.inr (.inr ⟨_, _, rfl, rfl, z⟩))
    · cases hb
theorem p_nin : P2 Γ (rNinU Γ.K) ninO := by
  intro F H x y d e o Q s vx vy h q
  unfold ninO at h
  cases hb : inD d e with
  | none => rw [hb] at h; cases h
  | some b =>
    rw [hb] at h
    cases h
    have z := q.fz s (.bl (!b))
    unfold inD at hb
    split at hb
    · split at hb
      · rename_i xs hc
        cases hb
        have d2 := vy.dp s (okD_plain hc.2)
        have s2 := okD_shaped hc.2
        simp only [D.p] at d2 s2
        exact .inl ⟨_, _, vx.dp s (okD_plain hc.1), d2, okD_shaped hc.1, s2, by rw [inB_lst]; exact z⟩
      · cases hb
    · split at hb
      · rename_i xs hc
        cases hb
        have d2 := vy.dp s (okD_plain hc.2)
        have s2 := okD_shaped hc.2
        simp only [D.p] at d2 s2
        refine .inr (.inl ⟨_, _, vx.dp s (okD_plain hc.1), d2, okD_shaped hc.1, s2, ?_⟩)
        simp only [if_true]
        rw [inB_lst]; exact z
      · cases hb
    · split at hb
      · rename_i t kvs hc
        cases hb
        obtain ⟨a, rfl, ⟨g, e⟩ | ⟨v, d', g, e, _⟩⟩ := vy.dget s vx hc
        · refine .inr (.inr (.inl ⟨a, _, rfl, g, ?_⟩))
          rw [e] at z; exact z
        · refine .inr (.inr (.inl ⟨a, _, rfl, g, ?_⟩))
          rw [e] at z; exact z
      · cases hb
    · cases hb
      cases vx.str; cases vy.str
      exact .inr (.inr (.inr ⟨_, _, rfl, rfl, z⟩))
    · cases hb

/-! subscripts -/
def rIxDct : R2 := fun x y H Q => ∃ a v, x = .ref a ∧ DGet H a y (some v) ∧ Q v H
theorem ix_dct {X : Cx} (hu : X.A.units + 1 < cLine) : IxR X rIxDct := by
  intro value slice pins s σ H x y v u Q I rx ry h hs
  obtain ⟨a, w, rfl, g, q⟩ := h
  cases rx
  unfold subscriptTail
  have hT := dict_typeIs I g
  refine wpAny_bind ?_
  rw [getitemInPython_of_ne hT.not_modules]
  refine wpAny_bind (wpAny_specialOf hT PySem.F.slot_dict_getitem.lookup ?_)
  have fin : wpAny (model X.prog X.w) X.A (subscripted slice false (.ref a) u) (fun r s₃ => wpAny (model X.prog X.w) X.A (letTemporaryGo value (.ref a) r >>= fun _ => pure r) (EP X pins σ Q) X.xe s₃) X.xe s := by
    rw [hs]
    exact wpAny_operating (wpAny_mono (d_getItem (Q := EP X pins σ Q) hu I g ry fun w' s3 I3 rw' => ⟨w, H, I3, rw', q⟩) (fun r s₃ h₃ => wpAny_bind (wpAny_letTemporaryGo (wpAny_pure h₃))) fun _ _ x => x)
  first
    | exact wpAny_pure (wpAny_bind fin)
    | exact wpAny_bind (wpAny_pure (wpAny_bind fin))
    | exact wpAny_bind fin
def rIxU (K : PySem.W.Frag) : R2 := fun x y H Q => rIx K x y H Q ∨ rIxDct x y H Q
theorem ix_U {X : Cx} (hu : X.A.units + 1 < cLine) : IxR X (rIxU X.K) := ix_seq.or (ix_dct hu)
theorem RvL.atI {F : Hp} {vs : List V} {ds : List D} (r : RvL Γ F vs ds) {i : Int} {d : D} (h : L2.atI ds i = some d) : ∃ v, L2.atI vs i = some v ∧ Rv Γ F v d := by
  unfold L2.atI at h ⊢
  rw [r.length]
  cases e : ixN ds.length i with
  | none => rw [e] at h; cases h
  | some j => rw [e] at h; exact r.get h
theorem p_idx : P2 Γ (rIxU Γ.K) idxD := by
  intro F H x y d e o Q s vx vy h q
  unfold idxD at h
  split at h
  · obtain ⟨d', h1, rfl⟩ := Option.map_eq_some_iff.mp h
    obtain ⟨a, vs, rfl, hh, _, r⟩ := vx.lst s
    cases vy.int
    obtain ⟨v, hv, rv⟩ := r.atI h1
    exact .inl (.inl ⟨_, _, _, _, rfl, rfl, SqL.of hh, hv, q.fz s rv⟩)
  · obtain ⟨d', h1, rfl⟩ := Option.map_eq_some_iff.mp h
    obtain ⟨a, vs, rfl, hh, _, r⟩ := vx.tup
    cases vy.int
    obtain ⟨v, hv, rv⟩ := r.atI h1
    exact .inl (.inr (.inl ⟨_, _, _, _, rfl, rfl, SqT.of (s _ _ hh), hv, q.fz s rv⟩))
  · split at h
    · rename_i hz
      obtain ⟨c, h1, rfl⟩ := Option.map_eq_some_iff.mp h
      cases vx.str; cases vy.int
      exact .inl (.inr (.inr ⟨_, _, _, rfl, rfl, hz, h1, q.fz s (.str _)⟩))
    · cases h
  · split at h
    · rename_i hk
      obtain ⟨d', h1, rfl⟩ := Option.map_eq_some_iff.mp h
      obtain ⟨a, rfl, ⟨g, e⟩ | ⟨v, d2, g, e, r⟩⟩ := vx.dget s vy hk
      · rw [h1] at e; cases e
      · rw [h1] at e; cases e
        exact .inr ⟨a, v, rfl, g, q.fz s r⟩
    · cases h
  · cases h
end
end Ev
-- EvE
set_option Elab.async false
set_option linter.all false
set_option maxRecDepth 100000
set_option maxHeartbeats 2000000
namespace Ev
open PySem PySem.Spec L2
open PyProof.Rows hiding St

/-- the context's own facts -/
structure Ok (X : Cx) (Γ : Gm) (W : St → XK) (CXv : CXT) (k : Nat) : Prop where
  K : X.K = Γ.K
  hr : Room k X.A
  calm : X.calm = true
  nd : X.N.Nodup
  po : PassesOwn (model X.prog X.w) X.A X.env X.xe
  pas : ∀ σ, PassesAt CXv X σ (W σ)
  no : ∀ o H s e s', ¬ CXv o H s (fun _ _ _ => False) e s'
section
variable {X : Cx} {Γ : Gm} {W : St → XK} {CXv : CXT} {k : Nat}
theorem Ok.h1 (c : Ok X Γ W CXv k) : X.A.units + 1 < cLine := by have := c.hr.un; omega
theorem Ok.h64 (c : Ok X Γ W CXv k) : X.A.units + 64 < cLine := by have := c.hr.un; omega
theorem Ok.h65 (c : Ok X Γ W CXv k) : X.A.units + 65 < cLine := by have := c.hr.un; omega
end

/-! ## constants, names -/
def cst (d : D) : SE := M.pure (.fz d)
def varS (i : Nat) : SE := fun s => match (s[i]?).bind O.view with
  | some d => some (.ok (.fz d) (s.set i (.fz d)))
  | none => none
def varB (i : Nat) : SE := fun s => match s[i]? with
  | some (.fz d) => some (.ok (.fz d) s)
  | some .no => none
  | some _ => some (.ok (.bor i) s)
  | none => none
def varM (i : Nat) : SE := fun s => match s[i]? with
  | some (.fz d) => some (.ok (.fz d) s)
  | some .no => none
  | some o => some (.ok (.ow o) (s.set i .no))
  | none => none
section
variable {Γ : Gm} {W : St → XK}
theorem sim_cst {v : V} {d : D} (h : ∀ F, Rv Γ F v d) : SimE Γ W (tC v) (cst d) := by
  intro F H σ env res Q w hf post
  cases hf
  exact post v F H w (h F) .refl
theorem Wr.get {F H : Hp} {σ : St} {env : List O} (w : Wr Γ F H σ env) {i : Nat} {o : O} (h : env[i]? = some o) : ∃ v, σ[i]? = some v ∧ OR Γ F H v o := by
  have hl : i < σ.length := by rw [w.len]; exact (List.getElem?_eq_some_iff.mp h).1
  exact ⟨σ[i], by simp [hl], w.rel i _ o (by simp [hl]) h⟩
theorem OR.some_of {F H : Hp} {v : Option V} {o : O} (r : OR Γ F H v o) (h : o ≠ .no) : ∃ u, v = some u := by
  cases r with
  | no => exact absurd rfl h
  | fz _ => exact ⟨_, rfl⟩
  | lst _ _ _ _ => exact ⟨_, rfl⟩
  | dK _ _ _ => exact ⟨_, rfl⟩
  | dT _ _ _ => exact ⟨_, rfl⟩
  | ins _ _ _ _ => exact ⟨_, rfl⟩
theorem sim_varS (i : Nat) : SimE Γ W (tVar i) (varS i) := by
  intro F H σ env res Q w hf post
  unfold varS at hf
  split at hf
  · rename_i d hd
    cases hf
    cases he : env[i]? with
    | none => rw [he] at hd; cases hd
    | some o =>
      rw [he] at hd
      have hd : o.view = some d := hd
      obtain ⟨v, hv, r⟩ := w.get he
      obtain ⟨u, rfl⟩ := r.some_of (by intro e; rw [e] at hd; cases hd)
      obtain ⟨F', w', rv, st⟩ := w.freeze hv he hd
      exact ⟨u, hv, post u F' H w' rv st⟩
  · cases hf
theorem sim_varB (i : Nat) : SimE Γ W (tVar i) (varB i) := by
  intro F H σ env res Q w hf post
  unfold varB at hf
  split at hf
  · rename_i d he
    cases hf
    obtain ⟨v, hv, r⟩ := w.get he
    cases r with
    | fz r => exact ⟨_, hv, post _ F H w r .refl⟩
  · cases hf
  · rename_i o hn1 hn2 he
    cases hf
    obtain ⟨v, hv, r⟩ := w.get he
    obtain ⟨u, rfl⟩ := r.some_of fun e => hn2 e
    refine ⟨u, hv, post u F H w ⟨hv, o, he, ?_⟩ .refl⟩
    cases o with
    | no => exact absurd rfl hn2
    | fz d => exact absurd rfl (hn1 d)
    | _ => rfl
  · cases hf
theorem sim_varM (i : Nat) : SimE Γ W (tVar i) (varM i) := by
  intro F H σ env res Q w hf post
  unfold varM at hf
  split at hf
  · rename_i d he
    cases hf
    obtain ⟨v, hv, r⟩ := w.get he
    cases r with
    | fz r => exact ⟨_, hv, post _ F H w r .refl⟩
  · cases hf
  · rename_i o hn1 hn2 he
    cases hf
    obtain ⟨v, hv, r⟩ := w.get he
    obtain ⟨u, rfl⟩ := r.some_of fun e => hn2 e
    have ho : o.own = true := by
      cases o with
      | no => exact absurd rfl hn2
      | fz d => exact absurd rfl (hn1 d)
      | _ => rfl
    refine ⟨u, hv, post u F H (w.forget i) ⟨r, ho, fun a e q => ?_⟩ (Stp.refl.weak fun a h => ?_)⟩
    · subst e
      obtain ⟨j, hj⟩ := q
      by_cases ej : j = i
      · subst ej; obtain ⟨q1, _⟩ := hj.set_self; cases q1
      · exact ej (w.dis j i a (hj.set_ne ej) ⟨hv, o, he, ho⟩)
    · rcases h with h | h
      · exact .inl (h.set_sub fun q => by cases q)
      · subst h; exact .inl ⟨i, hv, o, he, ho⟩
  · cases hf
end
section
variable {X : Cx} {Γ : Gm} {W : St → XK} {CXv : CXT} {k : Nat} {pos : Pos} {a b : Expr} {f g : SE}
theorem ee_int {i : Int} {j : Nat} : EE X Γ W (.Constant (.int i) j pos) (cst (.int i)) := ⟨_, pe_int, sim_cst fun _ => .int i⟩
theorem ee_bl {i : Bool} {j : Nat} : EE X Γ W (.Constant (.bool i) j pos) (cst (.bl i)) := ⟨_, pe_bl, sim_cst fun _ => .bl i⟩
theorem ee_non {j : Nat} : EE X Γ W (.Constant .none j pos) (cst .non) := ⟨_, pe_non, sim_cst fun _ => .non⟩
theorem ee_str {x : Str} {j : Nat} : EE X Γ W (.Constant (.str x) j pos) (cst (.str x)) := ⟨_, pe_str, sim_cst fun _ => .str x⟩
theorem ee_gint {x : Str} {i : Int} (hg : Gl X x) (hm : ∃ t, X.mg x = some (.int i t)) (hd : (x == ("__debug__" : Str)) = false := by decide) : EE X Γ W (.Name x pos) (cst (.int i)) :=
  ⟨_, pe_glob (v := .int i) hg hm.choose_spec ⟨_, rfl⟩ hd, sim_cst fun _ => .int i⟩
theorem ee_gstr {x : Str} {i : Str} (hg : Gl X x) (hm : ∃ t, X.mg x = some (.str i t)) (hd : (x == ("__debug__" : Str)) = false := by decide) : EE X Γ W (.Name x pos) (cst (.str i)) :=
  ⟨_, pe_glob (v := .str i) hg hm.choose_spec ⟨_, rfl⟩ hd, sim_cst fun _ => .str i⟩
theorem ee_v (i : Nat) {x : Str} (hN : X.N[i]? = some x := by rfl) (hv : Vis X.env.scope x := by first | exact Or.inl rfl | exact Or.inr (Or.inl rfl) | exact Or.inr (Or.inr rfl))
    (hd : (x == ("__debug__" : Str)) = false := by decide) (hcd : (x == ("__classdict__" : Str)) = false := by decide) : EE X Γ W (.Name x pos) (varS i) := ⟨_, pe_var hN hv hd hcd, sim_varS i⟩
theorem ee_b (i : Nat) {x : Str} (hN : X.N[i]? = some x := by rfl) (hv : Vis X.env.scope x := by first | exact Or.inl rfl | exact Or.inr (Or.inl rfl) | exact Or.inr (Or.inr rfl))
    (hd : (x == ("__debug__" : Str)) = false := by decide) (hcd : (x == ("__classdict__" : Str)) = false := by decide) : EE X Γ W (.Name x pos) (varB i) := ⟨_, pe_var hN hv hd hcd, sim_varB i⟩
theorem ee_m (i : Nat) {x : Str} (hN : X.N[i]? = some x := by rfl) (hv : Vis X.env.scope x := by first | exact Or.inl rfl | exact Or.inr (Or.inl rfl) | exact Or.inr (Or.inr rfl))
    (hd : (x == ("__debug__" : Str)) = false := by decide) (hcd : (x == ("__classdict__" : Str)) = false := by decide) : EE X Γ W (.Name x pos) (varM i) := ⟨_, pe_var hN hv hd hcd, sim_varM i⟩

/-! ## operators -/
theorem ee_op {op : Operator} {r : R2} {φ : D → D → Option O} (ho : OpR X (binaryOp op) r) (hp : P2 Γ r φ) (ha : EE X Γ W a f) (hb : EE X Γ W b g) : EE X Γ W (.BinOp a op b pos) (prim2 f g φ) :=
  ⟨_, pe_op ho ha.choose_spec.1 hb.choose_spec.1, SimE.prim2 ha.choose_spec.2 hb.choose_spec.2 hp⟩
theorem ee_add (c : Ok X Γ W CXv k) (ha : EE X Γ W a f) (hb : EE X Γ W b g) : EE X Γ W (.BinOp a .Add b pos) (prim2 f g addD) := ee_op op_addD (by rw [c.K]; exact p_add) ha hb
theorem ee_sub (ha : EE X Γ W a f) (hb : EE X Γ W b g) : EE X Γ W (.BinOp a .Sub b pos) (prim2 f g subD) := ee_op op_sub p_sub ha hb
theorem ee_mul (ha : EE X Γ W a f) (hb : EE X Γ W b g) : EE X Γ W (.BinOp a .Mult b pos) (prim2 f g mulD) := ee_op op_mulD p_mul ha hb
theorem ee_mod (ha : EE X Γ W a f) (hb : EE X Γ W b g) : EE X Γ W (.BinOp a .Mod b pos) (prim2 f g modD) := ee_op op_mod p_mod ha hb
theorem ee_fdiv (ha : EE X Γ W a f) (hb : EE X Γ W b g) : EE X Γ W (.BinOp a .FloorDiv b pos) (prim2 f g fdivD) := ee_op op_fdivW p_fdiv ha hb
theorem ee_pow (ha : EE X Γ W a f) (hb : EE X Γ W b g) : EE X Γ W (.BinOp a .Pow b pos) (prim2 f g powD) := ee_op op_pow p_pow ha hb
theorem ee_neg (ha : EE X Γ W a f) : EE X Γ W (.UnaryOp .USub a pos) (prim1 f negD) := ⟨_, pe_un un_neg ha.choose_spec.1, SimE.prim1 ha.choose_spec.2 p_neg⟩
theorem ee_cmp {op : CmpOp} {r : R2} {φ : D → D → Option O} (ho : OpR X (compareOp op) r) (hp : P2 Γ r φ) (ha : EE X Γ W a f) (hb : EE X Γ W b g) (hm : behindInMarks op b = false) : EE X Γ W (.Compare a [op] [b] pos) (prim2 f g φ) :=
  ⟨_, pe_cmpR ho ha.choose_spec.1 hb.choose_spec.1 hm, SimE.prim2 ha.choose_spec.2 hb.choose_spec.2 hp⟩
theorem ee_eq (c : Ok X Γ W CXv k) (ha : EE X Γ W a f) (hb : EE X Γ W b g) : EE X Γ W (.Compare a [.Eq] [b] pos) (prim2 f g eqD) := ee_cmp (op_eqU c.h64) (by rw [c.K]; exact p_eq) ha hb (nomark _)
theorem ee_ne (c : Ok X Γ W CXv k) (ha : EE X Γ W a f) (hb : EE X Γ W b g) : EE X Γ W (.Compare a [.NotEq] [b] pos) (prim2 f g neD) := ee_cmp (op_neU c.h64) (by rw [c.K]; exact p_ne) ha hb (nomark _)
theorem ee_lt (c : Ok X Γ W CXv k) (ha : EE X Γ W a f) (hb : EE X Γ W b g) : EE X Γ W (.Compare a [.Lt] [b] pos) (prim2 f g ltD) := ee_cmp (op_ltU c.h64) (by rw [c.K]; exact p_lt) ha hb (nomark _)
theorem ee_le (ha : EE X Γ W a f) (hb : EE X Γ W b g) : EE X Γ W (.Compare a [.LtE] [b] pos) (prim2 f g leD) := ee_cmp op_le p_le ha hb (nomark _)
theorem ee_gt (ha : EE X Γ W a f) (hb : EE X Γ W b g) : EE X Γ W (.Compare a [.Gt] [b] pos) (prim2 f g gtD) := ee_cmp op_gt p_gt ha hb (nomark _)
theorem ee_ge (ha : EE X Γ W a f) (hb : EE X Γ W b g) : EE X Γ W (.Compare a [.GtE] [b] pos) (prim2 f g geD) := ee_cmp op_ge p_ge ha hb (nomark _)
theorem ee_in (c : Ok X Γ W CXv k) (ha : EE X Γ W a f) (hb : EE X Γ W b g) (hm : behindInMarks .In b = false := by rfl) : EE X Γ W (.Compare a [.In] [b] pos) (prim2 f g inO) := ee_cmp (op_inU c.h65) (by rw [c.K]; exact p_in) ha hb hm
theorem ee_nin (c : Ok X Γ W CXv k) (ha : EE X Γ W a f) (hb : EE X Γ W b g) (hm : behindInMarks .NotIn b = false := by rfl) : EE X Γ W (.Compare a [.NotIn] [b] pos) (prim2 f g ninO) := ee_cmp (op_ninU c.h65) (by rw [c.K]; exact p_nin) ha hb hm
theorem p_isN : P1 Γ (fun x H Q => Q (.bl (decide (x = .non))) H) isND := by
  intro F H x d o Q s vx h q
  have e := vx.isNon
  have z : isND d = some (.fz (.bl (decide (x = .non)))) := by rw [e]; cases d <;> rfl
  rw [z] at h; cases h
  exact q.fz s (.bl _)
theorem p_notN : P1 Γ (fun x H Q => Q (.bl (!decide (x = .non))) H) isNotND := by
  intro F H x d o Q s vx h q
  have e := vx.isNon
  have z : isNotND d = some (.fz (.bl (!decide (x = .non)))) := by rw [e]; cases d <;> rfl
  rw [z] at h; cases h
  exact q.fz s (.bl _)
theorem ee_isN {j : Nat} {p2 : Pos} (ha : EE X Γ W a f) : EE X Γ W (.Compare a [.Is] [.Constant .none j p2] pos) (prim1 f isND) :=
  ⟨_, pe_cmp (pc_isN ha.choose_spec.1), SimE.prim1 (r := fun x H Q => Q (.bl (decide (x = .non))) H) ha.choose_spec.2 p_isN⟩
theorem ee_notN {j : Nat} {p2 : Pos} (ha : EE X Γ W a f) : EE X Γ W (.Compare a [.IsNot] [.Constant .none j p2] pos) (prim1 f isNotND) :=
  ⟨_, pe_cmp (pc_notN ha.choose_spec.1), SimE.prim1 (r := fun x H Q => Q (.bl (!decide (x = .non))) H) ha.choose_spec.2 p_notN⟩
theorem ee_idx (c : Ok X Γ W CXv k) (ha : EE X Γ W a f) (hb : EE X Γ W b g) (hs : PlainIx b := by exact fun _ _ => rfl) : EE X Γ W (.Subscript a b pos) (prim2 f g idxD) :=
  ⟨_, pe_ix (ix_U c.h1) ha.choose_spec.1 hb.choose_spec.1 hs, SimE.prim2 ha.choose_spec.2 hb.choose_spec.2 (by rw [c.K]; exact p_idx)⟩
end

/-! ## tests -/
abbrev ST := M Bool
def PostT (Γ : Gm) (W : St → XK) (F H : Hp) (σ : St) (env : List O) (Q : Bool → Hp → Prop) : Ot Bool → Prop
  | .ok b env' => ∀ F' H', Wr Γ F' H' σ env' → Stp F H (Own σ env) F' H' (Own σ env') → Q b H'
  | .ex e env' => ∀ cls dd F' H', Wr Γ F' H' σ env' → XR Γ F' H' cls dd e → Stp F H (Own σ env) F' H' (Own σ env') → W σ cls dd H'
def SimT (Γ : Gm) (W : St → XK) (t : TT) (f : ST) : Prop :=
  ∀ (F H : Hp) (σ : St) (env : List O) (res : Ot Bool) (Q : Bool → Hp → Prop), Wr Γ F H σ env → f env = some res → PostT Γ W F H σ env Q res → t σ H Q
def ET (X : Cx) (Γ : Gm) (W : St → XK) (e : Expr) (f : ST) : Prop := ∃ t, PT X e t ∧ SimT Γ W t f
theorem PostT.ex_trans {Γ : Gm} {W : St → XK} {F H F1 H1 : Hp} {σ : St} {env env1 : List O} {Q Q' : Bool → Hp → Prop} {e : Ex} {s' : List O} (st : Stp F H (Own σ env) F1 H1 (Own σ env1)) (p : PostT Γ W F H σ env Q (.ex e s')) : PostT Γ W F1 H1 σ env1 Q' (.ex e s') :=
  fun cls dd F' H' w x s => p cls dd F' H' w x (st.trans s)
theorem PostT.ok_trans {Γ : Gm} {W : St → XK} {F H F1 H1 : Hp} {σ : St} {env env1 : List O} {Q : Bool → Hp → Prop} {r : Ot Bool} (st : Stp F H (Own σ env) F1 H1 (Own σ env1)) (p : PostT Γ W F H σ env Q r) : PostT Γ W F1 H1 σ env1 Q r := by
  cases r with
  | ok b s => exact fun F' H' w s' => p F' H' w (st.trans s')
  | ex e s => exact p.ex_trans st
theorem PostE.ok_trans {Γ : Gm} {W : St → XK} {F H F1 H1 : Hp} {σ : St} {env env1 : List O} {Q : VK} {r : Ot Rs} (st : Stp F H (Own σ env) F1 H1 (Own σ env1)) (p : PostE Γ W F H σ env Q r) : PostE Γ W F1 H1 σ env1 Q r := by
  cases r with
  | ok b s => exact fun v F' H' w r s' => p v F' H' w r (st.trans s')
  | ex e s => exact p.ex_trans st
/-- truth of data -/
def truD : D → Option Bool
  | .non => some false
  | .bl b => some b
  | .int i => some (i != 0)
  | .str s => if fits s.length then some (s.length != 0) else none
  | .lst xs => some (!xs.isEmpty)
  | .tup xs => some (!xs.isEmpty)
  | _ => none
/-- an expression of a bool -/
def boolOf : Rs → List O → Option Bool := fun r s => match vw s r with
  | some (.bl b) => some b
  | _ => none
def tstB (f : SE) : ST := M.bind (opd f) fun r s => match boolOf r s with
  | some b => some (.ok b s)
  | none => none
def tstU (f : SE) : ST := M.bind (opd f) fun r s => match (vw s r).bind truD with
  | some b => some (.ok b s)
  | none => none
def tNt (f : ST) : ST := M.bind f fun b => M.pure (!b)
def tAn (f g : ST) : ST := M.bind f fun b => if b = true then g else M.pure false
def tOrr (f g : ST) : ST := M.bind f fun b => if b = true then M.pure true else g
section
variable {X : Cx} {Γ : Gm} {W : St → XK} {CXv : CXT} {k : Nat} {pos : Pos} {a b : Expr} {f g : SE} {ft gt : ST}
theorem RR.stp {F H F1 H1 : Hp} {σ : St} {env env1 : List O} {v : V} {r : Rs} (st : Stp F H (Own σ env) F1 H1 (OwnR σ env1 v r)) : Stp F H (Own σ env) F1 H1 (Own σ env1) :=
  st.weak fun x h => .inl (by cases r <;> first | exact h | exact .inl h)
theorem sim_tstB {t : TE} (h : SimE Γ W t f) : SimT Γ W (fun σ H Q => t σ H fun x H' => ∃ k, x = .bl k ∧ Q k H') (tstB f) := by
  intro F H σ env res Q w hf post
  rcases M.bind_some hf with ⟨e, s', h1, rfl⟩ | ⟨r, s', h1, h2⟩
  · exact h.opd F H σ env _ _ w h1 post
  · refine h.opd F H σ env _ _ w h1 fun v F1 H1 w1 r1 st1 => ?_
    cases hb : boolOf r s' with
    | none => rw [hb] at h2; cases h2
    | some bb =>
      rw [hb] at h2; cases h2
      unfold boolOf at hb
      split at hb
      · rename_i b' hv
        cases hb
        exact ⟨_, (r1.vw (opd_opn h1) w1 Sub.refl hv).bl, post F1 H1 w1 (RR.stp st1)⟩
      · cases hb
theorem tru_of {F H : Hp} {x : V} {d : D} {bb : Bool} (s : Sub F H) (vx : Vw Γ F H x d) (h : truD d = some bb) : TruV Γ.K x H bb := by
  unfold truD at h
  split at h
  · cases h; cases vx.non; exact rfl
  · cases h; cases vx.bl; exact rfl
  · cases h; cases vx.int; exact rfl
  · split at h
    · rename_i z hz
      cases h; cases vx.str
      refine ⟨hz, ?_⟩
      by_cases e : z.length = 0
      · simp [e]
      · have e2 : ¬ ((z.length : Int) = 0) := by omega
        have h1 : (z.length != 0) = true := by simpa using e
        have h2 : ((z.length : Int) != 0) = true := by simpa using e2
        rw [h1, h2]
    · cases h
  · cases h
    obtain ⟨a, vs, rfl, h1, z, r⟩ := vx.lst s
    refine .inl ⟨vs, SqL.of h1, ?_⟩
    cases r <;> rfl
  · cases h
    obtain ⟨a, vs, rfl, h1, z, r⟩ := vx.tup
    refine .inr (.inl ⟨vs, SqT.of (s _ _ h1), ?_⟩)
    cases r <;> rfl
  · cases h
theorem sim_tstU {t : TE} (h : SimE Γ W t f) : SimT Γ W (fun σ H Q => t σ H fun x H' => ∃ k, TruV Γ.K x H' k ∧ Q k H') (tstU f) := by
  intro F H σ env res Q w hf post
  rcases M.bind_some hf with ⟨e, s', h1, rfl⟩ | ⟨r, s', h1, h2⟩
  · exact h.opd F H σ env _ _ w h1 post
  · refine h.opd F H σ env _ _ w h1 fun v F1 H1 w1 r1 st1 => ?_
    cases hv : vw s' r with
    | none => simp only [hv] at h2; cases h2
    | some d =>
      have h2 : (match truD d with | some b => some (Ot.ok b s') | none => none) = some res := by simpa only [hv, Option.bind] using h2
      cases hb : truD d with
      | none => rw [hb] at h2; cases h2
      | some bb =>
        rw [hb] at h2; cases h2
        exact ⟨bb, tru_of w1.sub (r1.vw (opd_opn h1) w1 Sub.refl hv) hb, post F1 H1 w1 (RR.stp st1)⟩
/-- a test by truth: a name, a call, a subscript, a field -/
theorem et_tru (c : Ok X Γ W CXv k) (ha : EE X Γ W a f) (he : ∀ whole, isTrue a X.env whole = (do let v ← whole; standAt a.pos; holding [v] (truthy v)) := by exact fun _ => rfl) : ET X Γ W a (tstU f) :=
  ⟨_, pt_truth ha.choose_spec.1 he, by rw [c.K]; exact sim_tstU ha.choose_spec.2⟩
theorem et_cmp {op : CmpOp} {r : R2} {φ : D → D → Option O} (ho : OpR X (compareOp op) r) (hp : P2 Γ r φ) (ha : EE X Γ W a f) (hb : EE X Γ W b g) (hm : behindInMarks op b = false) : ET X Γ W (.Compare a [op] [b] pos) (tstB (prim2 f g φ)) :=
  ⟨_, pt_cmpR ho ha.choose_spec.1 hb.choose_spec.1 hm, sim_tstB (SimE.prim2 ha.choose_spec.2 hb.choose_spec.2 hp)⟩
theorem et_eq (c : Ok X Γ W CXv k) (ha : EE X Γ W a f) (hb : EE X Γ W b g) : ET X Γ W (.Compare a [.Eq] [b] pos) (tstB (prim2 f g eqD)) := et_cmp (op_eqU c.h64) (by rw [c.K]; exact p_eq) ha hb (nomark _)
theorem et_ne (c : Ok X Γ W CXv k) (ha : EE X Γ W a f) (hb : EE X Γ W b g) : ET X Γ W (.Compare a [.NotEq] [b] pos) (tstB (prim2 f g neD)) := et_cmp (op_neU c.h64) (by rw [c.K]; exact p_ne) ha hb (nomark _)
theorem et_lt (c : Ok X Γ W CXv k) (ha : EE X Γ W a f) (hb : EE X Γ W b g) : ET X Γ W (.Compare a [.Lt] [b] pos) (tstB (prim2 f g ltD)) := et_cmp (op_ltU c.h64) (by rw [c.K]; exact p_lt) ha hb (nomark _)
theorem et_le (ha : EE X Γ W a f) (hb : EE X Γ W b g) : ET X Γ W (.Compare a [.LtE] [b] pos) (tstB (prim2 f g leD)) := et_cmp op_le p_le ha hb (nomark _)
theorem et_gt (ha : EE X Γ W a f) (hb : EE X Γ W b g) : ET X Γ W (.Compare a [.Gt] [b] pos) (tstB (prim2 f g gtD)) := et_cmp op_gt p_gt ha hb (nomark _)
theorem et_ge (ha : EE X Γ W a f) (hb : EE X Γ W b g) : ET X Γ W (.Compare a [.GtE] [b] pos) (tstB (prim2 f g geD)) := et_cmp op_ge p_ge ha hb (nomark _)
theorem et_in (c : Ok X Γ W CXv k) (ha : EE X Γ W a f) (hb : EE X Γ W b g) (hm : behindInMarks .In b = false := by rfl) : ET X Γ W (.Compare a [.In] [b] pos) (tstB (prim2 f g inO)) := et_cmp (op_inU c.h65) (by rw [c.K]; exact p_in) ha hb hm
theorem et_nin (c : Ok X Γ W CXv k) (ha : EE X Γ W a f) (hb : EE X Γ W b g) (hm : behindInMarks .NotIn b = false := by rfl) : ET X Γ W (.Compare a [.NotIn] [b] pos) (tstB (prim2 f g ninO)) := et_cmp (op_ninU c.h65) (by rw [c.K]; exact p_nin) ha hb hm
theorem et_isN {j : Nat} {p2 : Pos} (ha : EE X Γ W a f) : ET X Γ W (.Compare a [.Is] [.Constant .none j p2] pos) (tstB (prim1 f isND)) :=
  ⟨_, pt_cmp (pc_isN ha.choose_spec.1), sim_tstB (SimE.prim1 (r := fun x H Q => Q (.bl (decide (x = .non))) H) ha.choose_spec.2 p_isN)⟩
theorem et_notN {j : Nat} {p2 : Pos} (ha : EE X Γ W a f) : ET X Γ W (.Compare a [.IsNot] [.Constant .none j p2] pos) (tstB (prim1 f isNotND)) :=
  ⟨_, pt_cmp (pc_notN ha.choose_spec.1), sim_tstB (SimE.prim1 (r := fun x H Q => Q (.bl (!decide (x = .non))) H) ha.choose_spec.2 p_notN)⟩

/-! and, or, not -/
theorem sim_not {t : TT} (h : SimT Γ W t ft) : SimT Γ W (tNot t) (tNt ft) := by
  intro F H σ env res Q w hf post
  rcases M.bind_some hf with ⟨e, s', h1, rfl⟩ | ⟨r, s', h1, h2⟩
  · exact h F H σ env _ _ w h1 post
  · cases h2
    exact h F H σ env _ _ w h1 post
theorem sim_and {t u : TT} (h : SimT Γ W t ft) (h' : SimT Γ W u gt) : SimT Γ W (tAnd t u) (tAn ft gt) := by
  intro F H σ env res Q w hf post
  rcases M.bind_some hf with ⟨e, s', h1, rfl⟩ | ⟨r, s', h1, h2⟩
  · exact h F H σ env _ _ w h1 post
  · refine h F H σ env _ _ w h1 fun F1 H1 w1 st1 => ?_
    cases r with
    | true => exact h' F1 H1 σ s' _ _ w1 h2 (post.ok_trans st1)
    | false => cases h2; exact post F1 H1 w1 st1
theorem sim_or {t u : TT} (h : SimT Γ W t ft) (h' : SimT Γ W u gt) : SimT Γ W (tOr t u) (tOrr ft gt) := by
  intro F H σ env res Q w hf post
  rcases M.bind_some hf with ⟨e, s', h1, rfl⟩ | ⟨r, s', h1, h2⟩
  · exact h F H σ env _ _ w h1 post
  · refine h F H σ env _ _ w h1 fun F1 H1 w1 st1 => ?_
    cases r with
    | false => exact h' F1 H1 σ s' _ _ w1 h2 (post.ok_trans st1)
    | true => cases h2; exact post F1 H1 w1 st1
theorem et_not (ha : ET X Γ W a ft) : ET X Γ W (.UnaryOp .Not a pos) (tNt ft) := ⟨_, pt_not ha.choose_spec.1, sim_not ha.choose_spec.2⟩
/-- a test whatever its whole is -/
def EW (X : Cx) (Γ : Gm) (W : St → XK) (e : Expr) (f : ST) : Prop := ∃ t, PW X e t ∧ SimT Γ W t f
theorem EW.et {e : Expr} (h : EW X Γ W e ft) : ET X Γ W e ft := ⟨_, h.choose_spec.1.pt, h.choose_spec.2⟩
theorem ew_and1 (ha : ET X Γ W a ft) : EW X Γ W (.BoolOp .And [a] pos) ft := ⟨_, pw_and1 ha.choose_spec.1, ha.choose_spec.2⟩
theorem ew_or1 (ha : ET X Γ W a ft) : EW X Γ W (.BoolOp .Or [a] pos) ft := ⟨_, pw_or1 ha.choose_spec.1, ha.choose_spec.2⟩
theorem ew_and {rest : List Expr} (ha : ET X Γ W a ft) (hb : EW X Γ W (.BoolOp .And (b :: rest) pos) gt) : EW X Γ W (.BoolOp .And (a :: b :: rest) pos) (tAn ft gt) :=
  ⟨_, pw_and ha.choose_spec.1 hb.choose_spec.1, sim_and ha.choose_spec.2 hb.choose_spec.2⟩
theorem ew_or {rest : List Expr} (ha : ET X Γ W a ft) (hb : EW X Γ W (.BoolOp .Or (b :: rest) pos) gt) : EW X Γ W (.BoolOp .Or (a :: b :: rest) pos) (tOrr ft gt) :=
  ⟨_, pw_or ha.choose_spec.1 hb.choose_spec.1, sim_or ha.choose_spec.2 hb.choose_spec.2⟩
/-! .. as values, of bools -/
def vNot (f : SE) : SE := M.bind (tstB f) fun b => M.pure (.fz (.bl (!b)))
def vAnd (f g : SE) : SE := M.bind (tstB f) fun b => if b = true then g else M.pure (.fz (.bl false))
def vOr (f g : SE) : SE := M.bind (tstB f) fun b => if b = true then M.pure (.fz (.bl true)) else g
theorem PostE.toB {F H : Hp} {σ : St} {env : List O} {Q : VK} {b : Bool} {s : List O} (p : PostE Γ W F H σ env Q (.ok (.fz (.bl b)) s)) {F' H' : Hp} (w : Wr Γ F' H' σ s) (st : Stp F H (Own σ env) F' H' (Own σ s)) : Q (.bl b) H' := p (.bl b) F' H' w (.bl b) st
theorem sim_vnot {t : TE} (h : SimE Γ W t f) : SimE Γ W (tNotV t) (vNot f) := by
  intro F H σ env res Q w hf post
  rcases M.bind_some hf with ⟨e, s', h1, rfl⟩ | ⟨r, s', h1, h2⟩
  · exact sim_tstB h F H σ env _ (fun c H1 => Q (.bl (!c)) H1) w h1 post
  · cases h2
    exact sim_tstB h F H σ env _ (fun c H1 => Q (.bl (!c)) H1) w h1 fun F1 H1 w1 st1 => post.toB w1 st1
theorem sim_vand {t u : TE} (h : SimE Γ W t f) (h' : SimE Γ W u g) : SimE Γ W (tAndV t u) (vAnd f g) := by
  intro F H σ env res Q w hf post
  rcases M.bind_some hf with ⟨e, s', h1, rfl⟩ | ⟨r, s', h1, h2⟩
  · exact sim_tstB h F H σ env _ (fun c H1 => if c = true then u σ H1 Q else Q (.bl false) H1) w h1 post
  · refine sim_tstB h F H σ env _ (fun c H1 => if c = true then u σ H1 Q else Q (.bl false) H1) w h1 fun F1 H1 w1 st1 => ?_
    cases r with
    | true => exact h' F1 H1 σ s' _ _ w1 h2 (post.ok_trans st1)
    | false => cases h2; exact post.toB w1 st1
theorem sim_vor {t u : TE} (h : SimE Γ W t f) (h' : SimE Γ W u g) : SimE Γ W (tOrV t u) (vOr f g) := by
  intro F H σ env res Q w hf post
  rcases M.bind_some hf with ⟨e, s', h1, rfl⟩ | ⟨r, s', h1, h2⟩
  · exact sim_tstB h F H σ env _ (fun c H1 => if c = true then Q (.bl true) H1 else u σ H1 Q) w h1 post
  · refine sim_tstB h F H σ env _ (fun c H1 => if c = true then Q (.bl true) H1 else u σ H1 Q) w h1 fun F1 H1 w1 st1 => ?_
    cases r with
    | false => exact h' F1 H1 σ s' _ _ w1 h2 (post.ok_trans st1)
    | true => cases h2; exact post.toB w1 st1
theorem ee_not (ha : EE X Γ W a f) : EE X Γ W (.UnaryOp .Not a pos) (vNot f) := ⟨_, pe_not ha.choose_spec.1, sim_vnot ha.choose_spec.2⟩
theorem ee_one {op : BoolOp} (ha : EE X Γ W a f) : EE X Γ W (.BoolOp op [a] pos) f := ⟨_, pe_one ha.choose_spec.1, ha.choose_spec.2⟩
theorem ee_and {rest : List Expr} (ha : EE X Γ W a f) (hb : EE X Γ W (.BoolOp .And (b :: rest) pos) g) : EE X Γ W (.BoolOp .And (a :: b :: rest) pos) (vAnd f g) :=
  ⟨_, pe_and ha.choose_spec.1 hb.choose_spec.1, sim_vand ha.choose_spec.2 hb.choose_spec.2⟩
theorem ee_or {rest : List Expr} (ha : EE X Γ W a f) (hb : EE X Γ W (.BoolOp .Or (b :: rest) pos) g) : EE X Γ W (.BoolOp .Or (a :: b :: rest) pos) (vOr f g) :=
  ⟨_, pe_or ha.choose_spec.1 hb.choose_spec.1, sim_vor ha.choose_spec.2 hb.choose_spec.2⟩
def ifE (t : ST) (f g : SE) : SE := M.bind t fun b => if b = true then f else g
theorem sim_ifE {t : TT} {u v : TE} (h : SimT Γ W t ft) (hf : SimE Γ W u f) (hg : SimE Γ W v g) : SimE Γ W (tIf t u v) (ifE ft f g) := by
  intro F H σ env res Q w hf' post
  rcases M.bind_some hf' with ⟨e, s', h1, rfl⟩ | ⟨r, s', h1, h2⟩
  · exact h F H σ env _ _ w h1 post
  · refine h F H σ env _ _ w h1 fun F1 H1 w1 st1 => ?_
    cases r with
    | true => exact hf F1 H1 σ s' _ _ w1 h2 (post.ok_trans st1)
    | false => exact hg F1 H1 σ s' _ _ w1 h2 (post.ok_trans st1)
theorem ee_if {c : Expr} (hc : ET X Γ W c ft) (ha : EE X Γ W a f) (hb : EE X Γ W b g) : EE X Γ W (.IfExp c a b pos) (ifE ft f g) :=
  ⟨_, pe_ifExp hc.choose_spec.1 ha.choose_spec.1 hb.choose_spec.1, sim_ifE hc.choose_spec.2 ha.choose_spec.2 hb.choose_spec.2⟩

/-! a < b < c -/
def bl? : Option O → Option Bool
  | some (.fz (.bl b)) => some b
  | _ => none
def chain (f g h : SE) (φ ψ : D → D → Option O) : SE := M.bind (opd f) fun r => M.bind (opd g) fun r' s => match bl? ((vw s r).bind fun d => (vw s r').bind fun e => φ d e) with
  | some true => M.bind (opd h) (fun r'' s2 => ret ((vw s2 r').bind fun d => (vw s2 r'').bind fun e => ψ d e) s2) s
  | some false => some (.ok (.fz (.bl false)) s)
  | none => none
theorem bl?_some {o : Option O} {b : Bool} (h : bl? o = some b) : o = some (.fz (.bl b)) := by
  unfold bl? at h
  split at h
  · cases h; rfl
  · cases h
theorem sim_chain {ta tb tc : TE} {f g h : SE} {r r' : R2} {φ ψ : D → D → Option O} (ha : SimE Γ W ta f) (hb : SimE Γ W tb g) (hc : SimE Γ W tc h) (hp : P2 Γ r φ) (hp' : P2 Γ r' ψ) : SimE Γ W (tChain r r' ta tb tc) (chain f g h φ ψ) := by
  intro F H σ env res Q w hf post
  rcases M.bind_some hf with ⟨e, s', h1, rfl⟩ | ⟨a, s', h1, h2⟩
  · exact ha.opd F H σ env _ _ w h1 post
  · refine ha.opd F H σ env _ _ w h1 fun v F1 H1 w1 r1 st1 => ?_
    have st1' := RR.stp st1
    rcases M.bind_some h2 with ⟨e, s2, h3, rfl⟩ | ⟨b, s2, h3, h4⟩
    · exact hb.opd F1 H1 σ s' _ _ w1 h3 (PostE.ex_trans st1' post)
    · refine hb.opd F1 H1 σ s' _ _ w1 h3 fun u F2 H2 w2 r2 st2 => ?_
      have st2' := RR.stp st2
      cases hv : vw s2 a with
      | none => simp only [hv, Option.bind] at h4; cases h4
      | some d =>
        cases hu : vw s2 b with
        | none => simp only [hv, hu, Option.bind] at h4; cases h4
        | some e =>
          simp only [hv, hu, Option.bind] at h4
          have vx : Vw Γ F2 H2 v d := r1.vw (opd_opn h1) w2 st2.sub hv
          have vy : Vw Γ F2 H2 u e := r2.vw (opd_opn h3) w2 Sub.refl hu
          cases hb2 : bl? (φ d e) with
          | none => rw [hb2] at h4; cases h4
          | some bb =>
            rw [hb2] at h4
            refine hp F2 H2 v u d e _ _ w2.sub vx vy (bl?_some hb2) fun z F3 H3 g3 => ?_
            have w3 : Wr Γ F3 H3 σ s2 := w2.mono g3.sub g3.subH fun a u q hu => ⟨g3.keep _ _ hu, by
              cases e : F3 a with
              | none => rfl
              | some z =>
                rcases g3.new a z e with h | h
                · rw [(w2.ownF q).1] at h; cases h
                · rw [hu] at h; cases h⟩
            have st3 : Stp F2 H2 (Own σ s2) F3 H3 (Own σ s2) := ⟨g3.sub, fun a u e => (g3.new a u e).elim .inl fun z => .inr (.inl z), fun a u e _ => g3.keep a u e, fun a h => .inl h⟩
            have rz := g3.rel
            cases rz with
            | fz rz =>
              cases rz
              refine ⟨bb, rfl, ?_⟩
              cases bb with
              | false => cases h4; exact post.toB w3 ((st1'.trans st2').trans st3)
              | true =>
                rw [if_pos rfl]
                rcases M.bind_some h4 with ⟨e', s3, h5, rfl⟩ | ⟨c', s3, h5, h6⟩
                · exact hc.opd F3 H3 σ s2 _ _ w3 h5 (PostE.ex_trans ((st1'.trans st2').trans st3) post)
                · refine hc.opd F3 H3 σ s2 _ _ w3 h5 fun u3 F4 H4 w4 r4 st4 => ?_
                  obtain ⟨o, ho, hno, rfl⟩ := ret_some h6
                  cases hv4 : vw s3 b with
                  | none => rw [hv4] at ho; cases ho
                  | some e4 =>
                    rw [hv4] at ho
                    have ho : (vw s3 c').bind (ψ e4) = some o := ho
                    cases hu4 : vw s3 c' with
                    | none => rw [hu4] at ho; cases ho
                    | some e5 =>
                      rw [hu4] at ho
                      exact hp' F4 H4 u u3 e4 e5 o Q w4.sub (r2.vw (opd_opn h3) w4 (g3.sub.trans st4.sub) hv4) (r4.vw (opd_opn h5) w4 Sub.refl hu4) ho (QR.post w4 (((st1'.trans st2').trans st3).trans (RR.stp st4)) hno post)
theorem ee_chain {op op' : CmpOp} {r r' : R2} {φ ψ : D → D → Option O} {b c : Expr} {h : SE} (ho : OpR X (compareOp op) r) (ho' : OpR X (compareOp op') r') (hp : P2 Γ r φ) (hp' : P2 Γ r' ψ) (ha : EE X Γ W a f) (hb : EE X Γ W b g) (hc : EE X Γ W c h)
    (hm : lastMarks [op, op'] [b, c] = false := by with_unfolding_all rfl) : EE X Γ W (.Compare a [op, op'] [b, c] pos) (chain f g h φ ψ) :=
  ⟨_, pe_chain ho ho' ha.choose_spec.1 hb.choose_spec.1 hc.choose_spec.1 hm, sim_chain ha.choose_spec.2 hb.choose_spec.2 hc.choose_spec.2 hp hp'⟩
theorem et_chain {op op' : CmpOp} {r r' : R2} {φ ψ : D → D → Option O} {b c : Expr} {h : SE} (ho : OpR X (compareOp op) r) (ho' : OpR X (compareOp op') r') (hp : P2 Γ r φ) (hp' : P2 Γ r' ψ) (ha : EE X Γ W a f) (hb : EE X Γ W b g) (hc : EE X Γ W c h)
    (hm : lastMarks [op, op'] [b, c] = false := by with_unfolding_all rfl) : ET X Γ W (.Compare a [op, op'] [b, c] pos) (tstB (chain f g h φ ψ)) :=
  ⟨_, pt_chain ho ho' ha.choose_spec.1 hb.choose_spec.1 hc.choose_spec.1 hm, sim_tstB (sim_chain ha.choose_spec.2 hb.choose_spec.2 hc.choose_spec.2 hp hp')⟩
end
end Ev
-- EvF
set_option Elab.async false
set_option linter.all false
set_option maxRecDepth 100000
set_option maxHeartbeats 2000000
namespace Ev
open PySem PySem.Spec L2
open PyProof.Rows hiding St

/-! ## argument lists -/
/-- a result as an operand, at any later time -/
def RO (Γ : Gm) (F : Hp) (σ : St) (v : V) : Rs → Prop
  | .fz d => Rv Γ F v d
  | .bor i => σ[i]? = some (some v)
  | .ow _ => False
inductive ROs (Γ : Gm) (F : Hp) (σ : St) : List V → List Rs → Prop
  | nil : ROs Γ F σ [] []
  | cons {v : V} {vs : List V} {r : Rs} {rs : List Rs} : RO Γ F σ v r → ROs Γ F σ vs rs → ROs Γ F σ (v :: vs) (r :: rs)
section
variable {Γ : Gm} {W : St → XK} {F F' H H' : Hp} {σ : St} {env : List O}
theorem RR.ro {v : V} {r : Rs} (h : RR Γ F H σ env v r) (o : r.opn = true) : RO Γ F σ v r := by
  cases r with
  | fz d => exact h
  | bor i => exact h.1
  | ow o => cases o <;> simp [Rs.opn] at *
theorem RO.mono {v : V} {r : Rs} (s : Sub F F') (h : RO Γ F σ v r) : RO Γ F' σ v r := by
  cases r with
  | fz d => exact Rv.mono s h
  | bor i => exact h
  | ow o => exact h
theorem ROs.mono {vs : List V} {rs : List Rs} (s : Sub F F') (h : ROs Γ F σ vs rs) : ROs Γ F' σ vs rs := by
  induction h with
  | nil => exact .nil
  | cons a _ ih => exact .cons (a.mono s) ih
theorem RO.vw {v : V} {r : Rs} {d : D} (h : RO Γ F σ v r) (w : Wr Γ F H σ env) (e : vw env r = some d) : Vw Γ F H v d := by
  cases r with
  | fz d' => cases e; exact .inl h
  | ow o => exact h.elim
  | bor i =>
    have e : (env[i]?).bind O.view = some d := e
    cases q : env[i]? with
    | none => rw [q] at e; cases e
    | some o =>
      rw [q] at e
      have e : o.view = some d := e
      have r := w.rel i _ o h q
      cases o with
      | no => cases e
      | fz d' => cases e; cases r with | fz r => exact .inl r
      | lst ds => exact .inr ⟨_, rfl, r, e⟩
      | dct t kvs => exact .inr ⟨_, rfl, r, e⟩
      | ins c fs => exact .inr ⟨_, rfl, r, e⟩
theorem ROs.length {vs : List V} {rs : List Rs} (h : ROs Γ F σ vs rs) : vs.length = rs.length := by
  induction h with
  | nil => rfl
  | cons _ _ ih => simp [ih]
theorem ROs.get {vs : List V} {rs : List Rs} (h : ROs Γ F σ vs rs) : ∀ {j : Nat} {r : Rs}, rs[j]? = some r → ∃ v, vs[j]? = some v ∧ RO Γ F σ v r := by
  induction h with
  | nil => intro j r e; simp at e
  | cons a _ ih =>
    intro j r e
    cases j with
    | zero => simp at e; subst e; exact ⟨_, rfl, a⟩
    | succ j => exact ih (by simpa using e)
end
abbrev SA := M (List Rs)
def aNil : SA := M.pure []
def aCons (f : SE) (g : SA) : SA := M.bind (opd f) fun r => M.bind g fun rs => M.pure (r :: rs)
def PostA (Γ : Gm) (W : St → XK) (F H : Hp) (σ : St) (env : List O) (Q : List V → Hp → Prop) : Ot (List Rs) → Prop
  | .ok rs env' => ∀ vs F' H', Wr Γ F' H' σ env' → ROs Γ F' σ vs rs → Stp F H (Own σ env) F' H' (Own σ env') → Q vs H'
  | .ex e env' => ∀ cls dd F' H', Wr Γ F' H' σ env' → XR Γ F' H' cls dd e → Stp F H (Own σ env) F' H' (Own σ env') → W σ cls dd H'
def SimA (Γ : Gm) (W : St → XK) (t : TA) (f : SA) : Prop :=
  ∀ (F H : Hp) (σ : St) (env : List O) (res : Ot (List Rs)) (Q : List V → Hp → Prop), Wr Γ F H σ env → f env = some res → PostA Γ W F H σ env Q res → t σ H Q
def EA (X : Cx) (Γ : Gm) (W : St → XK) (es : List Expr) (f : SA) : Prop := ∃ t, PA X es t ∧ SimA Γ W t f
section
variable {X : Cx} {Γ : Gm} {W : St → XK} {CXv : CXT} {k : Nat} {pos : Pos} {e : Expr} {es : List Expr} {f g : SE} {fa : SA}
theorem ea_nil : EA X Γ W [] aNil := ⟨_, pa_nil, fun F H σ env res Q w hf post => by cases hf; exact post [] F H w .nil .refl⟩
theorem sim_acons {t : TE} {u : TA} (h : SimE Γ W t f) (h' : SimA Γ W u fa) : SimA Γ W (tCons t u) (aCons f fa) := by
  intro F H σ env res Q w hf post
  rcases M.bind_some hf with ⟨e, s', h1, rfl⟩ | ⟨r, s', h1, h2⟩
  · exact h.opd F H σ env _ _ w h1 post
  · refine h.opd F H σ env _ _ w h1 fun v F1 H1 w1 r1 st1 => ?_
    rcases M.bind_some h2 with ⟨e, s2, h3, rfl⟩ | ⟨rs, s2, h3, h4⟩
    · exact h' F1 H1 σ s' _ _ w1 h3 fun cls dd F' H' w x s => post cls dd F' H' w x ((RR.stp st1).trans s)
    · cases h4
      exact h' F1 H1 σ s' _ _ w1 h3 fun vs F2 H2 w2 rs2 st2 => post (v :: vs) F2 H2 w2 (.cons ((r1.ro (opd_opn h1)).mono st2.sub) rs2) ((RR.stp st1).trans st2)
theorem ea_cons (ha : EE X Γ W e f) (hr : EA X Γ W es fa) (hs : starEach (e :: es) X.env = (false, eval e X.env) :: starEach es X.env := by rfl) : EA X Γ W (e :: es) (aCons f fa) :=
  ⟨_, pa_cons ha.choose_spec.1 hr.choose_spec.1 hs, sim_acons ha.choose_spec.2 hr.choose_spec.2⟩
end
/-! ## displays -/
/-- all are frozen -/
def fzs : List Rs → Option (List D)
  | [] => some []
  | .fz d :: rs => match fzs rs with
    | some ds => some (d :: ds)
    | none => none
  | _ => none
theorem ROs.fz {Γ : Gm} {F : Hp} {σ : St} {vs : List V} {rs : List Rs} (h : ROs Γ F σ vs rs) : ∀ {ds : List D}, fzs rs = some ds → RvL Γ F vs ds := by
  induction h with
  | nil => intro ds e; cases e; exact .nil
  | @cons v vs r rs a b ih =>
    intro ds e
    cases r with
    | fz d =>
      unfold fzs at e
      split at e
      · rename_i ds' q; cases e; exact .cons a (ih q)
      · cases e
    | bor i => cases e
    | ow o => cases e
def tupS (fa : SA) : SE := M.bind fa fun rs s => match fzs rs with
  | some ds => if fits ds.length then some (.ok (.fz (.tup ds)) s) else none
  | none => none
def lstS (fa : SA) : SE := M.bind fa fun rs s => match fzs rs with
  | some ds => if fits ds.length then some (.ok (.ow (.lst ds)) s) else none
  | none => none
section
variable {X : Cx} {Γ : Gm} {W : St → XK} {CXv : CXT} {k : Nat} {pos : Pos} {e : Expr} {es : List Expr} {f g : SE} {fa : SA}
theorem sim_tup {t : TA} (h : SimA Γ W t fa) : SimE Γ W (tTup t) (tupS fa) := by
  intro F H σ env res Q w hf post
  rcases M.bind_some hf with ⟨e, s', h1, rfl⟩ | ⟨rs, s', h1, h2⟩
  · exact h F H σ env _ _ w h1 post
  · refine h F H σ env _ _ w h1 fun vs F1 H1 w1 r1 st1 => ?_
    split at h2
    · rename_i ds hd
      split at h2
      · rename_i hz
        cases h2
        have r := r1.fz hd
        have hz' : vs.length ≤ sizeLine := by rw [r.length]; exact hz
        exact ⟨hz', fun p hp => QR.post (o := .fz (.tup ds)) w1 st1 (by simp) post _ _ _ (gr_tup w1.sub hp hz' r)⟩
      · cases h2
    · cases h2
theorem sim_lst {t : TA} (h : SimA Γ W t fa) : SimE Γ W (tLst t) (lstS fa) := by
  intro F H σ env res Q w hf post
  rcases M.bind_some hf with ⟨e, s', h1, rfl⟩ | ⟨rs, s', h1, h2⟩
  · exact h F H σ env _ _ w h1 post
  · refine h F H σ env _ _ w h1 fun vs F1 H1 w1 r1 st1 => ?_
    split at h2
    · rename_i ds hd
      split at h2
      · rename_i hz
        cases h2
        have r := r1.fz hd
        have hz' : vs.length ≤ sizeLine := by rw [r.length]; exact hz
        exact ⟨hz', fun p hp => QR.post (o := .lst ds) w1 st1 (by simp) post _ _ _ (gr_lst w1.sub hp hz' r)⟩
      · cases h2
    · cases h2
theorem ee_tup {x1 : Nat} (h : EA X Γ W es fa) : EE X Γ W (.Tuple es x1 pos) (tupS fa) := ⟨_, pe_tup h.choose_spec.1, sim_tup h.choose_spec.2⟩
theorem ee_lst (h : EA X Γ W es fa) : EE X Γ W (.List es pos) (lstS fa) := ⟨_, pe_lst h.choose_spec.1, sim_lst h.choose_spec.2⟩
end
/-! ## calls of built-ins -/
def vws (s : List O) : List Rs → Option (List D)
  | [] => some []
  | r :: rs => match vw s r, vws s rs with
    | some d, some ds => some (d :: ds)
    | _, _ => none
inductive VwL (Γ : Gm) (F H : Hp) : List V → List D → Prop
  | nil : VwL Γ F H [] []
  | cons {v : V} {vs : List V} {d : D} {ds : List D} : Vw Γ F H v d → VwL Γ F H vs ds → VwL Γ F H (v :: vs) (d :: ds)
theorem ROs.vws {Γ : Gm} {F H : Hp} {σ : St} {env : List O} (w : Wr Γ F H σ env) {vs : List V} {rs : List Rs} (h : ROs Γ F σ vs rs) : ∀ {ds : List D}, vws env rs = some ds → VwL Γ F H vs ds := by
  induction h with
  | nil => intro ds e; cases e; exact .nil
  | @cons v vs r rs a b ih =>
    intro ds e
    unfold Ev.vws at e
    split at e
    · rename_i d ds' h1 h2; cases e; exact .cons (a.vw w h1) (ih h2)
    · cases e
def primN (fa : SA) (φ : List D → Option O) : SE := M.bind fa fun rs s => ret ((vws s rs).bind φ) s
def PN (Γ : Gm) (r : List V → Hp → VK → Prop) (φ : List D → Option O) : Prop := ∀ (F H : Hp) (xs : List V) (ds : List D) (o : O) (Q : VK), Sub F H → VwL Γ F H xs ds → φ ds = some o → QR Γ F H o Q → r xs H Q
section
variable {X : Cx} {Γ : Gm} {W : St → XK} {CXv : CXT} {k : Nat} {pos p : Pos} {e : Expr} {es : List Expr} {f g : SE} {fa : SA} {x : Str}
theorem sim_primN {t : TA} {r : List V → Hp → VK → Prop} {φ : List D → Option O} (h : SimA Γ W t fa) (hp : PN Γ r φ) : SimE Γ W (tCB r t) (primN fa φ) := by
  intro F H σ env res Q w hf post
  rcases M.bind_some hf with ⟨e, s', h1, rfl⟩ | ⟨rs, s', h1, h2⟩
  · exact h F H σ env _ _ w h1 post
  · refine h F H σ env _ _ w h1 fun vs F1 H1 w1 r1 st1 => ?_
    obtain ⟨o, ho, hno, rfl⟩ := ret_some h2
    cases hv : vws s' rs with
    | none => rw [hv] at ho; cases ho
    | some ds =>
      rw [hv] at ho
      exact hp F1 H1 vs ds o Q w1.sub (r1.vws w1 hv) ho (QR.post w1 st1 hno post)
theorem ee_callB {id : String} {r : List V → Hp → VK → Prop} {φ : List D → Option O} (hc : CallR X (.builtin id) r) (hp : PN Γ r φ) (hg : Gl X x) (hm : X.mg x = none) (hv : bootBuiltins x = some (.builtin id)) (ha : EA X Γ W (e :: es) fa)
    (hn : x ≠ "__name__" := by decide) (hdb : (x == ("__debug__" : Str)) = false := by decide)
    (he : starEach (e :: es) X.env = (false, eval e X.env) :: starEach es X.env := by rfl) (hpl : (backTo pos (starEach es X.env)).any (·.1) = false := by rfl) : EE X Γ W (.Call (.Name x p) (e :: es) [] pos) (primN fa φ) :=
  ⟨_, pe_callB hc hg hm hv ha.choose_spec.1 hn hdb he hpl, sim_primN ha.choose_spec.2 hp⟩
theorem ee_callTy {T : String} {r : List V → Hp → VK → Prop} {φ : List D → Option O} (hc : CallR X (.type T) r) (hp : PN Γ r φ) (hg : Gl X x) (hm : X.mg x = none) (hv : bootBuiltins x = some (.type T)) (ha : EA X Γ W (e :: es) fa)
    (hn : x ≠ "__name__" := by decide) (hdb : (x == ("__debug__" : Str)) = false := by decide)
    (he : starEach (e :: es) X.env = (false, eval e X.env) :: starEach es X.env := by rfl) (hpl : (backTo pos (starEach es X.env)).any (·.1) = false := by rfl) : EE X Γ W (.Call (.Name x p) (e :: es) [] pos) (primN fa φ) :=
  ⟨_, pe_callTy hc hg hm hv ha.choose_spec.1 hn hdb he hpl, sim_primN ha.choose_spec.2 hp⟩
end
/-! ### len, int, tuple, list -/
def lenD : List D → Option O
  | [.lst xs] => some (.fz (.int xs.length))
  | [.tup xs] => some (.fz (.int xs.length))
  | [.str s] => if fits s.length then some (.fz (.int s.length)) else none
  | [.dct false kvs] => some (.fz (.int kvs.length))
  | _ => none
def intD : List D → Option O
  | [.int i] => some (.fz (.int i))
  | [.bl b] => some (.fz (.int (if b then 1 else 0)))
  | _ => none
def tupleD : List D → Option O
  | [.lst xs] => some (.fz (.tup xs))
  | [.tup xs] => some (.fz (.tup xs))
  | _ => none
def listD : List D → Option O
  | [.lst xs] => some (.lst xs)
  | [.tup xs] => some (.lst xs)
  | [.dct false kvs] => some (.lst (kvs.map (·.1)))
  | _ => none
theorem VwL.one {Γ : Gm} {F H : Hp} {xs : List V} {d : D} (h : VwL Γ F H xs [d]) : ∃ x, xs = [x] ∧ Vw Γ F H x d := by
  cases h with | cons a b => cases b; exact ⟨_, rfl, a⟩
theorem VwL.two {Γ : Gm} {F H : Hp} {xs : List V} {d e : D} (h : VwL Γ F H xs [d, e]) : ∃ x y, xs = [x, y] ∧ Vw Γ F H x d ∧ Vw Γ F H y e := by
  cases h with | cons a b => obtain ⟨y, rfl, q⟩ := b.one; exact ⟨_, _, rfl, a, q⟩
theorem RvK.length {Γ : Gm} {F : Hp} : ∀ {kvs : List (Key × V)} {ds : List (D × D)}, RvK Γ F kvs ds → kvs.length = ds.length
  | _, _, .nil => rfl
  | _, _, .cons _ r => by simp [RvK.length r]
theorem RvT.length {Γ : Gm} {F : Hp} : ∀ {kvs : List (List Key × V)} {ds : List (D × D)}, RvT Γ F kvs ds → kvs.length = ds.length
  | _, _, .nil => rfl
  | _, _, .cons _ r => by simp [RvT.length r]
def rLenU (K : PySem.W.Frag) : List V → Hp → VK → Prop := fun xs H Q => (∃ x n, xs = [x] ∧ LenV K x H n ∧ Q (.int n) H) ∨ ∃ a kvs, xs = [.ref a] ∧ L2.Rd H a (.dK kvs) ∧ Q (.int kvs.length) H
theorem call_lenU {X : Cx} : CallR X (.builtin "len") (rLenU X.K) := by
  intro pins s σ H xs us Q I r h
  rcases h with h | ⟨a, kvs, rfl, e, q⟩
  · exact call_len pins s σ H xs us Q I r h
  · obtain ⟨u, rfl, ru⟩ := vals1 r
    cases ru
    exact d_len I e fun t s' I' => ⟨.int kvs.length, H, I', ⟨_, rfl⟩, q⟩
theorem p_len {Γ : Gm} : PN Γ (rLenU Γ.K) lenD := by
  intro F H xs ds o Q s vx h q
  unfold lenD at h
  split at h
  · cases h
    obtain ⟨x, rfl, v⟩ := vx.one
    obtain ⟨a, vs, rfl, h1, z, r⟩ := v.lst s
    exact .inl ⟨_, _, rfl, .inl ⟨_, SqL.of h1, rfl⟩, by rw [r.length]; exact q.fz s (.int _)⟩
  · cases h
    obtain ⟨x, rfl, v⟩ := vx.one
    obtain ⟨a, vs, rfl, h1, z, r⟩ := v.tup
    exact .inl ⟨_, _, rfl, .inr ⟨_, SqT.of (s _ _ h1), rfl⟩, by rw [r.length]; exact q.fz s (.int _)⟩
  · split at h
    · rename_i hz
      cases h
      obtain ⟨x, rfl, v⟩ := vx.one
      cases v.str
      exact .inl ⟨_, _, rfl, ⟨hz, rfl⟩, q.fz s (.int _)⟩
    · cases h
  · cases h
    obtain ⟨x, rfl, v⟩ := vx.one
    obtain ⟨a, rfl, ⟨_, kv, h1, r⟩ | ⟨e, _⟩⟩ := v.dct s
    · exact .inr ⟨a, kv, rfl, .inl h1, by rw [r.length]; exact q.fz s (.int _)⟩
    · cases e
  · cases h
theorem p_int {Γ : Gm} : PN Γ (fun xs H Q => (∃ i, xs = [.int i] ∧ Q (.int i) H) ∨ ∃ k, xs = [.bl k] ∧ Q (.int (if k then 1 else 0)) H) intD := by
  intro F H xs ds o Q s vx h q
  unfold intD at h
  split at h
  · cases h
    obtain ⟨x, rfl, v⟩ := vx.one
    cases v.int
    exact .inl ⟨_, rfl, q.fz s (.int _)⟩
  · cases h
    obtain ⟨x, rfl, v⟩ := vx.one
    cases v.bl
    exact .inr ⟨_, rfl, q.fz s (.int _)⟩
  · cases h
theorem p_tuple {Γ : Gm} : PN Γ (fun xs H Q => ∃ p ys, xs = [.ref p] ∧ ((SqL Γ.K H p ys ∧ ∀ l, H l = none → Q (.ref l) (upd H l (.tup ys))) ∨ (SqT Γ.K H p ys ∧ Q (.ref p) H))) tupleD := by
  intro F H xs ds o Q s vx h q
  unfold tupleD at h
  split at h
  · cases h
    obtain ⟨x, rfl, v⟩ := vx.one
    obtain ⟨a, vs, rfl, h1, z, r⟩ := v.lst s
    exact ⟨_, _, rfl, .inl ⟨SqL.of h1, fun l hl => q _ _ _ (gr_tup s hl z r)⟩⟩
  · cases h
    obtain ⟨x, rfl, v⟩ := vx.one
    obtain ⟨a, vs, rfl, h1, z, r⟩ := v.tup
    exact ⟨_, _, rfl, .inr ⟨SqT.of (s _ _ h1), q.fz s (.tup h1 z r)⟩⟩
  · cases h
def rLstU (K : PySem.W.Frag) : List V → Hp → VK → Prop := fun xs H Q => (∃ p ys, xs = [.ref p] ∧ (SqL K H p ys ∨ SqT K H p ys) ∧ ∀ l, H l = none → Q (.ref l) (upd H l (.lst ys))) ∨ ((∀ p kvs, xs = [.ref p] → H p = some (.dK kvs) → kvs.length ≤ sizeLine) → rListD xs H Q)
theorem RvK.keyL {Γ : Gm} {F : Hp} : ∀ {kvs : List (Key × V)} {ds : List (D × D)}, RvK Γ F kvs ds → RvL Γ F (kvs.map fun kv => kV kv.1) (ds.map (·.1))
  | _, _, .nil => .nil
  | _, _, .cons (k := k) a b => .cons (by cases k with | inl i => exact .int i | inr x => exact .str x) b.keyL
theorem call_lstU {X : Cx} (hc : X.calm = true) : CallR X (.type "list") (rLstU X.K) := by
  intro pins s σ H xs us Q I r h
  rcases h with h | h
  · exact call_list_of pins s σ H xs us Q I r h
  · exact call_list_dK hc pins s σ H xs us Q I r (h fun p kvs _ e => (dk_rd I.hok (.inl e)).1)
theorem p_list {Γ : Gm} : PN Γ (rLstU Γ.K) listD := by
  intro F H xs ds o Q s vx h q
  unfold listD at h
  split at h
  · cases h
    obtain ⟨x, rfl, v⟩ := vx.one
    obtain ⟨a, vs, rfl, h1, z, r⟩ := v.lst s
    exact .inl ⟨_, _, rfl, .inl (SqL.of h1), fun l hl => q _ _ _ (gr_lst s hl z r)⟩
  · cases h
    obtain ⟨x, rfl, v⟩ := vx.one
    obtain ⟨a, vs, rfl, h1, z, r⟩ := v.tup
    exact .inl ⟨_, _, rfl, .inr (SqT.of (s _ _ h1)), fun l hl => q _ _ _ (gr_lst s hl z r)⟩
  · cases h
    obtain ⟨x, rfl, v⟩ := vx.one
    obtain ⟨a, rfl, ⟨_, kvs, h, r⟩ | ⟨e, _⟩⟩ := v.dct s
    · exact .inr fun z => ⟨a, kvs, rfl, h, fun l hl => q _ _ _ (gr_lst s hl (by rw [List.length_map]; exact z a kvs rfl h) r.keyL)⟩
    · cases e
  · cases h
section
variable {X : Cx} {Γ : Gm} {W : St → XK} {CXv : CXT} {k : Nat} {pos p : Pos} {e : Expr} {fa : SA}
theorem ee_len (c : Ok X Γ W CXv k) (hg : Gl X "len") (hm : X.mg "len" = none) (ha : EA X Γ W [e] fa) (he : starEach [e] X.env = (false, eval e X.env) :: starEach [] X.env := by rfl) : EE X Γ W (.Call (.Name "len" p) [e] [] pos) (primN fa lenD) :=
  ee_callB call_lenU (by rw [c.K]; exact p_len) hg hm PySem.boot_len ha (by decide) (by decide) he rfl
theorem ee_toInt (hg : Gl X "int") (hm : X.mg "int" = none) (ha : EA X Γ W [e] fa) (he : starEach [e] X.env = (false, eval e X.env) :: starEach [] X.env := by rfl) : EE X Γ W (.Call (.Name "int" p) [e] [] pos) (primN fa intD) :=
  ee_callTy call_int1 p_int hg hm (by decide +kernel) ha (by decide) (by decide) he rfl
theorem ee_toTup (c : Ok X Γ W CXv k) (hg : Gl X "tuple") (hm : X.mg "tuple" = none) (ha : EA X Γ W [e] fa) (he : starEach [e] X.env = (false, eval e X.env) :: starEach [] X.env := by rfl) : EE X Γ W (.Call (.Name "tuple" p) [e] [] pos) (primN fa tupleD) :=
  ee_callTy call_tuple_of (by rw [c.K]; exact p_tuple) hg hm (by decide +kernel) ha (by decide) (by decide) he rfl
theorem ee_toLst (c : Ok X Γ W CXv k) (hg : Gl X "list") (hm : X.mg "list" = none) (ha : EA X Γ W [e] fa) (he : starEach [e] X.env = (false, eval e X.env) :: starEach [] X.env := by rfl) : EE X Γ W (.Call (.Name "list" p) [e] [] pos) (primN fa listD) :=
  ee_callTy (call_lstU c.calm) (by rw [c.K]; exact p_list) hg hm (by decide +kernel) ha (by decide) (by decide) he rfl
end
end Ev
-- EvG
set_option Elab.async false
set_option linter.all false
set_option maxRecDepth 100000
set_option maxHeartbeats 2000000
namespace Ev
open PySem PySem.Spec L2 HT ClX
open PyProof.Rows hiding St

section
variable {prog : Program} {w : World} {A : Around} {E : Value → Shared → Prop} {s : Shared}
theorem getItem_tuple_all {t sl : Addr} {items : Array Value} {vl vu : Value} {lo hi : Option Int} {Q : Value → Shared → Prop} (ht : IsTup s.heap t items) (hs : s.heap.IsSliceOf sl vl vu .none) (pl : IsPart vl lo) (pu : IsPart vu hi)
    (hw : sIx items.size 0 lo = 0 ∧ sIx items.size items.size hi = items.size) (h : Q (.ref t) s) : wpAny (model prog w) A (getItem (.ref t) (.ref sl)) Q E s := by
  obtain ⟨os, hos, hcs, hds⟩ := id hs
  have hTs : s.TypeIs (.ref sl) "slice" := ⟨os, hos, hcs⟩
  unfold getItem
  try with_reducible refine wpAny_holding ?_
  first | refine wpAny_bind (wpAny_pure ?_) | skip
  refine wpAny_bind (wpAny_sequenceKey ht.typeIs (by decide) ?_)
  refine wpAny_bind (wpAny_callSpecial?_slot (name := Str.ofString "__getitem__") ht.typeIs PyProof.Rows.slot_tuple_getitem
    (wpAny_call_entry PyProof.Rows.slot_tuple_getitem ht.typeIs entry_tuple_getitem ?_ (args_tuple_getitem _ _)))
  show wpAny _ _ (Builtin.Tuple.tupleItemsOf (.ref t) >>= _) _ _ s
  refine wpAny_bind (tupleItemsOf_ ht ?_)
  refine wpAny_bind (wpAny_typeOf hTs ?_)
  rw [if_pos (by decide)]
  refine wpAny_bind (sliceApplied_gen hs pl pu ?_)
  have hyes : ((((sIx items.size 0 lo : Nat) : Int) == 0 && (1 : Int) == 1 && (sIx items.size items.size hi - sIx items.size 0 lo) == items.size) = true) := by
    rw [hw.1, hw.2]; simp
  show wpAny _ _ (if (((sIx items.size 0 lo : Nat) : Int) == 0 && (1 : Int) == 1 && (sIx items.size items.size hi - sIx items.size 0 lo) == items.size) = true then _ else _) _ _ s
  rw [if_pos hyes]
  show wpAny _ _ (Builtin.Tuple.tupleIsExact (.ref t) >>= _) _ _ s
  unfold Builtin.Tuple.tupleIsExact
  refine wpAny_bind (wpAny_bind (wpAny_typeOf ht.typeIs (wpAny_pure ?_)))
  rw [if_pos (by decide)]
  first
    | exact wpAny_bind (wpAny_rule (wpAny_bind (wpAny_pure (wpAny_pure ⟨_, rfl, wpAny_pure h⟩))))
    | exact wpAny_bind (wpAny_rule (wpAny_pure ⟨_, rfl, wpAny_pure h⟩))
    | exact wpAny_bind (wpAny_rule (wpAny_bind (wpAny_pure ⟨_, rfl, wpAny_pure h⟩)))
end
def rSlTA (K : PySem.W.Frag) : V → Option Int → Option Int → Hp → VK → Prop := fun x lo hi H Q => ∃ a xs, x = .ref a ∧ SqT K H a xs ∧
  (HT.sIx xs.length 0 lo = 0 ∧ HT.sIx xs.length xs.length hi = xs.length) ∧ Q (.ref a) H
theorem sl_tupA {X : Cx} : SlR X (rSlTA X.K) := by
  intro pins s σ H x v vl vu lo hi sl Q I rx hs pl pu h
  obtain ⟨a, xs, rfl, hx, hw, q⟩ := h
  cases rx
  obtain ⟨its, r, ht, hz⟩ := I.tuple hx
  have hlen : its.toArray.size = xs.length := by rw [List.size_toArray]; exact r.length.symm
  refine ⟨"tuple", _, PyProof.Rows.slot_tuple_getitem.lookup, ht.typeIs, ?_⟩
  exact getItem_tuple_all ht hs pl pu (by rw [hlen]; exact hw) ⟨.ref a, H, I, rfl, q⟩

/-! ## slices -/
def cutG {α : Type} (xs : List α) (lo hi : Option Int) : List α := (xs.drop (HT.sIx xs.length 0 lo)).take (HT.sIx xs.length xs.length hi - HT.sIx xs.length 0 lo)
def slD (lo hi : Option Int) : D → Option O
  | .lst xs => some (.lst (cutG xs lo hi))
  | .tup xs => some (.fz (.tup (cutG xs lo hi)))
  | .str z => if fits z.length then some (.fz (.str (cutS z lo hi))) else none
  | _ => none
theorem RvL.cut {Γ : Gm} {F : Hp} {vs : List V} {ds : List D} (r : RvL Γ F vs ds) (lo hi : Option Int) : RvL Γ F (cutV vs lo hi) (cutG ds lo hi) := by
  unfold cutV cutG
  rw [r.length]
  exact (r.drop _).take _
def rSlU (K : PySem.W.Frag) : V → Option Int → Option Int → Hp → VK → Prop := fun x lo hi H Q => rSlL K x lo hi H Q ∨ rSlT K x lo hi H Q ∨ rSlTA K x lo hi H Q ∨ rSlS x lo hi H Q
theorem sl_U {X : Cx} : SlR X (rSlU X.K) := sl_list.or (sl_tup.or (sl_tupA.or sl_str))
theorem p_sl {Γ : Gm} {F H : Hp} {x : V} {d : D} {o : O} {lo hi : Option Int} {Q : VK} (s : Sub F H) (vx : Vw Γ F H x d) (h : slD lo hi d = some o) (q : QR Γ F H o Q) : rSlU Γ.K x lo hi H Q := by
  unfold slD at h
  split at h
  · cases h
    obtain ⟨a, vs, rfl, h1, z, r⟩ := vx.lst s
    exact .inl ⟨a, vs, rfl, SqL.of h1, fun p hp => q _ _ _ (gr_lst s hp (Nat.le_trans (cutV_length _ _ _) z) (r.cut lo hi))⟩
  · cases h
    obtain ⟨a, vs, rfl, h1, z, r⟩ := vx.tup
    by_cases hw : HT.sIx vs.length 0 lo = 0 ∧ HT.sIx vs.length vs.length hi = vs.length
    · refine .inr (.inr (.inl ⟨a, vs, rfl, SqT.of (s _ _ h1), hw, q.fz s ?_⟩))
      rename_i xs
      have e : cutG xs lo hi = xs := by
        unfold cutG
        rw [← r.length, hw.1, hw.2, r.length]
        simp
      rw [e]
      exact .tup h1 z r
    · exact .inr (.inl ⟨a, vs, rfl, SqT.of (s _ _ h1), hw, fun p hp => q _ _ _ (gr_tup s hp (Nat.le_trans (cutV_length _ _ _) z) (r.cut lo hi))⟩)
  · split at h
    · rename_i hz
      cases h
      cases vx.str
      exact .inr (.inr (.inr ⟨_, rfl, hz, q.fz s (.str _)⟩))
    · cases h
  · cases h
abbrev SO := M (Option Int)
def oNone : SO := M.pure none
def oSome (f : SE) : SO := M.bind (opd f) fun r s => match vw s r with
  | some (.int i) => some (.ok (some i) s)
  | _ => none
def PostO (Γ : Gm) (W : St → XK) (F H : Hp) (σ : St) (env : List O) (Q : Option Int → Hp → Prop) : Ot (Option Int) → Prop
  | .ok b env' => ∀ F' H', Wr Γ F' H' σ env' → Stp F H (Own σ env) F' H' (Own σ env') → Q b H'
  | .ex e env' => ∀ cls dd F' H', Wr Γ F' H' σ env' → XR Γ F' H' cls dd e → Stp F H (Own σ env) F' H' (Own σ env') → W σ cls dd H'
def SimO (Γ : Gm) (W : St → XK) (t : TO) (f : SO) : Prop :=
  ∀ (F H : Hp) (σ : St) (env : List O) (res : Ot (Option Int)) (Q : Option Int → Hp → Prop), Wr Γ F H σ env → f env = some res → PostO Γ W F H σ env Q res → t σ H Q
def EO (X : Cx) (Γ : Gm) (W : St → XK) (e : Option Expr) (f : SO) : Prop := ∃ t, PO X e t ∧ SimO Γ W t f
def slS (f : SE) (lo hi : SO) : SE := M.bind (opd f) fun r => M.bind lo fun l => M.bind hi fun u s => ret ((vw s r).bind (slD l u)) s
section
variable {X : Cx} {Γ : Gm} {W : St → XK} {CXv : CXT} {k : Nat} {pos p2 : Pos} {e : Expr} {lo hi : Option Expr} {f : SE} {fl fh : SO}
theorem eo_none : EO X Γ W none oNone := ⟨_, po_none, fun F H σ env res Q w hf post => by cases hf; exact post F H w .refl⟩
theorem sim_oSome {t : TE} (h : SimE Γ W t f) : SimO Γ W (tPart t) (oSome f) := by
  intro F H σ env res Q w hf post
  rcases M.bind_some hf with ⟨e, s', h1, rfl⟩ | ⟨r, s', h1, h2⟩
  · exact h.opd F H σ env _ _ w h1 post
  · refine h.opd F H σ env _ _ w h1 fun v F1 H1 w1 r1 st1 => ?_
    split at h2
    · rename_i i hv
      cases h2
      exact ⟨i, (r1.vw (opd_opn h1) w1 Sub.refl hv).int, post F1 H1 w1 (RR.stp st1)⟩
    · cases h2
theorem eo_some (h : EE X Γ W e f) : EO X Γ W (some e) (oSome f) := ⟨_, po_some h.choose_spec.1, sim_oSome h.choose_spec.2⟩
theorem sim_sl {t : TE} {tl th : TO} (h : SimE Γ W t f) (hl : SimO Γ W tl fl) (hh : SimO Γ W th fh) : SimE Γ W (tSl (rSlU Γ.K) t tl th) (slS f fl fh) := by
  intro F H σ env res Q w hf post
  rcases M.bind_some hf with ⟨e, s', h1, rfl⟩ | ⟨r, s', h1, h2⟩
  · exact h.opd F H σ env _ _ w h1 post
  · refine h.opd F H σ env _ _ w h1 fun v F1 H1 w1 r1 st1 => ?_
    have st1' := RR.stp st1
    rcases M.bind_some h2 with ⟨e, s2, h3, rfl⟩ | ⟨l, s2, h3, h4⟩
    · exact hl F1 H1 σ s' _ _ w1 h3 fun cls dd F' H' w x s => post cls dd F' H' w x (st1'.trans s)
    · refine hl F1 H1 σ s' _ _ w1 h3 fun F2 H2 w2 st2 => ?_
      rcases M.bind_some h4 with ⟨e, s3, h5, rfl⟩ | ⟨u, s3, h5, h6⟩
      · exact hh F2 H2 σ s2 _ _ w2 h5 fun cls dd F' H' w x s => post cls dd F' H' w x ((st1'.trans st2).trans s)
      · refine hh F2 H2 σ s2 _ _ w2 h5 fun F3 H3 w3 st3 => ?_
        obtain ⟨o, ho, hno, rfl⟩ := ret_some h6
        cases hv : vw s3 r with
        | none => rw [hv] at ho; cases ho
        | some d =>
          rw [hv] at ho
          exact p_sl w3.sub (r1.vw (opd_opn h1) w3 (st2.sub.trans st3.sub) hv) ho (QR.post w3 ((st1'.trans st2).trans st3) hno post)
theorem ee_sl (c : Ok X Γ W CXv k) (h : EE X Γ W e f) (hl : EO X Γ W lo fl) (hh : EO X Γ W hi fh) : EE X Γ W (.Subscript e (.Slice lo hi none p2) pos) (slS f fl fh) :=
  ⟨_, pe_slice sl_U h.choose_spec.1 hl.choose_spec.1 hh.choose_spec.1, by rw [c.K]; exact sim_sl h.choose_spec.2 hl.choose_spec.2 hh.choose_spec.2⟩
end

/-! ## fields, class constants, isinstance -/
theorem ofString_inj {a b : String} (h : Str.ofString a = Str.ofString b) : a = b := by
  unfold Str.ofString at h
  rw [cpsOfBytes_string, cpsOfBytes_string] at h
  have h1 : a.toList.map Char.toNat = b.toList.map Char.toNat := by
    have := congrArg (fun z : Str => z.cps.toList) h
    simpa using this
  have inj : ∀ (x y : Char), x.toNat = y.toNat → x = y := fun x y e => by
    apply Char.ext
    apply UInt32.toNat_inj.mp
    exact e
  have h2 : ∀ (x y : List Char), x.map Char.toNat = y.map Char.toNat → x = y := by
    intro x
    induction x with
    | nil => intro y e; cases y with | nil => rfl | cons _ _ => simp at e
    | cons p q ih =>
      intro y e
      cases y with
      | nil => simp at e
      | cons u v =>
        rw [List.map_cons, List.map_cons] at e
        injection e with e1 e2
        rw [inj _ _ e1, ih _ e2]
  have h3 := h2 _ _ h1
  exact String.ext_iff.mpr h3
theorem RvF.find {Γ : Gm} {F : Hp} : ∀ {fvs : List (Str × V)} {fs : List (String × D)}, RvF Γ F fvs fs → ∀ {f : String} {d : D}, fs.lookup f = some d → ∃ v, fvs.lookup (f : Str) = some v ∧ Rv Γ F v d
  | _, _, .nil, f, d, h => by simp at h
  | _, _, .cons (f := g) (v := v) (vs := vs) (d := d') (ds := ds) a r, f, d, h => by
    rw [List.lookup_cons] at h ⊢
    by_cases e : f = g
    · subst e
      simp at h
      subst h
      exact ⟨v, by simp, a⟩
    · have e2 : ¬ (Str.ofString f = Str.ofString g) := fun z => e (ofString_inj z)
      have h1 : (f == g) = false := by simpa using e
      have h2 : (Str.ofString f == Str.ofString g) = false := by simpa using e2
      rw [h1] at h
      rw [h2]
      exact RvF.find r h
theorem RvF.none {Γ : Gm} {F : Hp} : ∀ {fvs : List (Str × V)} {fs : List (String × D)}, RvF Γ F fvs fs → ∀ {f : String}, fs.lookup f = none → fvs.lookup (f : Str) = none
  | _, _, .nil, f, h => rfl
  | _, _, .cons (f := g) (v := v) (vs := vs) (d := d') (ds := ds) a r, f, h => by
    rw [List.lookup_cons] at h ⊢
    by_cases e : f = g
    · subst e; simp at h
    · have e2 : ¬ (Str.ofString f = Str.ofString g) := fun z => e (ofString_inj z)
      have h1 : (f == g) = false := by simpa using e
      have h2 : (Str.ofString f == Str.ofString g) = false := by simpa using e2
      rw [h1] at h
      rw [h2]
      exact RvF.none r h
theorem RvF.length {Γ : Gm} {F : Hp} : ∀ {fvs : List (Str × V)} {fs : List (String × D)}, RvF Γ F fvs fs → fvs.length = fs.length
  | _, _, .nil => rfl
  | _, _, .cons _ r => by simp [RvF.length r]
def fldD (f : String) : D → Option O
  | .ins _ fs => (fs.lookup f).map .fz
  | _ => none
def rFld (K : PySem.W.Frag) (f : Str) : V → Hp → VK → Prop := fun x H1 Q => ∃ a C dx fs v, x = .ref a ∧ H1 a = some (.ins C dx fs) ∧ Cls K C ∧ NoAttr K C f ∧ fs.lookup f = some v ∧ Q v H1
theorem lookup_mem {f : String} {d : D} {fs : List (String × D)} (h : fs.lookup f = some d) : f ∈ fs.map (·.1) := by
  induction fs with
  | nil => simp at h
  | cons p q ih =>
    obtain ⟨g, x⟩ := p
    rw [List.lookup_cons] at h
    by_cases e : f = g
    · subst e; simp
    · have h1 : (f == g) = false := by simpa using e
      rw [h1] at h
      exact List.mem_cons_of_mem _ (ih h)
theorem p_fld {Γ : Gm} (f : String) : P1 Γ (rFld Γ.K f) (fldD f) := by
  intro F H x d o Q s vx h q
  unfold fldD at h
  split at h
  · rename_i c fs
    obtain ⟨d', h1, rfl⟩ := Option.map_eq_some_iff.mp h
    obtain ⟨a, dx, fvs, rfl, hh, r, i⟩ := vx.ins s
    obtain ⟨v, hv, rv⟩ := r.find h1
    exact ⟨a, _, dx, fvs, v, rfl, hh, i.1, i.2 f (lookup_mem h1), hv, q.fz s rv⟩
  · cases h
def isiT : D → Option String
  | .non => some "NoneType"
  | .bl _ => some "bool"
  | .int _ => some "int"
  | .str _ => some "str"
  | .lst _ => some "list"
  | .tup _ => some "tuple"
  | .dct _ _ => some "dict"
  | _ => none
def isiD (n : String) (d : D) : Option O := (isiT d).bind fun t => (kitB t n).bind fun b => oB b
theorem isiT_ty {Γ : Gm} {F H : Hp} {x : V} {d : D} {t : String} (s : Sub F H) (vx : Vw Γ F H x d) (h : isiT d = some t) : TyX Γ.K H x (.type t) := by
  unfold isiT at h
  split at h
  · cases h; cases vx.non; exact .base .non
  · cases h; cases vx.bl; exact .base (.bl _)
  · cases h; cases vx.int; exact .base (.int _)
  · cases h; cases vx.str; exact .base (.str _)
  · cases h; obtain ⟨a, vs, rfl, h1, _, _⟩ := vx.lst s; exact .base (.lst h1)
  · cases h; obtain ⟨a, vs, rfl, h1, _, _⟩ := vx.tup; exact .base (.tup (s _ _ h1))
  · cases h
    obtain ⟨a, rfl, ⟨_, kv, h1, r⟩ | ⟨_, kv, h1, r⟩⟩ := vx.dct s
    · exact .base (.dK h1)
    · exact .base (.dT h1)
  · cases h
section
variable {X : Cx} {Γ : Gm} {W : St → XK} {CXv : CXT} {k : Nat} {pos p p2 : Pos} {e : Expr} {f : SE}
theorem ee_fld (c : Ok X Γ W CXv k) {g : String} (h : EE X Γ W e f) (hb : attributeBase e (g : Str) X.env (eval e X.env) = eval e X.env := by rfl) : EE X Γ W (.Attribute e (g : Str) pos) (prim1 f (fldD g)) :=
  ⟨_, pe_fld h.choose_spec.1 hb, SimE.prim1 (r := rFld X.K (g : Str)) h.choose_spec.2 (by rw [c.K]; exact p_fld g)⟩
/-- a class's constant, an int -/
theorem ee_cval {x g : Str} {C : Addr} {i : Int} {mc : Value} (hg : Gl X x) (hm : X.mg x = some (.ref C)) (r : CRead X.K C mc) (v : ∃ t, CVal X.K C mc g (.int i) (.int i t)) (hd : (x == ("__debug__" : Str)) = false := by decide)
    (hb : attributeBase (.Name x p) g X.env (eval (.Name x p) X.env) = eval (.Name x p) X.env := by rfl) : EE X Γ W (.Attribute (.Name x p) g pos) (cst (.int i)) := by
  obtain ⟨t, v⟩ := v
  refine ⟨_, pe_cval (pe_glob (v := .ref C) hg hm rfl hd) hb, fun F H σ env res Q w hf post => ?_⟩
  cases hf
  exact ⟨C, mc, .int i, _, rfl, r, v, post (.int i) F H w (.int i) .refl⟩
theorem sim_isi {t : TE} {n : String} (h : SimE Γ W t f) : SimE Γ W (tCB (rIsi Γ.K) (tCons t (tCons (tC (.ty n)) tNil))) (prim1 f (isiD n)) := by
  intro F H σ env res Q w hf post
  rcases M.bind_some hf with ⟨e, s', h1, rfl⟩ | ⟨r, s', h1, h2⟩
  · exact h.opd F H σ env _ _ w h1 post
  · refine h.opd F H σ env _ _ w h1 fun v F1 H1 w1 r1 st1 => ?_
    obtain ⟨o, ho, hno, rfl⟩ := ret_some h2
    cases hv : vw s' r with
    | none => rw [hv] at ho; cases ho
    | some d =>
      rw [hv] at ho
      have ho : isiD n d = some o := ho
      unfold isiD at ho
      cases ht : isiT d with
      | none => rw [ht] at ho; cases ho
      | some ty =>
        rw [ht] at ho
        have ho : ((kitB ty n).bind fun b => oB b) = some o := ho
        cases hk : kitB ty n with
        | none => rw [hk] at ho; cases ho
        | some b =>
          rw [hk] at ho
          cases ho
          exact ⟨v, .ty n, _, _, b, rfl, .ty n, isiT_ty w1.sub (r1.vw (opd_opn h1) w1 Sub.refl hv) ht, kit_ty hk, (QR.post w1 (RR.stp st1) hno post).fz w1.sub (.bl b)⟩
theorem ee_isi (c : Ok X Γ W CXv k) {x : Str} {n : String} (hg : Gl X "isinstance") (hm : X.mg "isinstance" = none) (hg2 : Gl X x) (hm2 : X.mg x = none) (hv2 : bootBuiltins x = some (.type n)) (h : EE X Γ W e f)
    (hn2 : x ≠ "__name__" := by decide) (hd2 : (x == ("__debug__" : Str)) = false := by decide)
    (he : starEach [e, .Name x p2] X.env = (false, eval e X.env) :: starEach [.Name x p2] X.env := by rfl) (he2 : starEach [.Name x p2] X.env = (false, eval (.Name x p2) X.env) :: starEach [] X.env := by rfl)
    (hpl : (backTo pos (starEach [.Name x p2] X.env)).any (·.1) = false := by rfl) :
    EE X Γ W (.Call (.Name "isinstance" p) [e, .Name x p2] [] pos) (prim1 f (isiD n)) :=
  ⟨_, pe_callB call_isi hg hm (by decide +kernel) (pa_cons h.choose_spec.1 (pa_cons (pe_bltn (v := .ty n) hg2 hm2 hv2 rfl hn2 hd2) pa_nil he2) he) (by decide) (by decide) he hpl, by rw [c.K]; exact sim_isi h.choose_spec.2⟩
end
end Ev
-- EvH
set_option Elab.async false
set_option linter.all false
set_option maxRecDepth 100000
set_option maxHeartbeats 2000000
namespace Ev
open PySem PySem.Spec L2 HT ClX
open PyProof.Rows hiding St

/-! ## statements -/
inductive Fl where
  | nx | rt (r : Rs) | bk | ct
abbrev SS := M Fl
/-- these slots are as they were -/
def Fx (fx : List Nat) (σ σ' : St) : Prop := ∀ i ∈ fx, σ'[i]? = σ[i]?
theorem Fx.refl {fx : List Nat} {σ : St} : Fx fx σ σ := fun _ _ => rfl
theorem Fx.trans {fx : List Nat} {σ σ1 σ2 : St} (a : Fx fx σ σ1) (b : Fx fx σ1 σ2) : Fx fx σ σ2 := fun i h => (b i h).trans (a i h)
def Rs.noB : Rs → Bool
  | .bor _ => false
  | _ => true
def PostS (Γ : Gm) (W : St → XK) (fx : List Nat) (F H : Hp) (σ : St) (env : List O) (D : Ends) : Ot Fl → Prop
  | .ok .nx env' => ∀ σ' F' H', Wr Γ F' H' σ' env' → Stp F H (Own σ env) F' H' (Own σ' env') → Fx fx σ σ' → D.nx σ' H'
  | .ok .bk env' => ∀ σ' F' H', Wr Γ F' H' σ' env' → Stp F H (Own σ env) F' H' (Own σ' env') → Fx fx σ σ' → D.bk σ' H'
  | .ok .ct env' => ∀ σ' F' H', Wr Γ F' H' σ' env' → Stp F H (Own σ env) F' H' (Own σ' env') → Fx fx σ σ' → D.ct σ' H'
  | .ok (.rt r) env' => ∀ v σ' F' H', Wr Γ F' H' σ' env' → RR Γ F' H' σ' env' v r → r.noB = true → Stp F H (Own σ env) F' H' (OwnR σ' env' v r) → Fx fx σ σ' → D.rt v H'
  | .ex e env' => ∀ cls dd σ' F' H', Wr Γ F' H' σ' env' → XR Γ F' H' cls dd e → Stp F H (Own σ env) F' H' (Own σ' env') → Fx fx σ σ' → W σ' cls dd H'
def SimS (Γ : Gm) (W : St → XK) (fx : List Nat) (t : TS) (f : SS) : Prop :=
  ∀ (F H : Hp) (σ : St) (env : List O) (res : Ot Fl) (D : Ends), Wr Γ F H σ env → f env = some res → PostS Γ W fx F H σ env D res → t D σ H
def ES (X : Cx) (Γ : Gm) (W : St → XK) (fx : List Nat) (st : Stmt) (f : SS) : Prop := ∃ t, PS X st t ∧ SimS Γ W fx t f
def ESs (X : Cx) (Γ : Gm) (W : St → XK) (fx : List Nat) (st : List Stmt) (f : SS) : Prop := ∃ t, PSs X st t ∧ SimS Γ W fx t f
theorem PostS.trans {Γ : Gm} {W : St → XK} {fx : List Nat} {F H F1 H1 : Hp} {σ σ1 : St} {env env1 : List O} {D : Ends} {r : Ot Fl} (st : Stp F H (Own σ env) F1 H1 (Own σ1 env1)) (x : Fx fx σ σ1) (p : PostS Γ W fx F H σ env D r) : PostS Γ W fx F1 H1 σ1 env1 D r := by
  cases r with
  | ok b s =>
    cases b with
    | nx => exact fun σ' F' H' w s' y => p σ' F' H' w (st.trans s') (x.trans y)
    | bk => exact fun σ' F' H' w s' y => p σ' F' H' w (st.trans s') (x.trans y)
    | ct => exact fun σ' F' H' w s' y => p σ' F' H' w (st.trans s') (x.trans y)
    | rt r => exact fun v σ' F' H' w rr nb s' y => p v σ' F' H' w rr nb (st.trans s') (x.trans y)
  | ex e s => exact fun cls dd σ' F' H' w x' s' y => p cls dd σ' F' H' w x' (st.trans s') (x.trans y)
/-- an expression's raise, in a statement -/
theorem PostS.exE {Γ : Gm} {W : St → XK} {fx : List Nat} {F H : Hp} {σ : St} {env : List O} {D : Ends} {Q : VK} {e : Ex} {s : List O} (p : PostS Γ W fx F H σ env D (.ex e s)) : PostE Γ W F H σ env Q (.ex e s) :=
  fun cls dd F' H' w x st => p cls dd σ F' H' w x st .refl
theorem PostS.exT {Γ : Gm} {W : St → XK} {fx : List Nat} {F H : Hp} {σ : St} {env : List O} {D : Ends} {Q : Bool → Hp → Prop} {e : Ex} {s : List O} (p : PostS Γ W fx F H σ env D (.ex e s)) : PostT Γ W F H σ env Q (.ex e s) :=
  fun cls dd F' H' w x st => p cls dd σ F' H' w x st .refl

def nilS : SS := M.pure .nx
def seqS (f g : SS) : SS := M.bind f fun fl => match fl with
  | .nx => g
  | x => M.pure x
def brkS : SS := M.pure .bk
def cntS : SS := M.pure .ct
def exprS (f : SE) : SS := M.bind f fun _ => M.pure .nx
def retS (f : SE) : SS := M.bind f fun r s => if r.noB = true then some (.ok (.rt r) s) else none
def ifS (c : ST) (f g : SS) : SS := M.bind c fun b => if b = true then f else g
/-- what a slot holds of a result -/
def Rs.o : Rs → Option O
  | .fz d => some (.fz d)
  | .ow o => some o
  | .bor _ => none
def setS (i : Nat) (f : SE) : SS := M.bind f fun r s => match r.o with
  | some o => some (.ok .nx (s.set i o))
  | none => none

section
variable {Γ : Gm} {W : St → XK} {fx : List Nat} {f g : SS} {fe : SE} {ft : ST}
theorem sim_nil : SimS Γ W fx tNext nilS := fun F H σ env res D w hf post => by cases hf; exact post σ F H w .refl .refl
theorem sim_seq {t u : TS} (h : SimS Γ W fx t f) (h' : SimS Γ W fx u g) : SimS Γ W fx (tSeq t u) (seqS f g) := by
  intro F H σ env res D w hf post
  rcases M.bind_some hf with ⟨e, s', h1, rfl⟩ | ⟨fl, s', h1, h2⟩
  · exact h F H σ env _ _ w h1 post
  · cases fl with
    | nx => exact h F H σ env _ _ w h1 fun σ' F' H' w' st x => h' F' H' σ' s' _ _ w' h2 (post.trans st x)
    | bk => cases h2; exact h F H σ env _ _ w h1 post
    | ct => cases h2; exact h F H σ env _ _ w h1 post
    | rt r => cases h2; exact h F H σ env _ _ w h1 post
theorem sim_brk : SimS Γ W fx tBreak brkS := fun F H σ env res D w hf post => by cases hf; exact post σ F H w .refl .refl
theorem sim_cnt : SimS Γ W fx tCont cntS := fun F H σ env res D w hf post => by cases hf; exact post σ F H w .refl .refl
theorem sim_expr {t : TE} (h : SimE Γ W t fe) : SimS Γ W fx (tDrop t) (exprS fe) := by
  intro F H σ env res D w hf post
  rcases M.bind_some hf with ⟨e, s', h1, rfl⟩ | ⟨r, s', h1, h2⟩
  · exact h F H σ env _ _ w h1 post.exE
  · cases h2
    exact h F H σ env _ _ w h1 fun v F' H' w' r' st => post σ F' H' w' (RR.stp st) .refl
theorem sim_ret {t : TE} (h : SimE Γ W t fe) : SimS Γ W fx (tRet t) (retS fe) := by
  intro F H σ env res D w hf post
  rcases M.bind_some hf with ⟨e, s', h1, rfl⟩ | ⟨r, s', h1, h2⟩
  · exact h F H σ env _ _ w h1 post.exE
  · split at h2
    · rename_i nb
      cases h2
      exact h F H σ env _ _ w h1 fun v F' H' w' r' st => post v σ F' H' w' r' nb st .refl
    · cases h2
theorem sim_retN : SimS Γ W fx tRetN (retS (cst .non)) := by
  intro F H σ env res D w hf post
  cases hf
  exact post .non σ F H w .non rfl .refl .refl
theorem sim_if {c : TT} {t u : TS} (hc : SimT Γ W c ft) (h : SimS Γ W fx t f) (h' : SimS Γ W fx u g) : SimS Γ W fx (tIfS c t u) (ifS ft f g) := by
  intro F H σ env res D w hf post
  rcases M.bind_some hf with ⟨e, s', h1, rfl⟩ | ⟨b, s', h1, h2⟩
  · exact hc F H σ env _ _ w h1 post.exT
  · refine hc F H σ env _ _ w h1 fun F1 H1 w1 st1 => ?_
    cases b with
    | true => exact h F1 H1 σ s' _ _ w1 h2 (post.trans st1 .refl)
    | false => exact h' F1 H1 σ s' _ _ w1 h2 (post.trans st1 .refl)
/-- a slot gets a new value -/
theorem Wr.asg {F H : Hp} {σ : St} {env : List O} {v : V} {r : Rs} {o : O} (w : Wr Γ F H σ env) (rr : RR Γ F H σ env v r) (ho : r.o = some o) (i : Nat) :
    Wr Γ F H (σ.set i (some v)) (env.set i o) ∧ ∀ a, Own (σ.set i (some v)) (env.set i o) a → OwnR σ env v r a := by
  have rel : OR Γ F H (some v) o := by
    cases r with
    | fz d => cases ho; exact .fz rr
    | ow o' => cases ho; exact rr.1
    | bor j => cases ho
  have fr : o.own = true → ∀ a, v = .ref a → ¬ Own σ env a := by
    cases r with
    | fz d => cases ho; intro e; cases e
    | ow o' => cases ho; exact fun _ => rr.2.2
    | bor j => cases ho
  have at_ne : ∀ {j : Nat} {a : Addr}, OwnAt (σ.set i (some v)) (env.set i o) j a → j ≠ i → OwnAt σ env j a := fun {j a} h n => by
    obtain ⟨h1, o', h2, h3⟩ := h
    rw [List.getElem?_set_ne (Ne.symm n)] at h1 h2
    exact ⟨h1, o', h2, h3⟩
  have at_self : ∀ {a : Addr}, OwnAt (σ.set i (some v)) (env.set i o) i a → o.own = true ∧ v = .ref a := fun {a} h => by
    obtain ⟨h1, o', h2, h3⟩ := h
    have hl : i < env.length := by
      have := (List.getElem?_eq_some_iff.mp h2).1
      simpa using this
    rw [List.getElem?_set_self (by rw [w.len]; exact hl)] at h1
    rw [List.getElem?_set_self hl] at h2
    cases h2
    exact ⟨h3, Option.some.inj (Option.some.inj h1)⟩
  refine ⟨⟨w.sub, by simp [w.len], fun j u o' h1 h2 => ?_, fun j l a h1 h2 => ?_⟩, fun a ⟨j, hj⟩ => ?_⟩
  · by_cases e : j = i
    · subst e
      have hl : j < env.length := by
        have := (List.getElem?_eq_some_iff.mp h2).1
        simpa using this
      rw [List.getElem?_set_self (by rw [w.len]; exact hl)] at h1
      rw [List.getElem?_set_self hl] at h2
      cases h1; cases h2; exact rel
    · rw [List.getElem?_set_ne (Ne.symm e)] at h1 h2
      exact w.rel j u o' h1 h2
  · by_cases e1 : j = i
    · by_cases e2 : l = i
      · rw [e1, e2]
      · subst e1
        obtain ⟨q1, q2⟩ := at_self h1
        exact absurd ⟨l, at_ne h2 e2⟩ (fr q1 a q2)
    · by_cases e2 : l = i
      · subst e2
        obtain ⟨q1, q2⟩ := at_self h2
        exact absurd ⟨j, at_ne h1 e1⟩ (fr q1 a q2)
      · exact w.dis j l a (at_ne h1 e1) (at_ne h2 e2)
  · by_cases e : j = i
    · subst e
      obtain ⟨q1, q2⟩ := at_self hj
      cases r with
      | fz d => cases ho; cases q1
      | ow o' => exact .inr q2
      | bor j => cases ho
    · have q : Own σ env a := ⟨j, at_ne hj e⟩
      cases r with
      | fz d => exact q
      | ow o' => exact .inl q
      | bor j => exact q
theorem sim_set {t : TE} {i : Nat} (h : SimE Γ W t fe) (hi : i ∉ fx) : SimS Γ W fx (tAsg t (gName i)) (setS i fe) := by
  intro F H σ env res D w hf post
  rcases M.bind_some hf with ⟨e, s', h1, rfl⟩ | ⟨r, s', h1, h2⟩
  · exact h F H σ env _ _ w h1 post.exE
  · refine h F H σ env _ _ w h1 fun v F' H' w' r' st => ?_
    cases ho : r.o with
    | none => simp only [ho] at h2; cases h2
    | some o =>
      simp only [ho] at h2
      cases h2
      obtain ⟨w2, ow⟩ := w'.asg r' ho i
      exact post _ F' H' w2 (st.weak fun x hx => .inl (ow x hx)) fun j hj => List.getElem?_set_ne (fun e : i = j => hi (by rw [e]; exact hj))
end
section
variable {X : Cx} {Γ : Gm} {W : St → XK} {fx : List Nat} {CXv : CXT} {k : Nat} {pos : Pos} {e : Expr} {st : Stmt} {sts a b : List Stmt} {f g : SS} {fe : SE} {ft : ST}
theorem ess_nil : ESs X Γ W fx [] nilS := ⟨_, pss_nil, sim_nil⟩
theorem ess_cons (h : ES X Γ W fx st f) (h' : ESs X Γ W fx sts g) : ESs X Γ W fx (st :: sts) (seqS f g) := ⟨_, pss_cons h.choose_spec.1 h'.choose_spec.1, sim_seq h.choose_spec.2 h'.choose_spec.2⟩
theorem ess_one (h : ES X Γ W fx st f) : ESs X Γ W fx [st] f := ⟨_, pss_one h.choose_spec.1, h.choose_spec.2⟩
theorem es_pass : ES X Γ W fx (.Pass pos) nilS := ⟨_, ps_pass, sim_nil⟩
theorem es_doc {x : Str} {j : Nat} {pos' : Pos} : ES X Γ W fx (.Expr (.Constant (.str x) j pos) pos') nilS := ⟨_, ps_doc, sim_nil⟩
theorem es_brk : ES X Γ W fx (.Break pos) brkS := ⟨_, ps_break, sim_brk⟩
theorem es_cnt : ES X Γ W fx (.Continue pos) cntS := ⟨_, ps_continue, sim_cnt⟩
theorem es_expr (h : EE X Γ W e fe) (hs : swapsWith e none pos.line X.env = pure false := by rfl) : ES X Γ W fx (.Expr e pos) (exprS fe) := ⟨_, ps_expr h.choose_spec.1 hs, sim_expr h.choose_spec.2⟩
theorem es_ret (h : EE X Γ W e fe) : ES X Γ W fx (.Return (some e) pos) (retS fe) := ⟨_, ps_ret h.choose_spec.1, sim_ret h.choose_spec.2⟩
theorem es_retN : ES X Γ W fx (.Return none pos) (retS (cst .non)) := ⟨_, ps_retN, sim_retN⟩
theorem es_if {c : Expr} (hc : ET X Γ W c ft) (ha : ESs X Γ W fx a f) (hb : ESs X Γ W fx b g) : ES X Γ W fx (.If c a b pos) (ifS ft f g) :=
  ⟨_, ps_if hc.choose_spec.1 ha.choose_spec.1 hb.choose_spec.1, sim_if hc.choose_spec.2 ha.choose_spec.2 hb.choose_spec.2⟩
/-- a statement that the run never comes to -/
theorem es_never : ES X Γ W fx st (fun _ => none) := ⟨_, ps_never, fun F H σ env res D w hf => by cases hf⟩
theorem es_set (c : Ok X Γ W CXv k) (i : Nat) {x : Str} {pos' : Pos} (h : EE X Γ W e fe) (hi : X.N[i]? = some x := by rfl) (hx : Loc X.env.scope x := by first | exact Or.inl rfl | exact Or.inr rfl) (hfx : i ∉ fx := by decide)
    (hs : swapsWith e (some (.Name x pos')) pos.line X.env = pure false := by rfl) (hf : X.fn x = true ∨ X.env.scope.names.lookup x = some .local := by first | exact .inl rfl | exact .inr rfl) : ES X Γ W fx (.Assign [.Name x pos'] e pos) (setS i fe) :=
  ⟨_, ps_set c.nd hi hx h.choose_spec.1 hs hf, sim_set h.choose_spec.2 hfx⟩
end

/-! ## while -/
def whileN (c : ST) (b : SS) : Nat → SS
  | 0 => fun _ => none
  | n + 1 => M.bind c fun t => if t = true then M.bind b fun fl => match fl with
      | .nx => whileN c b n
      | .ct => whileN c b n
      | .bk => M.pure .nx
      | .rt r => M.pure (.rt r)
    else M.pure .nx
open Classical in
noncomputable def whileS (c : ST) (b : SS) : SS := fun s => if h : ∃ n, (whileN c b n s).isSome = true then whileN c b h.choose s else none
theorem M.bind_eq {α β : Type} (m : M α) (f : α → M β) (s : List O) : M.bind m f s = match m s with
  | none => none
  | some (.ex e s') => some (.ex e s')
  | some (.ok a s') => f a s' := rfl
theorem whileN_mono {c : ST} {b : SS} : ∀ {n : Nat} {s : List O} {r : Ot Fl}, whileN c b n s = some r → ∀ m, n ≤ m → whileN c b m s = some r
  | 0, s, r, h, m, _ => by cases h
  | n + 1, s, r, h, m, hm => by
    obtain ⟨m', rfl⟩ : ∃ m', m = m' + 1 := ⟨m - 1, by omega⟩
    rcases M.bind_some h with ⟨e, s', h1, rfl⟩ | ⟨t, s', h1, h2⟩
    · unfold whileN; rw [M.bind_eq, h1]
    · unfold whileN; rw [M.bind_eq, h1]
      cases t with
      | false => exact h2
      | true =>
        simp only [if_true] at h2 ⊢
        rcases M.bind_some h2 with ⟨e, s2, h3, rfl⟩ | ⟨fl, s2, h3, h4⟩
        · rw [M.bind_eq, h3]
        · rw [M.bind_eq, h3]
          cases fl with
          | nx => exact whileN_mono h4 m' (by omega)
          | ct => exact whileN_mono h4 m' (by omega)
          | bk => exact h4
          | rt r => exact h4
theorem whileS_of {c : ST} {b : SS} {n : Nat} {s : List O} {r : Ot Fl} (h : whileN c b n s = some r) : whileS c b s = some r := by
  have ex : ∃ n, (whileN c b n s).isSome = true := ⟨n, by rw [h]; rfl⟩
  unfold whileS
  rw [dif_pos ex]
  obtain ⟨r', hr⟩ := Option.isSome_iff_exists.mp ex.choose_spec
  rw [hr]
  have h1 := whileN_mono hr (max n ex.choose) (by omega)
  have h2 := whileN_mono h (max n ex.choose) (by omega)
  rw [← h1, h2]
theorem whileS_some {c : ST} {b : SS} {s : List O} {r : Ot Fl} (h : whileS c b s = some r) : ∃ n, whileN c b n s = some r := by
  unfold whileS at h
  split at h
  · exact ⟨_, h⟩
  · cases h
theorem sim_while {Γ : Gm} {W : St → XK} {fx : List Nat} {c : TT} {tb : TS} {ft : ST} {fb : SS} (hc : SimT Γ W c ft) (hb : SimS Γ W fx tb fb) : SimS Γ W fx (tWhile c tb) (whileS ft fb) := by
  intro F H σ env res D w hf post
  obtain ⟨n, hn⟩ := whileS_some hf
  refine ⟨fun m σ' H' => ∃ F' env', Wr Γ F' H' σ' env' ∧ whileN ft fb m env' = some res ∧ Stp F H (Own σ env) F' H' (Own σ' env') ∧ Fx fx σ σ', ⟨n, F, env, w, hn, .refl, .refl⟩, ?_⟩
  rintro m σ1 H1 ⟨F1, env1, w1, h1, st1, x1⟩
  cases m with
  | zero => cases h1
  | succ m =>
    rcases M.bind_some h1 with ⟨e, s', h2, rfl⟩ | ⟨t, s', h2, h3⟩
    · exact hc F1 H1 σ1 env1 _ _ w1 h2 ((post.trans st1 x1).exT)
    · refine hc F1 H1 σ1 env1 _ _ w1 h2 fun F2 H2 w2 st2 => ?_
      cases t with
      | false =>
        cases h3
        exact post σ1 F2 H2 w2 (st1.trans st2) x1
      | true =>
        simp only [if_true] at h3 ⊢
        refine ⟨fun σ' H' => ∃ F' env', Wr Γ F' H' σ' env' ∧ whileN ft fb m env' = some res ∧ Stp F H (Own σ env) F' H' (Own σ' env') ∧ Fx fx σ σ', fun σ' H' h => ⟨m, by omega, h⟩, ?_⟩
        rcases M.bind_some h3 with ⟨e, s2, h4, rfl⟩ | ⟨fl, s2, h4, h5⟩
        · exact hb F2 H2 σ1 s' _ _ w2 h4 (PostS.trans (D := D) (st1.trans st2) x1 post)
        · cases fl with
          | nx => exact hb F2 H2 σ1 s' _ _ w2 h4 fun σ' F' H' w' s x => ⟨F', s2, w', h5, (st1.trans st2).trans s, x1.trans x⟩
          | ct => exact hb F2 H2 σ1 s' _ _ w2 h4 fun σ' F' H' w' s x => ⟨F', s2, w', h5, (st1.trans st2).trans s, x1.trans x⟩
          | bk => cases h5; exact hb F2 H2 σ1 s' _ _ w2 h4 fun σ' F' H' w' s x => post σ' F' H' w' ((st1.trans st2).trans s) (x1.trans x)
          | rt r => cases h5; exact hb F2 H2 σ1 s' _ _ w2 h4 fun v σ' F' H' w' rr nb s x => post v σ' F' H' w' rr nb ((st1.trans st2).trans s) (x1.trans x)
theorem es_while {X : Cx} {Γ : Gm} {W : St → XK} {fx : List Nat} {CXv : CXT} {k : Nat} {pos : Pos} {e : Expr} {sts : List Stmt} {ft : ST} {fb : SS} (c : Ok X Γ W CXv k) (hc : ET X Γ W e ft) (hb : ESs X Γ W fx sts fb) : ES X Γ W fx (.While e sts [] pos) (whileS ft fb) :=
  ⟨_, ps_while c.po hc.choose_spec.1 hb.choose_spec.1, sim_while hc.choose_spec.2 hb.choose_spec.2⟩
end Ev
-- EvI0
set_option Elab.async false
set_option linter.all false
set_option maxRecDepth 100000
set_option maxHeartbeats 2000000
namespace PySem
open Sem (wp)
open AutoSeq1 (wpAny_loadPart')
theorem meets_enumerate_newTp (l : Addr) (items : Array Value) (n : Nat) (dct : Option Addr) (sl : Array (Option Value)) :
    Meets (Builtin.«enumerate.__new__» ⟨[.type "enumerate", .ref l], []⟩) (fun _ R s => s.heap.get? l = some { cls := .type "tuple", dict := dct, data := .seq items n, slots := sl } ∧
      R (.ok (.ret (.ref (s.heap.push { cls := .type "tuple_iterator", data := .fields #[.ref l, .int 0 0] }).objs.size)))
        { s with heap := (s.heap.push { cls := .type "tuple_iterator", data := .fields #[.ref l, .int 0 0] }).push { cls := .type "enumerate", data := .fields #[.none, .bool false, .ref s.heap.objs.size, rawInt 0, .none, .none] } }) :=
  .of_wp fun prog w A R s h => by
    obtain ⟨hp, g, d, tk, os⟩ := s; obtain ⟨hl, h⟩ := h
    have hsub := sub_enumerate
    have hL : Heap.IsTuple (Shared.heap ⟨hp, g, d, tk, os⟩) l items := ⟨_, hl, rfl, n, rfl⟩
    wp_walk using wpAny_loadPart' hl
    refine wpAny_stack_any fun st => wpAny_pure ?_
    split
    · rename_i c _ _ _ _ _
      cases (c == Value.type "enumerate")
      · wp_walk using wpAny_loadPart' hl, wpAny_pyIter_tuple hL
        exact ⟨_, rfl, h⟩
      · wp_walk using wpAny_loadPart' hl, wpAny_pyIter_tuple hL
        exact ⟨_, rfl, h⟩
    · wp_walk using wpAny_loadPart' hl, wpAny_pyIter_tuple hL
      exact ⟨_, rfl, h⟩
section
variable {prog : Program} {w : World} {A : Around} {E : Value → Shared → Prop} {s : Shared}
theorem call_enumerate_tup {l : Addr} {items : Array Value} {Q : Value → Shared → Prop} (hL : s.heap.IsTuple l items)
    (h : ∀ h', IsEnum h' (s.heap.objs.size + 1) s.heap.objs.size 0 .none → h'.IsTupleIter s.heap.objs.size l 0 → h'.objs.size = s.heap.objs.size + 2 →
      (∀ b o, s.heap.get? b = some o → h'.get? b = some o) → Q (.ref (s.heap.objs.size + 1)) { s with heap := h' }) :
    wpAny (model prog w) A (call (.type "enumerate") [.ref l]) Q E s := by
  obtain ⟨⟨c, dct, dt, sl⟩, hl, hc, n, hd⟩ := hL
  replace hc : c = .type "tuple" := hc
  replace hd : dt = .seq items n := hd
  subst hc hd
  refine callType_new F.called_enumerate (by decide) (F.typeCall_enumerate_1 _) (F.newCall_enumerate_1 _) (fun obj => F.args_object_init_2 obj _) F.entry_enumerate_new
    (meets_enumerate_newTp l items n dct sl) ⟨hl, ?_⟩
  have hz : (s.heap.push { cls := .type "tuple_iterator", data := .fields #[.ref l, .int 0 0] }).objs.size = s.heap.objs.size + 1 := Heap.size_push ..
  show _ ∧ _
  rw [hz]
  have he : IsEnum ((s.heap.push { cls := .type "tuple_iterator", data := .fields #[.ref l, .int 0 0] }).push
      { cls := .type "enumerate", data := .fields #[.none, .bool false, .ref s.heap.objs.size, rawInt 0, .none, .none] }) (s.heap.objs.size + 1) s.heap.objs.size 0 .none := by
    have := Heap.get?_push_size (s.heap.push { cls := .type "tuple_iterator", data := .fields #[.ref l, .int 0 0] })
      (o := { cls := .type "enumerate", data := .fields #[.none, .bool false, .ref s.heap.objs.size, rawInt 0, .none, .none] }) rfl
    rw [hz] at this; exact this
  refine ⟨⟨_, he, rfl⟩, h _ he ⟨_, Heap.get?_push_of_some _ (Heap.get?_push_size _ rfl), rfl, rfl⟩ (by rw [Heap.size_push, hz]) fun b o x => Heap.get?_push_of_some _ (Heap.get?_push_of_some _ x)⟩
end
end PySem
namespace L2
open PySem PySem.Spec PyProof.Rows
/-- the tuple at a, each item in a new pair -/
def IteT (K : PySem.W.Frag) (a : Addr) : It :=
  ⟨fun i H => ∃ (xs : List V) (x : V), SqT K H a xs ∧ xs[i]? = some x, fun i H v H' => ∃ T x, v = .ref T ∧ H T = none ∧ H' = upd H T (.tup [.int (i : Nat), x]) ∧ ∀ xs, SqT K H a xs → xs[i]? = some x, fun i H => ∃ xs : List V, SqT K H a xs ∧ xs.length ≤ i⟩
theorem turn_enumT {P : Program} {w : World} {K : PySem.W.Frag} {elts : List Expr} {kk : Nat} {tpos : Pos} (a e it : Addr) :
    Turn P w K (.Tuple elts kk tpos) (IteT K a) [e, it] e (fun i h => (∃ old, IsEnum h e it ((i : Nat) : Int) old) ∧ h.IsTupleIter it a i ∧ e ≠ it) where
  mem := by simp
  obj := fun i h st b hb => by
    obtain ⟨⟨old, he⟩, ⟨o, ho, hc, hd⟩, _⟩ := st
    have e' : b = e ∨ b = it := by simpa using hb
    rcases e' with z | z
    · rw [z]; exact ⟨_, he, fun v q => nomatch q⟩
    · rw [z]; exact ⟨o, ho, fun v q => by rw [hd] at q; cases q⟩
  keep := fun i h h' st k => let ⟨⟨old, he⟩, hi, hne⟩ := st; ⟨⟨old, k e (by simp) _ he⟩, hi.at fun o q => k it (by simp) o q, hne⟩
  item := by
    intro X hP hw hK hc i pins s σ H E I hf st hg
    subst hP hw hK
    obtain ⟨⟨old, he⟩, hit, hne⟩ := st
    obtain ⟨xs, x, hq, hx⟩ := hg
    obtain ⟨its, rv, p, hz⟩ := I.tuple hq
    have p : s.heap.IsTuple a its.toArray := p
    have hel : e < s.heap.objs.size := Heap.lt_size he
    have hil : it < s.heap.objs.size := by obtain ⟨_, q, _⟩ := hit; exact Heap.lt_size q
    have hne_a : a ≠ it := fun z => by
      subst z
      obtain ⟨o1, q1, c1, _⟩ := hit
      obtain ⟨o2, q2, c2, _⟩ := p
      rw [q1] at q2; cases q2; rw [c1] at c2; exact absurd (Value.type.inj c2) (by decide)
    have hae : a ≠ e := fun z => by
      subst z
      obtain ⟨o2, q2, c2, _⟩ := p
      have q1 : s.heap.get? a = _ := he
      rw [q1] at q2; cases q2; exact absurd (Value.type.inj c2) (by decide)
    have hi : i < its.toArray.size := by
      have := (List.getElem?_eq_some_iff.mp hx).1
      have := rv.length
      simp; omega
    refine wpAny_pyNext_enum_itemD (Draws.tuple (A := X.A.in1) (by have := I.ok.hd hc; exact this) it a hne_a its.toArray) he ⟨hit, p⟩ hi hne (by simp [Ne.symm hae, hne]) fun u h' tk hu ho hst' hT hsz hk => ?_
    obtain ⟨hit', p'⟩ := hst'
    have ru : RelV x u := by
      obtain ⟨u', hu', ru'⟩ := rv.get hx
      have : its.toArray[i]? = some u' := by simpa using hu'
      rw [this] at hu; cases hu; exact ru'
    refine ⟨_, rfl, wpAny_letOwnedTupleGo_enum (s := { s with heap := h', toks := tk + 1 }) ho fun h'' he' sb => ?_⟩
    have hT2 : h''.get? s.heap.objs.size = some { cls := .type "tuple", data := .seq #[.int i tk, u] } := (sb.2 _ (Nat.ne_of_gt hel)).trans hT
    have new : ObjOk X.prog X.w (upd H s.heap.objs.size (.tup [.int (i : Nat), x])) h'' s.heap.objs.size (.tup [.int (i : Nat), x]) :=
      ⟨by show 2 ≤ sizeLine; decide, [.int i tk, u], .cons ⟨_, rfl⟩ (.cons ru .nil), ⟨_, hT2, rfl, _, rfl⟩⟩
    have I1 : Inv X pins σ (upd H s.heap.objs.size (.tup [.int (i : Nat), x])) { s with heap := h'', toks := tk + 1 } :=
      I.turnedNew (ch := [e, it]) (fun b ob hb q => (sb.2 b (fun z => hb (by simp [z]))).trans (hk b ob (fun z => hb (by simp [z])) (fun z => hb (by simp [z])) q)) hf (Nat.le_refl _) new
    refine ⟨.ref s.heap.objs.size, _, I1, rfl, ⟨_, x, rfl, I.hok.fresh (Nat.le_refl _), rfl, fun ys hy => by rw [I.tuple_inj hy hq]; exact hx⟩, ⟨⟨u, ?_⟩, hit'.at fun o q => (sb.2 it (Ne.symm hne)).trans q, hne⟩, fun b hb => ?_⟩
    · have e1 : ((i + 1 : Nat) : Int) = (i : Int) + 1 := by omega
      rw [e1]; exact he'
    · have hb' : b < s.heap.objs.size := by
        have e' : b = e ∨ b = it := by simpa using hb
        rcases e' with z | z
        · rw [z]; exact hel
        · rw [z]; exact hil
      rw [upd_ne (Nat.ne_of_lt hb')]
      exact (hf b hb).1
  done := by
    intro X hP hw hK hc i pins s σ H E I hf st hg
    subst hP hw hK
    obtain ⟨⟨old, he⟩, hit, hne⟩ := st
    obtain ⟨xs, hq, hx⟩ := hg
    obtain ⟨its, rv, p, hz⟩ := I.tuple hq
    have p : s.heap.IsTuple a its.toArray := p
    obtain ⟨f0, f1, f2, f3, f4, f5⟩ := hf it (by simp)
    have hl := rv.length
    have hne_a : a ≠ it := fun z => by
      subst z
      obtain ⟨o1, q1, c1, _⟩ := hit
      obtain ⟨o2, q2, c2, _⟩ := p
      rw [q1] at q2; cases q2; rw [c1] at c2; exact absurd (Value.type.inj c2) (by decide)
    have hT : s.TypeIs (.ref e) "enumerate" := ⟨_, he, rfl⟩
    unfold pyNext
    refine wpAny_bind (wpAny_attempt (wpAny_callSpecial?_slot (name := Str.ofString "__next__") hT F.slot_enumerate_next
      (wpAny_call_entry F.slot_enumerate_next hT F.entry_enumerate_next ?_ (F.args_enumerate_next_1 _))))
    show wpAny _ _ (field (.ref e) 2 >>= _) _ _ _
    refine wpAny_bind (wpAny_field he rfl (x := .ref it) rfl ?_)
    refine wpAny_bind (wpAny_nextOf_tuple_end (by have := I.ok.hd hc; exact this) hit p (by simp; omega) fun h' x he' hx' => ?_)
    obtain ⟨o, ho, hc⟩ := hx'
    refine wpAny_bind (wpAny_isInstance (T := "StopIteration") (b := true) ⟨o, ho, hc⟩ isSubtype_stop ?_)
    exact wpAny_pure ⟨rfl, I.turned (t' := s.toks) (fun b o hb q => he' b o hb q) f0 f1 f3 f4 f5⟩
  self := fun A i s Q E st h => let ⟨⟨_, he⟩, _⟩ := st; wpAny_pyIter_enum he h
end L2
-- EvI
set_option Elab.async false
set_option linter.all false
set_option maxRecDepth 100000
set_option maxHeartbeats 2000000
namespace Ev
open PySem PySem.Spec L2 HT ClX
open PyProof.Rows hiding St

/-! ## what is walked -/
structure GrI (F H F' H' : Hp) : Prop where
  sub : Sub F F'
  subH : Sub F' H'
  keep : Sub H H'
  new : ∀ a u, F' a = some u → F a = some u ∨ H a = none
theorem GrI.refl {F H : Hp} (s : Sub F H) : GrI F H F H := ⟨.refl, s, .refl, fun _ _ h => .inl h⟩
theorem Wr.grI {Γ : Gm} {F H F' H' : Hp} {σ : St} {env : List O} (w : Wr Γ F H σ env) (g : GrI F H F' H') : Wr Γ F' H' σ env :=
  w.mono g.sub g.subH fun a u q hu => ⟨g.keep _ _ hu, by
    cases e : F' a with
    | none => rfl
    | some z =>
      rcases g.new a z e with h | h
      · rw [(w.ownF q).1] at h; cases h
      · rw [hu] at h; cases h⟩
theorem GrI.stp {F H F' H' : Hp} (g : GrI F H F' H') {S : Addr → Prop} : Stp F H S F' H' S := ⟨g.sub, fun a u e => (g.new a u e).elim .inl fun z => .inr (.inl z), fun a u e _ => g.keep a u e, fun a h => .inl h⟩
theorem GrI.trans {F H F' H' F'' H'' : Hp} (a : GrI F H F' H') (b : GrI F' H' F'' H'') : GrI F H F'' H'' :=
  ⟨a.sub.trans b.sub, b.subH, a.keep.trans b.keep, fun x u e => by
    rcases b.new x u e with h | h
    · exact a.new x u h
    · exact .inr (none_of_sub a.keep h)⟩
/-- the iterator goes through the data, in any later world -/
def IterOk (Γ : Gm) (J : It) (F0 : Hp) (ds : List D) : Prop := ∀ F H, Sub F0 F → Sub F H →
  (∀ (i : Nat) (d : D), ds[i]? = some d → J.go i H ∧ ∀ x H', J.yld i H x H' → ∃ F', GrI F H F' H' ∧ Rv Γ F' x d) ∧ J.stop ds.length H
abbrev SI := M (List D)
def PostI (Γ : Gm) (W : St → XK) (F H : Hp) (σ : St) (env : List O) (R : It → Hp → Prop) : Ot (List D) → Prop
  | .ok ds env' => ∀ J F' H', Wr Γ F' H' σ env' → IterOk Γ J F' ds → Stp F H (Own σ env) F' H' (Own σ env') → R J H'
  | .ex e env' => ∀ cls dd F' H', Wr Γ F' H' σ env' → XR Γ F' H' cls dd e → Stp F H (Own σ env) F' H' (Own σ env') → W σ cls dd H'
def SimI (Γ : Gm) (W : St → XK) (t : TI) (f : SI) : Prop :=
  ∀ (F H : Hp) (σ : St) (env : List O) (res : Ot (List D)) (R : It → Hp → Prop), Wr Γ F H σ env → f env = some res → PostI Γ W F H σ env R res → t σ H R
def EI (X : Cx) (Γ : Gm) (W : St → XK) (tg e : Expr) (f : SI) : Prop := ∃ t, PI X tg e t ∧ SimI Γ W t f
/-- the characters of a text -/
def charsD (s : Str) : List D := s.cps.toList.map fun c => .str ⟨#[c]⟩
def iterD : D → Option (List D)
  | .lst ds => some ds
  | .tup ds => some ds
  | .scr ns => some (ns.map .int)
  | .str s => some (charsD s)
  | _ => none
def srcS (f : SE) : SI := M.bind (opd f) fun r s => match r with
  | .fz d => match iterD d with
    | some ds => some (.ok ds s)
    | none => none
  | _ => none
def iSeqU (K : PySem.W.Frag) (te : TE) : TI := fun σ H R => te σ H fun x H1 =>
  (∃ a, x = .ref a ∧ (∃ xs, SqL K H1 a xs) ∧ R (Itl K a) H1) ∨ (∃ a, x = .ref a ∧ (∃ xs, SqT K H1 a xs) ∧ R (Itt K a) H1) ∨ ∃ z, x = .str z ∧ R (Its z) H1
section
variable {X : Cx} {tg l : Expr} {tl : TE}
theorem pi_seqU (hl : PE X l tl) : PI X tg l (iSeqU X.K tl) := by
  refine ⟨fun pins s σ H R I h => ?_⟩
  refine thn (hl.run pins s σ H _ I h) fun v s1 ⟨x, H1, I1, r1, q1⟩ => ?_
  rcases q1 with ⟨a, e, ⟨xs, hq⟩, q⟩ | ⟨a, e, ⟨xs, hq⟩, q⟩ | ⟨z, e, q⟩
  · subst e
    cases r1
    obtain ⟨its, rv, p, hz⟩ := I1.list hq
    refine wpAny_pyIter_list p.isList ?_
    refine ⟨s1.heap.objs.size, [s1.heap.objs.size], _, _, H1, rfl, I1.kept (t' := s1.toks) fun b o e => Heap.get?_push_of_some _ e, turn_list a _, ⟨_, Heap.get?_push_size _ rfl, rfl, rfl⟩, fun b hb => ?_, q⟩
    have e : b = s1.heap.objs.size := by simpa using hb
    subst e
    exact I1.fpOk (Nat.le_refl _) (I1.hok.fresh (Nat.le_refl _))
  · subst e
    cases r1
    obtain ⟨its, rv, p, hz⟩ := I1.tuple hq
    refine wpAny_pyIter_tuple (show s1.heap.IsTuple a its.toArray from p) ?_
    refine ⟨s1.heap.objs.size, [s1.heap.objs.size], _, _, H1, rfl, I1.kept (t' := s1.toks) fun b o e => Heap.get?_push_of_some _ e, turn_tuple a _, ⟨_, Heap.get?_push_size _ rfl, rfl, rfl⟩, fun b hb => ?_, q⟩
    have e : b = s1.heap.objs.size := by simpa using hb
    subst e
    exact I1.fpOk (Nat.le_refl _) (I1.hok.fresh (Nat.le_refl _))
  · subst e
    obtain ⟨t, rfl⟩ := r1
    refine wpAny_pyIter_strU ?_
    exact pi_one (tk := s1.toks) I1 _ (turn_str _ z t _ (by unfold strIterType; split <;> simp)) ⟨_, Heap.get?_push_size _ rfl, rfl, rfl⟩ q
end
section
variable {Γ : Gm} {W : St → XK}
theorem iterOk_list {F : Hp} {a : Addr} {vs : List V} {ds : List D} (h : F a = some (.lst vs)) (r : RvL Γ F vs ds) : IterOk Γ (Itl Γ.K a) F ds := by
  intro F' H' s s'
  have hh : SqL Γ.K H' a vs := SqL.of (s' _ _ (s _ _ h))
  refine ⟨fun i d e => ?_, vs, hh, by rw [r.length]; exact Nat.le_refl _⟩
  obtain ⟨v, hv, rv⟩ := r.get e
  refine ⟨⟨vs, v, hh, hv⟩, fun x H2 ⟨e2, y⟩ => ?_⟩
  subst e2
  have := y vs hh
  rw [hv] at this; cases this
  exact ⟨F', .refl s', rv.mono s⟩
theorem iterOk_tup {F : Hp} {a : Addr} {vs : List V} {ds : List D} (h : F a = some (.tup vs)) (r : RvL Γ F vs ds) : IterOk Γ (Itt Γ.K a) F ds := by
  intro F' H' s s'
  have hh : SqT Γ.K H' a vs := SqT.of (s' _ _ (s _ _ h))
  refine ⟨fun i d e => ?_, vs, hh, by rw [r.length]; exact Nat.le_refl _⟩
  obtain ⟨v, hv, rv⟩ := r.get e
  refine ⟨⟨vs, v, hh, hv⟩, fun x H2 ⟨e2, y⟩ => ?_⟩
  subst e2
  have := y vs hh
  rw [hv] at this; cases this
  exact ⟨F', .refl s', rv.mono s⟩
theorem iterOk_scr {F : Hp} {a : Addr} {ns : List Int} (h : SqL Γ.K F a (ns.map V.int)) : IterOk Γ (Itl Γ.K a) F (ns.map D.int) := by
  intro F' H' s s'
  have hh : SqL Γ.K H' a (ns.map V.int) := SqL.sub s' (SqL.sub s h)
  refine ⟨fun i d e => ?_, _, hh, by simp⟩
  rw [List.getElem?_map] at e
  obtain ⟨n, hn, rfl⟩ := Option.map_eq_some_iff.mp e
  have hv : (ns.map V.int)[i]? = some (.int n) := by rw [List.getElem?_map, hn]; rfl
  refine ⟨⟨_, _, hh, hv⟩, fun x H2 ⟨e2, y⟩ => ?_⟩
  subst e2
  have := y _ hh
  rw [hv] at this; cases this
  exact ⟨F', .refl s', .int n⟩
theorem iterOk_str {F : Hp} {z : Str} : IterOk Γ (Its z) F (charsD z) := by
  intro F' H' s s'
  refine ⟨fun i d e => ?_, by show z.cps.size ≤ _; unfold charsD; simp⟩
  unfold charsD at e
  rw [List.getElem?_map] at e
  obtain ⟨c, hc, rfl⟩ := Option.map_eq_some_iff.mp e
  have hi : i < z.cps.size := by have := (List.getElem?_eq_some_iff.mp hc).1; simpa using this
  refine ⟨hi, fun x H2 ⟨e2, c', hc', ex⟩ => ?_⟩
  subst e2 ex
  have : z.cps[i]? = some c := by simpa using hc
  rw [this] at hc'; cases hc'
  exact ⟨F', .refl s', .str _⟩
theorem sim_src {t : TE} {f : SE} (h : SimE Γ W t f) : SimI Γ W (iSeqU Γ.K t) (srcS f) := by
  intro F H σ env res R w hf post
  rcases M.bind_some hf with ⟨e, s', h1, rfl⟩ | ⟨r, s', h1, h2⟩
  · exact h.opd F H σ env _ _ w h1 post
  · refine h.opd F H σ env _ _ w h1 fun v F1 H1 w1 r1 st1 => ?_
    cases r with
    | ow o => cases h2
    | bor i => cases h2
    | fz d =>
      have r1 : Rv Γ F1 v d := r1
      have h2 : (match iterD d with | some ds => some (Ot.ok ds s') | none => none) = some res := h2
      cases hd : iterD d with
      | none => rw [hd] at h2; cases h2
      | some ds =>
        rw [hd] at h2; cases h2
        unfold iterD at hd
        split at hd
        · cases hd
          cases r1 with
          | lst h z r => exact .inl ⟨_, rfl, ⟨_, SqL.of (w1.sub _ _ h)⟩, post _ F1 H1 w1 (iterOk_list h r) (RR.stp st1)⟩
        · cases hd
          cases r1 with
          | tup h z r => exact .inr (.inl ⟨_, rfl, ⟨_, SqT.of (w1.sub _ _ h)⟩, post _ F1 H1 w1 (iterOk_tup h r) (RR.stp st1)⟩)
        · cases hd
          cases r1 with
          | scr h z => exact .inl ⟨_, rfl, ⟨_, SqL.sub w1.sub h⟩, post _ F1 H1 w1 (iterOk_scr h) (RR.stp st1)⟩
        · cases hd
          cases r1
          exact .inr (.inr ⟨_, rfl, post _ F1 H1 w1 iterOk_str (RR.stp st1)⟩)
        · cases hd
end
section
variable {X : Cx} {Γ : Gm} {W : St → XK} {CXv : CXT} {k : Nat} {pos p : Pos} {e tg : Expr} {f : SE}
theorem ei_src (c : Ok X Γ W CXv k) (h : EE X Γ W e f) : EI X Γ W tg e (srcS f) := ⟨_, pi_seqU h.choose_spec.1, by rw [c.K]; exact sim_src h.choose_spec.2⟩
end
/-! ### range -/
def rangeL (lo c : Int) (n : Nat) : List D := (List.range n).map fun (i : Nat) => .int (lo + (i : Int) * c)
def in62 (i : Int) : Prop := -4611686018427387904 ≤ i ∧ i < 4611686018427387904
instance (i : Int) : Decidable (in62 i) := by unfold in62; infer_instance
theorem in62.pow {i : Int} (h : in62 i) : -(2 ^ 62) ≤ i ∧ i < 2 ^ 62 := by
  have e : (2 : Int) ^ 62 = 4611686018427387904 := by rfl
  rw [e]; exact h
def rng1D : List D → Option (List D)
  | [.int j] => if in62 j then some (rangeL 0 1 j.toNat) else none
  | _ => none
def rng2D : List D → Option (List D)
  | [.int i, .int j] => if in62 i ∧ in62 j then some (rangeL i 1 (j - i).toNat) else none
  | _ => none
def rng3D : List D → Option (List D)
  | [.int i, .int j, .int c] => if c ≠ 0 ∧ c.natAbs < 1073741824 ∧ Builtin.Range.small i j c = true ∧ 0 ≤ Builtin.Range.rangeSize i j c then some (rangeL i c (Builtin.Range.rangeSize i j c).toNat) else none
  | _ => none
def rngS (φ : List D → Option (List D)) (fa : SA) : SI := M.bind fa fun rs s => match (vws s rs).bind φ with
  | some ds => some (.ok ds s)
  | none => none
section
variable {Γ : Gm} {W : St → XK} {fa : SA}
theorem iterOk_rng {F : Hp} {lo : Int} {n : Nat} : IterOk Γ (Itr lo n) F (rangeL lo 1 n) := by
  intro F' H' s s'
  refine ⟨fun i d e => ?_, by show n ≤ _; unfold rangeL; simp⟩
  unfold rangeL at e
  rw [List.getElem?_map] at e
  obtain ⟨c, hc, rfl⟩ := Option.map_eq_some_iff.mp e
  obtain ⟨hi, hc⟩ := List.getElem?_eq_some_iff.mp hc
  rw [List.getElem_range] at hc
  subst hc
  have hi : i < n := by simpa using hi
  refine ⟨hi, fun x H2 ⟨e2, ex⟩ => ?_⟩
  subst e2 ex
  rw [Int.mul_one]
  exact ⟨F', .refl s', .int _⟩
theorem iterOk_rngC {F : Hp} {lo c : Int} {n : Nat} : IterOk Γ (Itc lo c n) F (rangeL lo c n) := by
  intro F' H' s s'
  refine ⟨fun i d e => ?_, by show n ≤ _; unfold rangeL; simp⟩
  unfold rangeL at e
  rw [List.getElem?_map] at e
  obtain ⟨c, hc, rfl⟩ := Option.map_eq_some_iff.mp e
  obtain ⟨hi, hc⟩ := List.getElem?_eq_some_iff.mp hc
  rw [List.getElem_range] at hc
  subst hc
  have hi : i < n := by simpa using hi
  refine ⟨hi, fun x H2 ⟨e2, ex⟩ => ?_⟩
  subst e2 ex
  exact ⟨F', .refl s', .int _⟩
theorem VwL.three {F H : Hp} {xs : List V} {d e f : D} (h : VwL Γ F H xs [d, e, f]) : ∃ x y z, xs = [x, y, z] ∧ Vw Γ F H x d ∧ Vw Γ F H y e ∧ Vw Γ F H z f := by
  cases h with | cons a b => obtain ⟨y, z, rfl, q⟩ := b.two; exact ⟨_, _, _, rfl, a, q⟩
theorem sim_rng {t : TA} {φ : List D → Option (List D)} (h : SimA Γ W t fa) : SimI Γ W (fun σ H R => t σ H fun vs H1 => ∃ ds, (∃ F1 s', Wr Γ F1 H1 σ s' ∧ VwL Γ F1 H1 vs ds) ∧ ∃ l, φ ds = some l ∧ ∀ J, (∀ F, IterOk Γ J F l) → R J H1) (rngS φ fa) := by
  intro F H σ env res R w hf post
  rcases M.bind_some hf with ⟨e, s', h1, rfl⟩ | ⟨rs, s', h1, h2⟩
  · exact h F H σ env _ _ w h1 post
  · refine h F H σ env _ _ w h1 fun vs F1 H1 w1 r1 st1 => ?_
    cases hv : vws s' rs with
    | none => simp only [hv, Option.bind] at h2; cases h2
    | some ds =>
      simp only [hv, Option.bind] at h2
      cases hr : φ ds with
      | none => simp only [hr] at h2; cases h2
      | some l =>
        simp only [hr] at h2; cases h2
        exact ⟨ds, ⟨F1, s', w1, r1.vws w1 hv⟩, l, hr, fun J hJ => post J F1 H1 w1 (hJ F1) st1⟩
end
section
variable {X : Cx} {Γ : Gm} {W : St → XK} {CXv : CXT} {k : Nat} {pos p : Pos} {a b c tg : Expr} {fa : SA}
theorem PI.weak {e : Expr} {t u : TI} (h : PI X tg e t) (w : ∀ σ H R, u σ H R → t σ H R) : PI X tg e u := ⟨fun pins s σ H R I q => h.run pins s σ H R I (w σ H R q)⟩
theorem PA.weak {es : List Expr} {t u : TA} (h : PA X es t) (w : ∀ σ H R, u σ H R → t σ H R) : PA X es u := ⟨fun po pins s σ H R I q => h.run po pins s σ H R I (w σ H R q)⟩
theorem PE.weak {e : Expr} {t u : TE} (h : PE X e t) (w : ∀ σ H R, u σ H R → t σ H R) : PE X e u := ⟨fun pins s σ H R I q => h.run pins s σ H R I (w σ H R q)⟩
theorem PT.weak {e : Expr} {t u : TT} (h : PT X e t) (w : ∀ σ H R, u σ H R → t σ H R) : PT X e u := ⟨fun pins s σ H R I q => h.run pins s σ H R I (w σ H R q)⟩
/-- the semantic forms themselves -/
def tA (Γ : Gm) (W : St → XK) (f : SA) : TA := fun σ H Q => ∃ F env res, Wr Γ F H σ env ∧ f env = some res ∧ PostA Γ W F H σ env Q res
def tE (Γ : Gm) (W : St → XK) (f : SE) : TE := fun σ H Q => ∃ F env res, Wr Γ F H σ env ∧ f env = some res ∧ PostE Γ W F H σ env Q res
def tT (Γ : Gm) (W : St → XK) (f : ST) : TT := fun σ H Q => ∃ F env res, Wr Γ F H σ env ∧ f env = some res ∧ PostT Γ W F H σ env Q res
def tI (Γ : Gm) (W : St → XK) (f : SI) : TI := fun σ H Q => ∃ F env res, Wr Γ F H σ env ∧ f env = some res ∧ PostI Γ W F H σ env Q res
theorem EA.pa {es : List Expr} (h : EA X Γ W es fa) : PA X es (tA Γ W fa) := PA.weak h.choose_spec.1 fun σ H Q ⟨F, env, res, w, e, p⟩ => h.choose_spec.2 F H σ env res Q w e p
theorem EE.pe {e : Expr} {f : SE} (h : EE X Γ W e f) : PE X e (tE Γ W f) := PE.weak h.choose_spec.1 fun σ H Q ⟨F, env, res, w, e, p⟩ => h.choose_spec.2 F H σ env res Q w e p
theorem ET.pt {e : Expr} {f : ST} (h : ET X Γ W e f) : PT X e (tT Γ W f) := PT.weak h.choose_spec.1 fun σ H Q ⟨F, env, res, w, e, p⟩ => h.choose_spec.2 F H σ env res Q w e p
theorem EI.pi {e : Expr} {f : SI} (h : EI X Γ W tg e f) : PI X tg e (tI Γ W f) := PI.weak h.choose_spec.1 fun σ H Q ⟨F, env, res, w, e, p⟩ => h.choose_spec.2 F H σ env res Q w e p
theorem sim_tA : SimA Γ W (tA Γ W fa) fa := fun F H σ env res Q w e p => ⟨F, env, res, w, e, p⟩
theorem sim_tE {f : SE} : SimE Γ W (tE Γ W f) f := fun F H σ env res Q w e p => ⟨F, env, res, w, e, p⟩
theorem sim_tT {f : ST} : SimT Γ W (tT Γ W f) f := fun F H σ env res Q w e p => ⟨F, env, res, w, e, p⟩
theorem sim_tI {f : SI} : SimI Γ W (tI Γ W f) f := fun F H σ env res Q w e p => ⟨F, env, res, w, e, p⟩
theorem tA_mono {σ : St} {H : Hp} {Q Q' : List V → Hp → Prop} (h : ∀ vs H1, Q vs H1 → Q' vs H1) (t : tA Γ W fa σ H Q) : tA Γ W fa σ H Q' := by
  obtain ⟨F, env, res, w, e, p⟩ := t
  refine ⟨F, env, res, w, e, ?_⟩
  cases res with
  | ok rs s => exact fun vs F' H' w' r st => h _ _ (p vs F' H' w' r st)
  | ex e s => exact p
theorem ei_range1 (hg : Gl X "range") (hm : X.mg "range" = none) (h : EA X Γ W [a] fa) (hs : starEach [a] X.env = [(false, eval a X.env)] := by rfl) : EI X Γ W tg (.Call (.Name "range" p) [a] [] pos) (rngS rng1D fa) := by
  refine ⟨_, PI.weak (pi_range1 hg hm h.pa hs) fun σ H R q => ?_, sim_rng sim_tA⟩
  refine tA_mono (fun vs H1 ⟨ds, ⟨F1, s', w1, vx⟩, l, hl, k⟩ => ?_) q
  unfold rng1D at hl
  split at hl
  · split at hl
    · rename_i hj
      cases hl
      obtain ⟨x, rfl, v⟩ := vx.one
      cases v.int
      exact ⟨_, rfl, hj.pow.1, hj.pow.2, k _ fun F => iterOk_rng⟩
    · cases hl
  · cases hl
theorem ei_range2 (hg : Gl X "range") (hm : X.mg "range" = none) (h : EA X Γ W [a, b] fa) (hs : starEach [a, b] X.env = [(false, eval a X.env), (false, eval b X.env)] := by rfl) (hs2 : starEach [b] X.env = [(false, eval b X.env)] := by rfl) :
    EI X Γ W tg (.Call (.Name "range" p) [a, b] [] pos) (rngS rng2D fa) := by
  refine ⟨_, PI.weak (pi_range2 hg hm h.pa hs hs2) fun σ H R q => ?_, sim_rng sim_tA⟩
  refine tA_mono (fun vs H1 ⟨ds, ⟨F1, s', w1, vx⟩, l, hl, k⟩ => ?_) q
  unfold rng2D at hl
  split at hl
  · split at hl
    · rename_i hj
      cases hl
      obtain ⟨x, y, rfl, v, v2⟩ := vx.two
      cases v.int; cases v2.int
      exact ⟨_, _, rfl, ⟨hj.1.pow.1, hj.1.pow.2, hj.2.pow.1, hj.2.pow.2⟩, k _ fun F => iterOk_rng⟩
    · cases hl
  · cases hl
theorem ei_range3 (hg : Gl X "range") (hm : X.mg "range" = none) (h : EA X Γ W [a, b, c] fa) (hs : starEach [a, b, c] X.env = (false, eval a X.env) :: starEach [b, c] X.env := by rfl) (hpl : (backTo pos (starEach [b, c] X.env)).any (·.1) = false := by rfl) :
    EI X Γ W tg (.Call (.Name "range" p) [a, b, c] [] pos) (rngS rng3D fa) := by
  refine ⟨_, PI.weak (pi_range3 hg hm h.pa hs hpl) fun σ H R q => ?_, sim_rng sim_tA⟩
  refine tA_mono (fun vs H1 ⟨ds, ⟨F1, s', w1, vx⟩, l, hl, k⟩ => ?_) q
  unfold rng3D at hl
  split at hl
  · split at hl
    · rename_i hj
      cases hl
      obtain ⟨x, y, z, rfl, v, v2, v3⟩ := vx.three
      cases v.int; cases v2.int; cases v3.int
      exact ⟨_, _, _, _, rfl, ⟨hj.1, hj.2.1, hj.2.2.1, by omega⟩, k _ fun F => iterOk_rngC⟩
    · cases hl
  · cases hl
end
/-! ### enumerate -/
def enumL : Nat → List D → List D
  | _, [] => []
  | k, x :: xs => .tup [.int (k : Nat), x] :: enumL (k + 1) xs
theorem enumL_length : ∀ (k : Nat) (xs : List D), (enumL k xs).length = xs.length
  | _, [] => rfl
  | k, x :: xs => by simp [enumL, enumL_length (k + 1) xs]
theorem enumL_get : ∀ (k : Nat) (xs : List D) (i : Nat) (d : D), (enumL k xs)[i]? = some d → ∃ x, xs[i]? = some x ∧ d = .tup [.int ((k + i : Nat) : Int), x]
  | _, [], i, d, h => by simp [enumL] at h
  | k, x :: xs, 0, d, h => by simp [enumL] at h; exact ⟨x, rfl, h.symm⟩
  | k, x :: xs, i + 1, d, h => by
    obtain ⟨y, h1, h2⟩ := enumL_get (k + 1) xs i d (by simpa [enumL] using h)
    refine ⟨y, by simpa using h1, ?_⟩
    rw [h2, show k + 1 + i = k + (i + 1) by omega]
def enumD : List D → Option (List D)
  | [.lst xs] => some (enumL 0 xs)
  | [.tup xs] => some (enumL 0 xs)
  | _ => none
def srcN (φ : List D → Option (List D)) (fa : SA) : SI := M.bind fa fun rs s => match (fzs rs).bind φ with
  | some ds => some (.ok ds s)
  | none => none
def iEnumU (K : PySem.W.Frag) (ta : TA) : TI := fun σ H R => ta σ H fun vs H1 => ∃ a xs, vs = [.ref a] ∧ ((SqL K H1 a xs ∧ R (Ite K a) H1) ∨ (SqT K H1 a xs ∧ R (IteT K a) H1))
section
variable {X : Cx} {Γ : Gm} {W : St → XK} {CXv : CXT} {k : Nat} {pos p tpos : Pos} {e : Expr} {elts : List Expr} {kk : Nat} {fa : SA} {ta : TA}
theorem pi_enumU (hg : Gl X "enumerate") (hm : X.mg "enumerate" = none) (ha : PA X [e] ta) (hs : starEach [e] X.env = [(false, eval e X.env)] := by rfl) :
    PI X (.Tuple elts kk tpos) (.Call (.Name "enumerate" p) [e] [] pos) (iEnumU X.K ta) := by
  refine ⟨fun pins s σ H R I h => ?_⟩
  refine Call_ (ld_blt I hg hm boot_enumerate (PyProof.Rows.callWith_type1 (thn (ha.run pos pins s σ H _ I h) fun us s1 ⟨vs, H1, I1, r1, q1⟩ => ?_) hs rfl))
  obtain ⟨a, xs, ex, hq⟩ := q1
  subst ex
  cases r1 with
  | cons r rr =>
    cases rr
    cases r
    rcases hq with ⟨hq, q⟩ | ⟨hq, q⟩
    · obtain ⟨its, rv, p', hz⟩ := I1.list hq
      refine call_enumerate_list p'.isList fun h' he hit hsz hk => wpAny_pyIter_enum he ?_
      have I2 : Inv X pins σ H1 { s1 with heap := h' } := I1.kept (t' := s1.toks) hk
      refine ⟨s1.heap.objs.size + 1, [s1.heap.objs.size + 1, s1.heap.objs.size], _, _, H1, rfl, I2, turn_enum a (s1.heap.objs.size + 1) s1.heap.objs.size, ⟨⟨.none, he⟩, hit, Nat.succ_ne_self _⟩, fun b hb => ?_, q⟩
      have e' : b = s1.heap.objs.size + 1 ∨ b = s1.heap.objs.size := by simpa using hb
      have hle : s1.heap.objs.size ≤ b := by
        rcases e' with z | z
        · rw [z]; exact Nat.le_add_right _ _
        · rw [z]; exact Nat.le_refl _
      exact I1.fpOk hle (I1.hok.fresh hle)
    · obtain ⟨its, rv, p', hz⟩ := I1.tuple hq
      refine call_enumerate_tup (show s1.heap.IsTuple a its.toArray from p') fun h' he hit hsz hk => wpAny_pyIter_enum he ?_
      have I2 : Inv X pins σ H1 { s1 with heap := h' } := I1.kept (t' := s1.toks) hk
      refine ⟨s1.heap.objs.size + 1, [s1.heap.objs.size + 1, s1.heap.objs.size], _, _, H1, rfl, I2, turn_enumT a (s1.heap.objs.size + 1) s1.heap.objs.size, ⟨⟨.none, he⟩, hit, Nat.succ_ne_self _⟩, fun b hb => ?_, q⟩
      have e' : b = s1.heap.objs.size + 1 ∨ b = s1.heap.objs.size := by simpa using hb
      have hle : s1.heap.objs.size ≤ b := by
        rcases e' with z | z
        · rw [z]; exact Nat.le_add_right _ _
        · rw [z]; exact Nat.le_refl _
      exact I1.fpOk hle (I1.hok.fresh hle)
/-- a pair of a number and a thing, new -/
theorem grI_pair {F H : Hp} {T : Addr} {i : Int} {x : V} {d : D} (s : Sub F H) (hT : H T = none) (r : Rv Γ F x d) : ∃ F', GrI F H F' (upd H T (.tup [.int i, x])) ∧ Rv Γ F' (.ref T) (.tup [.int i, d]) := by
  have g := gr_tup (Γ := Γ) (ds := [.int i, d]) s hT (by show 2 ≤ sizeLine; decide) (.cons (.int i) (.cons r .nil))
  have rel := g.rel
  cases rel with
  | fz rel => exact ⟨_, ⟨g.sub, g.subH, g.keep, g.new⟩, rel⟩
theorem iterOk_enumL {F : Hp} {a : Addr} {vs : List V} {ds : List D} (h : F a = some (.lst vs)) (r : RvL Γ F vs ds) : IterOk Γ (Ite Γ.K a) F (enumL 0 ds) := by
  intro F' H' s s'
  have hh : SqL Γ.K H' a vs := SqL.of (s' _ _ (s _ _ h))
  refine ⟨fun i d e => ?_, vs, hh, by rw [enumL_length, r.length]; exact Nat.le_refl _⟩
  obtain ⟨x, hx, rfl⟩ := enumL_get 0 ds i d e
  obtain ⟨v, hv, rv⟩ := r.get hx
  refine ⟨⟨vs, v, hh, hv⟩, fun y H2 ⟨T, z, ey, hT, e2, yy⟩ => ?_⟩
  subst ey e2
  have := yy vs hh
  rw [hv] at this; cases this
  rw [Nat.zero_add]
  exact grI_pair s' hT (rv.mono s)
theorem iterOk_enumT {F : Hp} {a : Addr} {vs : List V} {ds : List D} (h : F a = some (.tup vs)) (r : RvL Γ F vs ds) : IterOk Γ (IteT Γ.K a) F (enumL 0 ds) := by
  intro F' H' s s'
  have hh : SqT Γ.K H' a vs := SqT.of (s' _ _ (s _ _ h))
  refine ⟨fun i d e => ?_, vs, hh, by rw [enumL_length, r.length]; exact Nat.le_refl _⟩
  obtain ⟨x, hx, rfl⟩ := enumL_get 0 ds i d e
  obtain ⟨v, hv, rv⟩ := r.get hx
  refine ⟨⟨vs, v, hh, hv⟩, fun y H2 ⟨T, z, ey, hT, e2, yy⟩ => ?_⟩
  subst ey e2
  have := yy vs hh
  rw [hv] at this; cases this
  rw [Nat.zero_add]
  exact grI_pair s' hT (rv.mono s)
theorem sim_enum (h : SimA Γ W ta fa) : SimI Γ W (iEnumU Γ.K ta) (srcN enumD fa) := by
  intro F H σ env res R w hf post
  rcases M.bind_some hf with ⟨e, s', h1, rfl⟩ | ⟨rs, s', h1, h2⟩
  · exact h F H σ env _ _ w h1 post
  · refine h F H σ env _ _ w h1 fun vs F1 H1 w1 r1 st1 => ?_
    cases hv : fzs rs with
    | none => simp only [hv, Option.bind] at h2; cases h2
    | some ds =>
      simp only [hv, Option.bind] at h2
      have r := r1.fz hv
      cases hr : enumD ds with
      | none => simp only [hr] at h2; cases h2
      | some l =>
        simp only [hr] at h2; cases h2
        unfold enumD at hr
        split at hr
        · cases hr
          cases r with
          | cons r0 rn =>
            cases rn
            cases r0 with
            | lst h z r => exact ⟨_, _, rfl, .inl ⟨SqL.of (w1.sub _ _ h), post _ F1 H1 w1 (iterOk_enumL h r) st1⟩⟩
        · cases hr
          cases r with
          | cons r0 rn =>
            cases rn
            cases r0 with
            | tup h z r => exact ⟨_, _, rfl, .inr ⟨SqT.of (w1.sub _ _ h), post _ F1 H1 w1 (iterOk_enumT h r) st1⟩⟩
        · cases hr
theorem ei_enum (c : Ok X Γ W CXv k) (hg : Gl X "enumerate") (hm : X.mg "enumerate" = none) (h : EA X Γ W [e] fa) (hs : starEach [e] X.env = [(false, eval e X.env)] := by rfl) :
    EI X Γ W (.Tuple elts kk tpos) (.Call (.Name "enumerate" p) [e] [] pos) (srcN enumD fa) :=
  ⟨_, pi_enumU hg hm h.choose_spec.1 hs, by rw [c.K]; exact sim_enum h.choose_spec.2⟩
end

/-! ## targets -/
abbrev SG := D → List O → Option (List O)
/-- only the slots vs may differ -/
def Dx (vs : List Nat) (σ σ' : St) : Prop := σ'.length = σ.length ∧ ∀ i, i ∉ vs → σ'[i]? = σ[i]?
theorem Dx.refl {vs : List Nat} {σ : St} : Dx vs σ σ := ⟨rfl, fun _ _ => rfl⟩
theorem Dx.fx {vs fx : List Nat} {σ σ' : St} (h : Dx vs σ σ') (n : ∀ i ∈ vs, i ∉ fx) : Fx fx σ σ' := fun i hi => h.2 i fun q => n i q hi
def SimG (Γ : Gm) (vs : List Nat) (g : TG) (f : SG) : Prop :=
  ∀ (F H : Hp) (σ : St) (env env' : List O) (v : V) (d : D) (Q : St → Hp → Prop), Wr Γ F H σ env → Rv Γ F v d → f d env = some env' →
    (∀ σ', Wr Γ F H σ' env' → (∀ a, Own σ' env' a → Own σ env a) → Dx vs σ σ' → Q σ' H) → g v σ H Q
def EG (X : Cx) (Γ : Gm) (vs : List Nat) (e : Expr) (f : SG) : Prop := ∃ t, PG X e t ∧ SimG Γ vs t f
abbrev SGs := List D → List O → Option (List O)
def SimGs (Γ : Gm) (vs : List Nat) (g : TGs) (f : SGs) : Prop :=
  ∀ (F H : Hp) (σ : St) (env env' : List O) (us : List V) (ds : List D) (Q : St → Hp → Prop), Wr Γ F H σ env → RvL Γ F us ds → f ds env = some env' →
    (∀ σ', Wr Γ F H σ' env' → (∀ a, Own σ' env' a → Own σ env a) → Dx vs σ σ' → Q σ' H) → g us σ H Q
def EGs (X : Cx) (Γ : Gm) (vs : List Nat) (es : List Expr) (f : SGs) : Prop := ∃ t, PGs X es t ∧ SimGs Γ vs t f
def nameT (i : Nat) : SG := fun d s => some (s.set i (.fz d))
def nilT : SGs := fun ds s => match ds with
  | [] => some s
  | _ => none
def consT (g : SG) (gs : SGs) : SGs := fun ds s => match ds with
  | d :: r => match g d s with
    | some s' => gs r s'
    | none => none
  | [] => none
def tupT (n : Nat) (gs : SGs) : SG := fun d s => match d with
  | .tup ds => if ds.length = n then gs ds s else none
  | _ => none
section
variable {X : Cx} {Γ : Gm} {W : St → XK} {vs vs' : List Nat} {CXv : CXT} {k : Nat} {pos : Pos} {e : Expr} {es : List Expr} {g : SG} {gs : SGs}
theorem eg_name (c : Ok X Γ W CXv k) (i : Nat) {x : Str} (hi : X.N[i]? = some x := by rfl) (hx : Loc X.env.scope x := by first | exact Or.inl rfl | exact Or.inr rfl)
    (hf : X.fn x = true ∨ X.env.scope.names.lookup x = some .local := by first | exact .inl rfl | exact .inr rfl) : EG X Γ [i] (.Name x pos) (nameT i) :=
  ⟨_, pg_name c.nd hi hx hf, fun F H σ env env' v d Q w r e q => by
    cases e
    obtain ⟨w2, ow⟩ := w.asg (r := .fz d) r rfl i
    exact q _ w2 ow ⟨List.length_set, fun j hj => List.getElem?_set_ne (fun e : i = j => hj (by rw [e]; exact List.mem_singleton.mpr rfl))⟩⟩
theorem egs_nil : EGs X Γ [] [] nilT := ⟨_, pgs_nil, fun F H σ env env' us ds Q w r e q => by
  unfold nilT at e
  split at e
  · cases e; cases r; exact ⟨rfl, q σ w (fun _ h => h) Dx.refl⟩
  · cases e⟩
theorem egs_cons (h : EG X Γ vs e g) (h' : EGs X Γ vs' es gs) (hs : (assignEach (e :: es) X.env).map (·.2) = assign e X.env :: (assignEach es X.env).map (·.2) := by rfl) : EGs X Γ (vs ++ vs') (e :: es) (consT g gs) :=
  ⟨_, pgs_cons h.choose_spec.1 h'.choose_spec.1 hs, fun F H σ env env' us ds Q w r e q => by
    cases ds with
    | nil => cases e
    | cons d r' =>
      simp only [consT] at e
      cases h1 : g d env with
      | none => rw [h1] at e; cases e
      | some s' =>
        rw [h1] at e
        cases r with
        | cons r0 rn =>
          refine ⟨_, _, rfl, h.choose_spec.2 F H σ env s' _ d _ w r0 h1 fun σ1 w1 o1 x1 => ?_⟩
          exact h'.choose_spec.2 F H σ1 s' env' _ r' _ w1 rn e fun σ2 w2 o2 x2 => q σ2 w2 (fun a h => o1 a (o2 a h)) ⟨x2.1.trans x1.1, fun i hi => (x2.2 i fun z => hi (List.mem_append_right _ z)).trans (x1.2 i fun z => hi (List.mem_append_left _ z))⟩⟩
theorem eg_tup (c : Ok X Γ W CXv k) {kk n : Nat} (h : EGs X Γ vs es gs) (hn : (assignEach es X.env).length = n := by rfl) (hst : (assignEach es X.env).findIdx? (·.1) = none := by rfl) : EG X Γ vs (.Tuple es kk pos) (tupT n gs) :=
  ⟨_, pg_tup c.calm h.choose_spec.1 hn hst, fun F H σ env env' v d Q w r e q => by
    unfold tupT at e
    split at e
    · split at e
      · rename_i ds hl
        cases r with
        | tup h0 z r =>
          exact ⟨_, _, rfl, SqT.of (w.sub _ _ h0), by rw [r.length]; exact hl, h.choose_spec.2 F H σ env env' _ ds Q w r e q⟩
      · cases e
    · cases e⟩
end
/-! ## for -/
def eraseS (er : List Nat) (s : List O) : List O := er.foldl (fun s i => s.set i .no) s
def forN (tg : SG) (b : SS) (er : List Nat) : List D → SS
  | [] => fun s => some (.ok .nx s)
  | d :: ds => fun s => match tg d s with
    | none => none
    | some s1 => match b s1 with
      | none => none
      | some (.ex e s2) => some (.ex e s2)
      | some (.ok .nx s2) => forN tg b er ds (eraseS er s2)
      | some (.ok .ct s2) => forN tg b er ds (eraseS er s2)
      | some (.ok .bk s2) => some (.ok .nx (eraseS er s2))
      | some (.ok (.rt r) s2) => some (.ok (.rt r) s2)
def forS (src : SI) (tg : SG) (b : SS) (er : List Nat) : SS := M.bind src fun ds s => forN tg b er ds (eraseS er s)
section
variable {Γ : Gm} {W : St → XK} {fx vs : List Nat}
theorem Wr.erase {F H : Hp} {σ : St} : ∀ (er : List Nat) {env : List O}, Wr Γ F H σ env → Wr Γ F H σ (eraseS er env) ∧ ∀ a, Own σ (eraseS er env) a → Own σ env a
  | [], env, w => ⟨w, fun _ h => h⟩
  | i :: er, env, w => by
    obtain ⟨w2, o2⟩ := Wr.erase er (w.forget i)
    exact ⟨w2, fun a h => (o2 a h).set_sub fun q => by cases q⟩
theorem sim_for {wi : TI} {g : TG} {tb : TS} {src : SI} {tg : SG} {b : SS} {er : List Nat} (hi : SimI Γ W wi src) (hg : SimG Γ vs g tg) (hv : ∀ i ∈ vs, i ∉ fx) (hb : SimS Γ W fx tb b) : SimS Γ W fx (tFor wi g tb) (forS src tg b er) := by
  intro F H σ env res D w hf post
  rcases M.bind_some hf with ⟨e, s', h1, rfl⟩ | ⟨ds, s', h1, h2⟩
  · refine hi F H σ env _ _ w h1 fun cls dd F' H' w x st => post cls dd σ F' H' w x st .refl
  · refine hi F H σ env _ _ w h1 fun J F1 H1 w1 it st1 => ?_
    obtain ⟨w1e, o1e⟩ := w1.erase er
    refine ⟨fun i m σ' H' => i + m = ds.length ∧ ∃ F' env', Wr Γ F' H' σ' env' ∧ forN tg b er (ds.drop i) env' = some res ∧ Stp F H (Own σ env) F' H' (Own σ' env') ∧ Sub F1 F' ∧ Fx fx σ σ',
      ⟨ds.length, by omega, F1, _, w1e, by simpa using h2, st1.weak fun x h => .inl (o1e x h), .refl, .refl⟩, ?_⟩
    rintro i m σ2 H2 ⟨hm, F2, env2, w2, h3, st2, s2, x2⟩
    obtain ⟨itm, stp⟩ := it F2 H2 s2 w2.sub
    by_cases hlt : i < ds.length
    · have ed : ds.drop i = ds[i] :: ds.drop (i + 1) := List.drop_eq_getElem_cons hlt
      rw [ed] at h3
      obtain ⟨go, yl⟩ := itm i ds[i] (by simp [hlt])
      refine .inr ⟨go, fun σ' H' => ∃ F' env', Wr Γ F' H' σ' env' ∧ forN tg b er (ds.drop (i + 1)) env' = some res ∧ Stp F H (Own σ env) F' H' (Own σ' env') ∧ Sub F1 F' ∧ Fx fx σ σ', fun σ' H' h => ⟨m - 1, by omega, by omega, h⟩, fun x H3 y => ?_⟩
      obtain ⟨F3, g3, rx⟩ := yl x H3 y
      have w3 := w2.grI g3
      have st3 := st2.trans g3.stp
      unfold forN at h3
      cases ht : tg ds[i] env2 with
      | none => rw [ht] at h3; cases h3
      | some s1 =>
        simp only [ht] at h3
        refine hg F3 H3 σ2 env2 s1 x ds[i] _ w3 rx ht fun σ4 w4 o4 x4' => ?_
        have x4 := x4'.fx hv
        have st4 := st3.weak (T := Own σ4 s1) fun a h => .inl (o4 a h)
        cases hbs : b s1 with
        | none => rw [hbs] at h3; cases h3
        | some rb =>
          simp only [hbs] at h3
          cases rb with
          | ex e s5 =>
            cases h3
            exact hb F3 H3 σ4 s1 _ _ w4 hbs (PostS.trans (D := D) st4 (x2.trans x4) post)
          | ok fl s5 =>
            cases fl with
            | nx =>
              refine hb F3 H3 σ4 s1 _ _ w4 hbs fun σ5 F5 H5 w5 st5 x5 => ?_
              obtain ⟨w5e, o5e⟩ := w5.erase er
              exact ⟨F5, _, w5e, h3, (st4.trans st5).weak fun a h => .inl (o5e a h), (s2.trans g3.sub).trans st5.sub, (x2.trans x4).trans x5⟩
            | ct =>
              refine hb F3 H3 σ4 s1 _ _ w4 hbs fun σ5 F5 H5 w5 st5 x5 => ?_
              obtain ⟨w5e, o5e⟩ := w5.erase er
              exact ⟨F5, _, w5e, h3, (st4.trans st5).weak fun a h => .inl (o5e a h), (s2.trans g3.sub).trans st5.sub, (x2.trans x4).trans x5⟩
            | bk =>
              cases h3
              refine hb F3 H3 σ4 s1 _ _ w4 hbs fun σ5 F5 H5 w5 st5 x5 => ?_
              obtain ⟨w5e, o5e⟩ := w5.erase er
              exact post σ5 F5 H5 w5e ((st4.trans st5).weak fun a h => .inl (o5e a h)) ((x2.trans x4).trans x5)
            | rt r =>
              cases h3
              exact hb F3 H3 σ4 s1 _ _ w4 hbs fun v σ5 F5 H5 w5 rr nb st5 x5 => post v σ5 F5 H5 w5 rr nb (st4.trans st5) ((x2.trans x4).trans x5)
    · have e : i = ds.length := by omega
      subst e
      rw [List.drop_length] at h3
      cases h3
      exact .inl ⟨stp, post σ2 F2 H2 w2 st2 x2⟩
theorem es_for {X : Cx} {CXv : CXT} {k : Nat} {pos : Pos} {tg iter : Expr} {sts : List Stmt} {src : SI} {g : SG} {b : SS} (c : Ok X Γ W CXv k) (er : List Nat) (hi : EI X Γ W tg iter src) (hg : EG X Γ vs tg g) (hb : ESs X Γ W fx sts b) (hv : ∀ i ∈ vs, i ∉ fx := by decide)
    (hs : ∀ x, foldedSetIterable iter X.env x = pure x := by exact fun _ => rfl) : ES X Γ W fx (.For tg iter sts [] pos) (forS src g b er) :=
  ⟨_, ps_for c.po c.calm hi.choose_spec.1 hg.choose_spec.1 hb.choose_spec.1 hs, sim_for hi.choose_spec.2 hg.choose_spec.2 hv hb.choose_spec.2⟩
end
end Ev
-- EvJ
set_option Elab.async false
set_option linter.all false
set_option maxRecDepth 100000
set_option maxHeartbeats 2000000
namespace Ev
open PySem PySem.Spec L2 HT ClX
open PyProof.Rows hiding St

/-! ## list comprehensions -/
theorem wipe_in {σ : St} {i : Nat} : ∀ {vs : List Nat}, i ∈ vs → i < σ.length → (wipe σ vs)[i]? = some none
  | v :: vs, h, hl => by
    unfold wipe
    by_cases e : v = i
    · subst e
      rw [List.getElem?_set_self (by rw [wipe_length]; exact hl)]
    · rw [List.getElem?_set_ne e]
      exact wipe_in ((List.mem_cons.mp h).resolve_left fun q => e q.symm) hl
theorem wipe_dx {σ σ' : St} {vs vs' : List Nat} (h : Dx vs' σ σ') (hv : ∀ i ∈ vs', i ∈ vs) : wipe σ' vs = wipe σ vs := by
  have hl := h.1
  refine List.ext_getElem? fun i => ?_
  by_cases hi : i ∈ vs
  · by_cases q : i < σ.length
    · rw [wipe_in hi q, wipe_in hi (by rw [hl]; exact q)]
    · rw [List.getElem?_eq_none (by rw [wipe_length]; omega), List.getElem?_eq_none (by rw [wipe_length]; omega)]
  · rw [wipe_out hi, wipe_out hi]
    exact h.2 i fun z => hi (hv i z)
theorem wipe_wipe (σ : St) (vs : List Nat) : wipe (wipe σ vs) vs = wipe σ vs := by
  refine List.ext_getElem? fun i => ?_
  by_cases hi : i ∈ vs
  · by_cases q : i < σ.length
    · rw [wipe_in hi (by rw [wipe_length]; exact q), wipe_in hi q]
    · rw [List.getElem?_eq_none (by rw [wipe_length, wipe_length]; omega), List.getElem?_eq_none (by rw [wipe_length]; omega)]
  · rw [wipe_out hi]
/-- the slots vs hold nothing -/
def Clr (vs : List Nat) (env : List O) : Prop := ∀ i ∈ vs, ∀ o, env[i]? = some o → o = .no
theorem eraseS_out {i : Nat} : ∀ {er : List Nat} {env : List O}, i ∉ er → (eraseS er env)[i]? = env[i]?
  | [], env, _ => rfl
  | j :: er, env, h => by
    show (eraseS er (env.set j .no))[i]? = _
    rw [eraseS_out fun z => h (List.mem_cons_of_mem _ z), List.getElem?_set_ne fun e => h (by rw [e]; exact List.mem_cons_self)]
theorem eraseS_in : ∀ (er : List Nat) (env : List O), Clr er (eraseS er env)
  | [], env => fun i h => by cases h
  | j :: er, env => fun i h o e => by
    have e : (eraseS er (env.set j .no))[i]? = some o := e
    by_cases q : i ∈ er
    · exact eraseS_in er _ i q o e
    · rcases List.mem_cons.mp h with h | h
      · subst h
        rw [eraseS_out q] at e
        by_cases hl : i < env.length
        · rw [List.getElem?_set_self hl] at e; exact (Option.some.inj e).symm
        · rw [List.getElem?_eq_none (by simpa using hl)] at e; cases e
      · exact absurd h q
section
variable {Γ : Gm} {F H F' H' : Hp} {σ σ' : St} {env : List O}
theorem Wr.swap (w : Wr Γ F H σ env) (hl : σ'.length = σ.length) (h : ∀ (i : Nat) (o : O), env[i]? = some o → o ≠ O.no → σ'[i]? = σ[i]?) : Wr Γ F H σ' env ∧ ∀ a, Own σ' env a → Own σ env a := by
  have at_ : ∀ {i : Nat} {a : Addr}, OwnAt σ' env i a → OwnAt σ env i a := fun {i a} ⟨h1, o, h2, h3⟩ => ⟨by rw [← h i o h2 (by intro e; rw [e] at h3; cases h3)]; exact h1, o, h2, h3⟩
  refine ⟨⟨w.sub, by rw [hl, w.len], fun i v o h1 h2 => ?_, fun i j a h1 h2 => w.dis i j a (at_ h1) (at_ h2)⟩, fun a ⟨i, hi⟩ => ⟨i, at_ hi⟩⟩
  by_cases e : o = .no
  · rw [e]; exact .no
  · rw [h i o h2 e] at h1; exact w.rel i v o h1 h2
theorem Wr.wipe {vs : List Nat} (w : Wr Γ F H σ env) (c : Clr vs env) : Wr Γ F H (wipe σ vs) env ∧ ∀ a, Own (L2.wipe σ vs) env a → Own σ env a :=
  w.swap (wipe_length σ vs) fun i o h n => wipe_out fun q => n (c i q o h)
theorem Wr.unwipe {vs : List Nat} (w : Wr Γ F H (L2.wipe σ vs) env) (c : Clr vs env) : Wr Γ F H σ env ∧ ∀ a, Own σ env a → Own (L2.wipe σ vs) env a :=
  w.swap (wipe_length σ vs).symm fun i o h n => (wipe_out fun q => n (c i q o h)).symm
/-- one more thing that is ours -/
def Pl (S : Addr → Prop) (D : Addr) : Addr → Prop := fun a => S a ∨ a = D
theorem Stp.more {S S' : Addr → Prop} {D : Addr} (s : Stp F H S F' H' S') : Stp F H (Pl S D) F' H' (Pl S' D) :=
  ⟨s.sub, fun a o e => (s.new a o e).elim .inl fun z => .inr (z.elim .inl fun q => .inr (.inl q)), fun a o e n => s.keep a o e fun q => n (.inl q), fun a h => h.elim (fun q => (s.own a q).elim (fun z => .inl (.inl z)) .inr) fun q => .inl (.inr q)⟩
/-- a thing of ours that no step touches -/
structure Ours (F H : Hp) (S : Addr → Prop) (D : Addr) (u : HO) : Prop where
  h : H D = some u
  f : F D = none
  n : ¬ S D
theorem Ours.stp {S S' : Addr → Prop} {D : Addr} {u : HO} (o : Ours F H S D u) (s : Stp F H S F' H' S') : Ours F' H' S' D u := by
  refine ⟨s.keep _ _ o.h o.n, ?_, fun q => ?_⟩
  · cases e : F' D with
    | none => rfl
    | some z =>
      rcases s.new _ _ e with q | q | q
      · rw [o.f] at q; cases q
      · rw [o.h] at q; cases q
      · exact absurd q o.n
  · rcases s.own _ q with q | q
    · exact o.n q
    · rw [o.h] at q; cases q
theorem Ours.sub {S S' : Addr → Prop} {D : Addr} {u : HO} (o : Ours F H S D u) (h : ∀ a, S' a → S a) : Ours F H S' D u := ⟨o.h, o.f, fun q => o.n (h _ q)⟩
theorem Ours.put {D : Addr} {u u' : HO} (o : Ours F H (Own σ env) D u) (w : Wr Γ F H σ env) : Wr Γ F (upd H D u') σ env ∧ Ours F (upd H D u') (Own σ env) D u' ∧ Stp F H (Pl (Own σ env) D) F (upd H D u') (Pl (Own σ env) D) := by
  have hs : Sub F (upd H D u') := fun b x e => by
    by_cases q : b = D
    · subst q; rw [o.f] at e; cases e
    · rw [upd_ne q]; exact w.sub _ _ e
  refine ⟨w.mono .refl hs fun a x q e => ⟨?_, (w.ownF q).1⟩, ⟨upd_same, o.f, o.n⟩, ⟨.refl, fun _ _ h => .inl h, fun a x e n => ?_, fun _ h => .inl h⟩⟩
  · by_cases z : a = D
    · subst z; exact absurd q o.n
    · rw [upd_ne z]; exact e
  · rw [upd_ne fun z => n (.inr z)]; exact e
theorem Ours.new {D : Addr} {u : HO} (w : Wr Γ F H σ env) (h : H D = none) : Wr Γ F (upd H D u) σ env ∧ Ours F (upd H D u) (Own σ env) D u ∧ Stp F H (Own σ env) F (upd H D u) (Pl (Own σ env) D) := by
  have hf : F D = none := none_of_sub w.sub h
  have hn : ¬ Own σ env D := fun q => by obtain ⟨_, u, e⟩ := w.ownF q; rw [h] at e; cases e
  have hs : Sub F (upd H D u) := fun b x e => by
    by_cases q : b = D
    · subst q; rw [hf] at e; cases e
    · rw [upd_ne q]; exact w.sub _ _ e
  refine ⟨w.mono .refl hs fun a x q e => ⟨?_, (w.ownF q).1⟩, ⟨upd_same, hf, hn⟩, ⟨.refl, fun _ _ h => .inl h, fun a x e n => ?_, fun a q => q.elim .inl fun z => .inr (by rw [z]; exact h)⟩⟩
  · by_cases z : a = D
    · subst z; exact absurd q hn
    · rw [upd_ne z]; exact e
  · rw [upd_ne fun z => by subst z; rw [h] at e; cases e]; exact e
end
theorem RvL.snoc {Γ : Gm} {F : Hp} {v : V} {d : D} (r : Rv Γ F v d) : ∀ {vs : List V} {ds : List D}, RvL Γ F vs ds → RvL Γ F (vs ++ [v]) (ds ++ [d])
  | _, _, .nil => .cons r .nil
  | _, _, .cons a b => .cons a (b.snoc r)

def lcN (tg : SG) (tt : ST) (te : SE) (vs : List Nat) : List D → List O → Option (List D × List O)
  | [], s => some ([], s)
  | d :: ds, s => match tg d s with
    | none => none
    | some s1 => match tt s1 with
      | some (.ok false s2) => lcN tg tt te vs ds (eraseS vs s2)
      | some (.ok true s2) => (match opd te s2 with
        | some (.ok (.fz y) s3) => (match lcN tg tt te vs ds (eraseS vs s3) with
          | some (l, s4) => some (y :: l, s4)
          | none => none)
        | _ => none)
      | _ => none
def lcS (src : SI) (tg : SG) (tt : ST) (te : SE) (vs : List Nat) : SE := M.bind src fun ds s => if ds.length ≤ sizeLine then (match lcN tg tt te vs ds (eraseS vs s) with
  | some (l, s') => some (.ok (.ow (.lst l)) s')
  | none => none) else none
def E0 : St → XK := fun _ _ _ _ => False
theorem sim_lc {Γ : Gm} {W : St → XK} {wi : TI} {g : TG} {tt : TT} {te : TE} {src : SI} {tg : SG} {ft : ST} {fe : SE} {vs vs' : List Nat} (hi : SimI Γ W wi src) (hg : SimG Γ vs' g tg) (hv : ∀ i ∈ vs', i ∈ vs) (ht : SimT Γ E0 tt ft) (he : SimE Γ E0 te fe) :
    SimE Γ W (tLc wi g tt te vs) (lcS src tg ft fe vs) := by
  intro F H σ env res Q w hf post
  rcases M.bind_some hf with ⟨e, s', h1, rfl⟩ | ⟨ds, s', h1, h2⟩
  · exact hi F H σ env _ _ w h1 post
  · refine hi F H σ env _ _ w h1 fun J F1 H1 w1 it st1 => ?_
    intro Dd hD
    split at h2
    case isFalse => cases h2
    rename_i hz
    cases hl : lcN tg ft fe vs ds (eraseS vs s') with
    | none => rw [hl] at h2; cases h2
    | some p =>
      obtain ⟨tot, se⟩ := p
      rw [hl] at h2
      cases h2
      obtain ⟨w1e, o1e⟩ := w1.erase vs
      obtain ⟨w1w, o1w⟩ := w1e.wipe (eraseS_in vs s')
      obtain ⟨w2, ou2, st2⟩ := Ours.new (u := .lst []) w1w hD
      refine ⟨fun i m H' => i + m = ds.length ∧ ∃ F' env' acc av lr, Wr Γ F' H' (wipe σ vs) env' ∧ Clr vs env' ∧ lcN tg ft fe vs (ds.drop i) env' = some (lr, se) ∧ acc ++ lr = tot ∧ RvL Γ F' av acc ∧ av.length ≤ i ∧ Ours F' H' (Own (wipe σ vs) env') Dd (.lst av) ∧
          Stp F H (Own σ env) F' H' (Pl (Own (wipe σ vs) env') Dd) ∧ Sub F1 F',
        ⟨ds.length, by omega, F1, _, [], [], tot, w2, eraseS_in vs s', by simpa using hl, rfl, .nil, Nat.le_refl _, ou2, (st1.weak fun x h => .inl (o1e x (o1w x h))).trans st2, .refl⟩, ?_⟩
      rintro i m H2 ⟨hm, F2, env2, acc, av, lr, w3, cl, h3, ht3, ra, hla, ou, st3, s2⟩
      obtain ⟨itm, stp⟩ := it F2 H2 s2 w3.sub
      by_cases hlt : i < ds.length
      · have ed : ds.drop i = ds[i] :: ds.drop (i + 1) := List.drop_eq_getElem_cons hlt
        rw [ed] at h3
        obtain ⟨go, yl⟩ := itm i ds[i] (by simp [hlt])
        refine .inr ⟨go, fun H' => ∃ F' env' acc av lr, Wr Γ F' H' (wipe σ vs) env' ∧ Clr vs env' ∧ lcN tg ft fe vs (ds.drop (i + 1)) env' = some (lr, se) ∧ acc ++ lr = tot ∧ RvL Γ F' av acc ∧ av.length ≤ i + 1 ∧ Ours F' H' (Own (wipe σ vs) env') Dd (.lst av) ∧
          Stp F H (Own σ env) F' H' (Pl (Own (wipe σ vs) env') Dd) ∧ Sub F1 F', fun H' h => ⟨m - 1, by omega, by omega, h⟩, fun x H3 y => ?_⟩
        obtain ⟨F3, g3, rx⟩ := yl x H3 y
        have w4 := w3.grI g3
        have sg : Stp F2 H2 (Own (wipe σ vs) env2) F3 H3 (Own (wipe σ vs) env2) := g3.stp
        have ou4 := ou.stp sg
        have st4 := st3.trans sg.more
        unfold lcN at h3
        cases htg : tg ds[i] env2 with
        | none => rw [htg] at h3; cases h3
        | some s1 =>
          simp only [htg] at h3
          refine hg F3 H3 (wipe σ vs) env2 s1 x ds[i] _ w4 rx htg fun σ5 w5 o5 x5 => ?_
          have hw5 : wipe σ5 vs = wipe σ vs := by
            rw [wipe_dx x5 hv, wipe_wipe]
          refine ⟨hw5, ?_⟩
          have ou5 := ou4.sub o5
          have sg5 : Stp F3 H3 (Own (wipe σ vs) env2) F3 H3 (Own σ5 s1) := Stp.refl.weak fun a h => .inl (o5 a h)
          have st5 := st4.trans sg5.more
          -- back to the wiped slots
          have back : ∀ {F' H' : Hp} {s' : List O}, Wr Γ F' H' σ5 s' → Wr Γ F' H' (wipe σ vs) (eraseS vs s') ∧ ∀ a, Own (wipe σ vs) (eraseS vs s') a → Own σ5 s' a := fun {F' H' s'} w' => by
            obtain ⟨a1, a2⟩ := w'.erase vs
            obtain ⟨b1, b2⟩ := a1.wipe (eraseS_in vs s')
            rw [hw5] at b1 b2
            exact ⟨b1, fun a h => a2 a (b2 a h)⟩
          cases htt : ft s1 with
          | none => simp only [htt] at h3; cases h3
          | some rt =>
            simp only [htt] at h3
            cases rt with
            | ex e s => cases h3
            | ok b s6 =>
              refine ht F3 H3 σ5 s1 _ _ w5 htt fun F6 H6 w6 st6 => ?_
              have ou6 := ou5.stp st6
              cases b with
              | false =>
                simp only [Bool.false_eq_true, if_false] at h3 ⊢
                obtain ⟨wb, ob⟩ := back w6
                exact ⟨F6, _, acc, av, lr, wb, eraseS_in vs s6, h3, ht3, ra.mono (g3.sub.trans st6.sub), by omega, ou6.sub ob, (st5.trans st6.more).weak fun a h => .inl (h.elim (fun q => .inl (ob a q)) .inr), (s2.trans g3.sub).trans st6.sub⟩
              | true =>
                simp only [if_true] at h3 ⊢
                cases hee : Ev.opd fe s6 with
                | none => simp only [hee] at h3; cases h3
                | some re =>
                  simp only [hee] at h3
                  cases re with
                  | ex e s => cases h3
                  | ok r s7 =>
                    cases r with
                    | bor j => cases h3
                    | ow o => cases h3
                    | fz yd =>
                      simp only at h3
                      cases hr : lcN tg ft fe vs (ds.drop (i + 1)) (eraseS vs s7) with
                      | none => rw [hr] at h3; cases h3
                      | some pr =>
                        obtain ⟨l, s8⟩ := pr
                        rw [hr] at h3
                        cases h3
                        refine he.opd F6 H6 σ5 s6 _ _ w6 hee fun v F7 H7 w7 r7 st7 => ?_
                        have ou7 := ou6.stp st7
                        refine ⟨av, ou7.h, by omega, ?_⟩
                        obtain ⟨w8, ou8, st8⟩ := ou7.put (u' := .lst (av ++ [v])) w7
                        obtain ⟨wb, ob⟩ := back w8
                        have r7 : Rv Γ F7 v yd := r7
                        exact ⟨F7, _, acc ++ [yd], av ++ [v], l, wb, eraseS_in vs s7, hr, by rw [← ht3]; simp, (ra.mono ((g3.sub.trans st6.sub).trans st7.sub)).snoc r7, by simp; omega, ou8.sub ob,
                          ((((st5.trans st6.more).trans st7.more).trans st8).weak fun a h => .inl (h.elim (fun q => .inl (ob a q)) .inr)), ((s2.trans g3.sub).trans st6.sub).trans st7.sub⟩
      · have e : i = ds.length := by omega
        subst e
        rw [List.drop_length] at h3
        cases h3
        obtain ⟨wu, ouu⟩ := w3.unwipe cl
        refine .inl ⟨stp, post _ F2 H2 wu ⟨.lst ou.h (by omega) (by rw [← ht3, List.append_nil]; exact ra) ou.f, rfl, fun a e q => ?_⟩ (st3.weak fun a h => .inl ?_)⟩
        · cases e; exact ou.n (ouu _ q)
        · rcases h with h | h
          · exact .inl (ouu a h)
          · cases h; exact .inr rfl
/-! ### the block -/
/-- the semantic form of a target -/
def tG (Γ : Gm) (vs : List Nat) (f : SG) : TG := fun v σ H Q => ∃ F env env' d, Wr Γ F H σ env ∧ Rv Γ F v d ∧ f d env = some env' ∧ ∀ σ', Wr Γ F H σ' env' → (∀ a, Own σ' env' a → Own σ env a) → Dx vs σ σ' → Q σ' H
theorem PG.weak {X : Cx} {e : Expr} {t u : TG} (h : PG X e t) (w : ∀ v σ H R, u v σ H R → t v σ H R) : PG X e u := ⟨fun pins s σ H v x R I r q => h.run pins s σ H v x R I r (w v σ H R q)⟩
theorem EG.pg {X : Cx} {Γ : Gm} {vs : List Nat} {e : Expr} {f : SG} (h : EG X Γ vs e f) : PG X e (tG Γ vs f) := PG.weak h.choose_spec.1 fun v σ H Q ⟨F, env, env', d, w, r, e, p⟩ => h.choose_spec.2 F H σ env env' v d Q w r e p
theorem sim_tG {Γ : Gm} {vs : List Nat} {f : SG} : SimG Γ vs (tG Γ vs f) f := fun F H σ env env' v d Q w r e p => ⟨F, env, env', d, w, r, e, p⟩
def ETs (X : Cx) (Γ : Gm) (W : St → XK) (es : List Expr) (f : ST) : Prop := ∃ t, PTs X es t ∧ SimT Γ W t f
def tYesS : ST := M.pure true
section
variable {X : Cx} {Γ : Gm} {W : St → XK} {CXv : CXT} {k : Nat} {pos p tpos : Pos} {e : Expr} {f : ST}
theorem ets_nil : ETs X Γ W [] tYesS := ⟨_, pts_nil, fun F H σ env res Q w hf post => by cases hf; exact post F H w .refl⟩
theorem ets_one (h : ET X Γ W e f) : ETs X Γ W [e] f := ⟨_, pts_one h.choose_spec.1, h.choose_spec.2⟩
theorem PTs.weak {es : List Expr} {t u : TT} (h : PTs X es t) (w : ∀ σ H R, u σ H R → t σ H R) : PTs X es u := ⟨fun pins s σ H R I q => h.run pins s σ H R I (w σ H R q)⟩
theorem ETs.pt {es : List Expr} (h : ETs X Γ W es f) : PTs X es (tT Γ W f) := PTs.weak h.choose_spec.1 fun σ H Q ⟨F, env, res, w, e, p⟩ => h.choose_spec.2 F H σ env res Q w e p
theorem Ok.blk (c : Ok X Γ W CXv k) (s : Shared) (H : Hp) (scope : Scope) (cenv : Env) (fp : List Addr) : Ok (X.blk s H scope cenv fp) Γ E0 CXv k :=
  ⟨c.K, c.hr, c.calm, c.nd, PassesOwn.never, fun σ pins H s e s' I q => c.no _ _ _ _ _ q, c.no⟩
theorem ee_lc (c : Ok X Γ W CXv k) (own : List (Str × Nat)) {elt tg iter : Expr} {ifs : List Expr} {scope : Scope} {src : SI} {g : SG} {tt : ST} {te : SE} {vs' : List Nat} (hi : EI X Γ W tg iter src)
    (hg : ∀ (s : Shared) (H : Hp) (C : Addr) (cl : List (Str × Addr)) (fp : List Addr), Ok (X.blk s H scope (compEnvC scope cl C X.env) fp) Γ E0 CXv k → EG (X.blk s H scope (compEnvC scope cl C X.env) fp) Γ vs' tg g)
    (ht : ∀ (s : Shared) (H : Hp) (C : Addr) (cl : List (Str × Addr)) (fp : List Addr), Ok (X.blk s H scope (compEnvC scope cl C X.env) fp) Γ E0 CXv k → ETs (X.blk s H scope (compEnvC scope cl C X.env) fp) Γ E0 ifs tt)
    (he : ∀ (s : Shared) (H : Hp) (C : Addr) (cl : List (Str × Addr)) (fp : List Addr), Ok (X.blk s H scope (compEnvC scope cl C X.env) fp) Γ E0 CXv k → EE (X.blk s H scope (compEnvC scope cl C X.env) fp) Γ E0 elt te)
    (ok : blkC X.N X.env.scope scope own = true := by rfl) (hv : ∀ i ∈ vs', i ∈ own.map (·.2) := by decide) (hs : ∀ x, foldedSetIterable iter X.env x = pure x := by intro _; rfl) :
    EE X Γ W (.ListComp elt [⟨tg, iter, ifs, 0⟩] scope pos) (lcS src g tt te (own.map (·.2))) :=
  ⟨_, pe_lc c.calm c.nd hi.pi (blkOk_by ok) (fun s H C cl fp => (hg s H C cl fp (c.blk s H scope _ fp)).pg) (fun s H C cl fp => (ht s H C cl fp (c.blk s H scope _ fp)).pt) (fun s H C cl fp => (he s H C cl fp (c.blk s H scope _ fp)).pe) hs, sim_lc sim_tI sim_tG hv sim_tT sim_tE⟩
end
end Ev
-- EvK
set_option Elab.async false
set_option linter.all false
set_option maxRecDepth 100000
set_option maxHeartbeats 2000000
namespace Ev
open PySem PySem.Spec L2 HT ClX
open PyProof.Rows hiding St

/-! ## what changes a slot's own object -/
section
variable {Γ : Gm} {F H F' H' : Hp} {σ : St} {env : List O}
theorem Wr.write {i : Nat} {a : Addr} {o o' : O} {u : HO} (w : Wr Γ F H σ env) (hi : σ[i]? = some (some (.ref a))) (he : env[i]? = some o) (ho : o.own = true) (r : OR Γ F (upd H a u) (some (.ref a)) o') (ho' : o'.own = true) :
    Wr Γ F (upd H a u) σ (env.set i o') ∧ Stp F H (Own σ env) F (upd H a u) (Own σ (env.set i o')) := by
  have oi : OwnAt σ env i a := ⟨hi, o, he, ho⟩
  have fa := (w.ownF ⟨i, oi⟩).1
  have hs : Sub F (upd H a u) := fun b x e => by
    by_cases q : b = a
    · subst q; rw [fa] at e; cases e
    · rw [upd_ne q]; exact w.sub _ _ e
  refine ⟨w.gen hi .refl hs (fun j b x n q hx => ⟨?_, (w.ownF ⟨j, q⟩).1⟩) r fun b _ e j n q => ?_, ⟨.refl, fun _ _ h => .inl h, fun b x hx n => ?_, fun b q => .inl (q.set_sub fun _ => ⟨o, he, ho⟩)⟩⟩
  · by_cases e : b = a
    · subst e; exact absurd (w.dis _ _ _ q oi) n
    · rw [upd_ne e]; exact hx
  · cases e; exact n (w.dis _ _ _ q oi)
  · rw [upd_ne fun e => n (by rw [e]; exact ⟨i, oi⟩)]; exact hx
theorem Wr.slot {i : Nat} {o : O} (w : Wr Γ F H σ env) (he : env[i]? = some o) (ho : o.own = true) : ∃ a, σ[i]? = some (some (.ref a)) ∧ OR Γ F H (some (.ref a)) o := by
  obtain ⟨v, hv, r⟩ := w.get he
  obtain ⟨a, u, rfl, _, _⟩ := r.addr ho
  exact ⟨a, hv, r⟩
end

/-- a name in its slot -/
structure Vr (X : Cx) (i : Nat) (x : Str) : Prop where
  hN : X.N[i]? = some x
  hv : Vis X.env.scope x
  hd : (x == ("__debug__" : Str)) = false
  hcd : (x == ("__classdict__" : Str)) = false
theorem Vr.pe {X : Cx} {i : Nat} {x : Str} {pos : Pos} (h : Vr X i x) : PE X (.Name x pos) (tVar i) := pe_var h.hN h.hv h.hd h.hcd

/-! ### methods of a list that is ours -/
def PM (Γ : Gm) (r : V → List V → Hp → VK → Prop) (φ : List D → List D → Option (List D × D)) : Prop :=
  ∀ (F H : Hp) (l : Addr) (vs xs : List V) (ds es ds' : List D) (d : D) (Q : VK), Sub F H → H l = some (.lst vs) → vs.length ≤ sizeLine → RvL Γ F vs ds → RvL Γ F xs es → φ ds es = some (ds', d) →
    (∀ v vs', RvL Γ F vs' ds' → vs'.length ≤ sizeLine → Rv Γ F v d → Q v (upd H l (.lst vs'))) → r (.ref l) xs H Q
def mutL (φ : List D → List D → Option (List D × D)) (i : Nat) (fa : SA) : SE := fun s => match s[i]? with
  | some (.lst _) => M.bind fa (fun rs s1 => match fzs rs, s1[i]? with
    | some es, some (.lst ds) => (match φ ds es with
      | some (ds', d) => some (.ok (.fz d) (s1.set i (.lst ds')))
      | none => none)
    | _, _ => none) s
  | _ => none
theorem sim_mutL {Γ : Gm} {W : St → XK} {i : Nat} {t : TA} {fa : SA} {r : V → List V → Hp → VK → Prop} {φ : List D → List D → Option (List D × D)} (hr : PM Γ r φ) (h : SimA Γ W t fa) : SimE Γ W (tBM Γ.K "list" r (tVar i) t) (mutL φ i fa) := by
  intro F H σ env res Q w hf post
  unfold mutL at hf
  split at hf
  case h_2 => cases hf
  rename_i ds0 he
  obtain ⟨a, ha, ra⟩ := w.slot he rfl
  refine ⟨_, ha, .inl ⟨rfl, ?_⟩, ?_⟩
  · cases ra with | lst h z r n => exact ⟨_, SqL.of h⟩
  rcases M.bind_some hf with ⟨e, s', h1, rfl⟩ | ⟨rs, s1, h1, h2⟩
  · exact h F H σ env _ _ w h1 post
  · refine h F H σ env _ _ w h1 fun vs F1 H1 w1 r1 st1 => ?_
    cases hz : fzs rs with
    | none => simp only [hz] at h2; cases h2
    | some es =>
      cases hs : s1[i]? with
      | none => simp only [hz, hs] at h2; cases h2
      | some o =>
        simp only [hz, hs] at h2
        cases o with
        | lst ds =>
          simp only at h2
          cases hp : φ ds es with
          | none => simp only [hp] at h2; cases h2
          | some p =>
            obtain ⟨ds', d⟩ := p
            simp only [hp] at h2
            cases h2
            obtain ⟨b, hb, rb⟩ := w1.slot hs rfl
            have : b = a := by rw [ha] at hb; cases hb; rfl
            subst this
            cases rb with
            | lst h z rl n =>
              refine hr F1 H1 b _ vs ds es ds' d Q w1.sub h z rl (r1.fz hz) hp fun v vs' rv' z' rv => ?_
              obtain ⟨w2, st2⟩ := w1.write (u := .lst vs') (o' := .lst ds') hb hs rfl (.lst upd_same z' rv' n) rfl
              exact post v F1 _ w2 rv (st1.trans st2)
        | _ => cases h2
def appD (ds es : List D) : Option (List D × D) := match es with
  | [d] => if ds.length < sizeLine then some (ds ++ [d], .non) else none
  | _ => none
def popD (ds es : List D) : Option (List D × D) := match es with
  | [] => ds[ds.length - 1]?.map fun d => (ds.dropLast, d)
  | _ => none
def popAtD (ds es : List D) : Option (List D × D) := match es with
  | [.int i] => if -(2 ^ 63) ≤ i ∧ i < 2 ^ 63 then (seqIndex? i ds.length).bind fun k => ds[k]?.map fun d => (ds.eraseIdx k, d) else none
  | _ => none
def insD (ds es : List D) : Option (List D × D) := match es with
  | [.int i, d] => if ds.length < sizeLine ∧ 0 ≤ i ∧ i < 2 ^ 63 then some (ds.take i.toNat ++ [d] ++ ds.drop i.toNat, .non) else none
  | _ => none
section
variable {Γ : Gm}
theorem RvL.one {F : Hp} {xs : List V} {d : D} (h : RvL Γ F xs [d]) : ∃ x, xs = [x] ∧ Rv Γ F x d := by
  cases h with | cons a b => cases b; exact ⟨_, rfl, a⟩
theorem RvL.two {F : Hp} {xs : List V} {d e : D} (h : RvL Γ F xs [d, e]) : ∃ x y, xs = [x, y] ∧ Rv Γ F x d ∧ Rv Γ F y e := by
  cases h with | cons a b => obtain ⟨y, rfl, q⟩ := b.one; exact ⟨_, _, rfl, a, q⟩
theorem RvL.app {F : Hp} {vs' : List V} {ds' : List D} (r : RvL Γ F vs' ds') : ∀ {vs : List V} {ds : List D}, RvL Γ F vs ds → RvL Γ F (vs ++ vs') (ds ++ ds')
  | _, _, .nil => r
  | _, _, .cons a b => RvL.cons a (RvL.app r b)
theorem RvL.take' {F : Hp} : ∀ {vs : List V} {ds : List D} (k : Nat), RvL Γ F vs ds → RvL Γ F (vs.take k) (ds.take k)
  | _, _, 0, r => by simp only [List.take_zero]; exact .nil
  | _, _, _ + 1, .nil => .nil
  | _, _, k + 1, .cons a b => .cons a (b.take' k)
theorem RvL.drop' {F : Hp} : ∀ {vs : List V} {ds : List D} (k : Nat), RvL Γ F vs ds → RvL Γ F (vs.drop k) (ds.drop k)
  | _, _, 0, r => r
  | _, _, _ + 1, .nil => .nil
  | _, _, k + 1, .cons a b => b.drop' k
theorem p_app : PM Γ rAppend appD := by
  intro F H l vs xs ds es ds' d Q s h z rl rx hp q
  unfold appD at hp
  split at hp
  · split at hp
    · rename_i e hl
      cases hp
      obtain ⟨x, rfl, rx1⟩ := rx.one
      have := rl.length
      exact ⟨l, vs, x, rfl, rfl, h, by omega, q .non _ (RvL.snoc rx1 rl) (by simp; omega) .non⟩
    · cases hp
  · cases hp
theorem p_pop : PM Γ rPop popD := by
  intro F H l vs xs ds es ds' d Q s h z rl rx hp q
  unfold popD at hp
  split at hp
  · obtain ⟨e, he, hp⟩ := Option.map_eq_some_iff.mp hp
    cases hp
    cases rx
    rw [← rl.length] at he
    obtain ⟨v, hv, rv⟩ := rl.get he
    exact ⟨l, vs, v, rfl, rfl, h, hv, q v _ rl.dropLast (by rw [List.length_dropLast]; omega) rv⟩
  · cases hp
theorem p_popAt : PM Γ rPopAt popAtD := by
  intro F H l vs xs ds es ds' d Q s h z rl rx hp q
  unfold popAtD at hp
  split at hp
  · split at hp
    · rename_i i hi
      obtain ⟨k, hk, hp⟩ := Option.bind_eq_some_iff.mp hp
      obtain ⟨e, he, hp⟩ := Option.map_eq_some_iff.mp hp
      cases hp
      obtain ⟨x, rfl, rx1⟩ := rx.one
      cases rx1
      obtain ⟨v, hv, rv⟩ := rl.get he
      exact ⟨l, vs, i, k, v, rfl, rfl, h, hi.1, hi.2, by rw [rl.length]; exact hk, hv, q v _ (rl.eraseIdx k) (Nat.le_trans (List.length_eraseIdx_le ..) z) rv⟩
    · cases hp
  · cases hp
theorem p_ins : PM Γ (fun x vs H Q => ∃ (l : Addr) (xs : List V) (i : Int) (y : V), x = .ref l ∧ vs = [.int i, y] ∧ H l = some (.lst xs) ∧ xs.length < sizeLine ∧ 0 ≤ i ∧ i < 2 ^ 63 ∧
    Q .non (upd H l (.lst (xs.take i.toNat ++ [y] ++ xs.drop i.toNat)))) insD := by
  intro F H l vs xs ds es ds' d Q s h z rl rx hp q
  unfold insD at hp
  split at hp
  · split at hp
    · rename_i i e hi
      cases hp
      obtain ⟨x, y, rfl, rx1, ry⟩ := rx.two
      cases rx1
      have := rl.length
      refine ⟨l, vs, i, y, rfl, rfl, h, by omega, hi.2.1, hi.2.2, q .non _ (RvL.app (rl.drop' _) (RvL.app (.cons ry .nil) (rl.take' _))) ?_ .non⟩
      simp only [List.length_append, List.length_take, List.length_drop, List.length_cons, List.length_nil]; omega
    · cases hp
  · cases hp
end
section
variable {X : Cx} {Γ : Gm} {W : St → XK} {CXv : CXT} {k : Nat} {pos pos' p apos : Pos} {e : Expr} {fa : SA} {f : SE} {x : Str}
theorem ee_app (c : Ok X Γ W CXv k) (i : Nat) (ha : EA X Γ W [e] fa) (hx : Vr X i x := by exact ⟨rfl, by first | exact Or.inl rfl | exact Or.inr (Or.inl rfl) | exact Or.inr (Or.inr rfl), by decide, by decide⟩)
    (hfew : ((backTo pos (starEach [e] X.env)).all (fun x => !x.1) && (backToKw pos (keywordEach [] X.env)).all (fun x => x.1.isSome)
      && decide (([e] : List Expr).length + ([] : List Keyword).length + (if ([] : List Keyword).isEmpty then 0 else 1) < 30)) = true := by rfl)
    (hline : (apos.endLine == pos.line) = true := by rfl) (hs : starEach [e] X.env = (false, eval e X.env) :: starEach [] X.env := by rfl) : EE X Γ W (.Call (.Attribute (.Name x p) "append" apos) [e] [] pos) (mutL appD i fa) :=
  ⟨_, pe_bm F.plainAttrs_list F.slot_list_append F.type_list_append mt_append hx.pe ha.choose_spec.1 rfl hfew hline hs rfl, by rw [c.K]; exact sim_mutL p_app ha.choose_spec.2⟩
theorem ee_pop (c : Ok X Γ W CXv k) (i : Nat) (hx : Vr X i x := by exact ⟨rfl, by first | exact Or.inl rfl | exact Or.inr (Or.inl rfl) | exact Or.inr (Or.inr rfl), by decide, by decide⟩)
    (hline : (apos.endLine == pos.line) = true := by rfl) : EE X Γ W (.Call (.Attribute (.Name x p) "pop" apos) [] [] pos) (mutL popD i aNil) :=
  ⟨_, PE.weak (pe_bm0 F.plainAttrs_list F.slot_list_pop F.type_list_pop mt_pop hx.pe rfl hline) fun σ H Q q => q, by
    rw [c.K]
    intro F H σ env res Q w hf post
    refine sim_mutL (W := W) (i := i) (t := fun σ H Q => Q [] H) (p_pop (Γ := Γ)) (fun F H σ env res Q w hf post => by cases hf; exact post [] F H w .nil .refl) F H σ env res Q w hf post⟩
theorem ee_popAt (c : Ok X Γ W CXv k) (i : Nat) (ha : EA X Γ W [e] fa) (hx : Vr X i x := by exact ⟨rfl, by first | exact Or.inl rfl | exact Or.inr (Or.inl rfl) | exact Or.inr (Or.inr rfl), by decide, by decide⟩)
    (hfew : ((backTo pos (starEach [e] X.env)).all (fun x => !x.1) && (backToKw pos (keywordEach [] X.env)).all (fun x => x.1.isSome)
      && decide (([e] : List Expr).length + ([] : List Keyword).length + (if ([] : List Keyword).isEmpty then 0 else 1) < 30)) = true := by rfl)
    (hline : (apos.endLine == pos.line) = true := by rfl) (hs : starEach [e] X.env = (false, eval e X.env) :: starEach [] X.env := by rfl) : EE X Γ W (.Call (.Attribute (.Name x p) "pop" apos) [e] [] pos) (mutL popAtD i fa) :=
  ⟨_, pe_bm F.plainAttrs_list F.slot_list_pop F.type_list_pop mt_popAt hx.pe ha.choose_spec.1 rfl hfew hline hs rfl, by rw [c.K]; exact sim_mutL p_popAt ha.choose_spec.2⟩
end
end Ev
-- EvL
set_option Elab.async false
set_option linter.all false
set_option maxRecDepth 100000
set_option maxHeartbeats 2000000
namespace Ev
open PySem PySem.Spec L2 HT ClX
open PyProof.Rows hiding St

/-! ## stores -/
section
variable {Γ : Gm}
theorem RvK.any {F : Hp} : ∀ {kvs : List (Key × V)} {ds : List (D × D)} (k : Key), RvK Γ F kvs ds → (kvs.any fun p => decide (p.1 = k)) = ds.any fun p => decide (p.1 = kD k)
  | _, _, _, .nil => rfl
  | _, _, k, .cons (k := k0) a b => by
    simp only [List.any_cons]
    rw [b.any k]
    congr 1
    by_cases e : k0 = k
    · subst e; simp
    · rw [decide_eq_false e, decide_eq_false fun z => e (kD_inj z)]
theorem RvK.rep {F : Hp} {v : V} {d : D} (r : Rv Γ F v d) : ∀ {kvs : List (Key × V)} {ds : List (D × D)} (k : Key), RvK Γ F kvs ds → RvK Γ F (kvs.map fun p => if p.1 = k then (p.1, v) else p) (ds.map fun p => if p.1 = kD k then (p.1, d) else p)
  | _, _, _, .nil => .nil
  | _, _, k, .cons (k := k0) a b => by
    simp only [List.map_cons]
    by_cases e : k0 = k
    · subst e; rw [if_pos rfl, if_pos rfl]; exact .cons r (b.rep r k0)
    · rw [if_neg e, if_neg fun z => e (kD_inj z)]; exact .cons a (b.rep r k)
theorem RvK.app {F : Hp} {v : V} {d : D} (k : Key) (r : Rv Γ F v d) : ∀ {kvs : List (Key × V)} {ds : List (D × D)}, RvK Γ F kvs ds → RvK Γ F (kvs ++ [(k, v)]) (ds ++ [(kD k, d)])
  | _, _, .nil => .cons r .nil
  | _, _, .cons a b => .cons a (RvK.app k r b)
theorem RvK.put {F : Hp} {v : V} {d : D} {kvs : List (Key × V)} {ds : List (D × D)} (h : RvK Γ F kvs ds) (k : Key) (r : Rv Γ F v d) : RvK Γ F (putK kvs k v) (dput ds (kD k) d) := by
  unfold putK dput
  rw [h.any k]
  split
  · exact h.rep r k
  · exact .app k r h
theorem tk_inj {a b : List Key} (h : D.tup (a.map kD) = D.tup (b.map kD)) : a = b := by
  injection h with h
  induction a generalizing b with
  | nil => cases b with | nil => rfl | cons _ _ => cases h
  | cons x xs ih => cases b with
    | nil => cases h
    | cons y ys => simp only [List.map_cons, List.cons.injEq] at h; rw [kD_inj h.1, ih h.2]
theorem RvT.any {F : Hp} : ∀ {kvs : List (List Key × V)} {ds : List (D × D)} (k : List Key), RvT Γ F kvs ds → (kvs.any fun p => decide (p.1 = k)) = ds.any fun p => decide (p.1 = .tup (k.map kD))
  | _, _, _, .nil => rfl
  | _, _, k, .cons (k := k0) a b => by
    simp only [List.any_cons]
    rw [b.any k]
    congr 1
    by_cases e : k0 = k
    · subst e; simp
    · rw [decide_eq_false e, decide_eq_false fun z => e (tk_inj z)]
theorem RvT.rep {F : Hp} {v : V} {d : D} (r : Rv Γ F v d) : ∀ {kvs : List (List Key × V)} {ds : List (D × D)} (k : List Key), RvT Γ F kvs ds → RvT Γ F (kvs.map fun p => if p.1 = k then (p.1, v) else p) (ds.map fun p => if p.1 = .tup (k.map kD) then (p.1, d) else p)
  | _, _, _, .nil => .nil
  | _, _, k, .cons (k := k0) a b => by
    simp only [List.map_cons]
    by_cases e : k0 = k
    · subst e; rw [if_pos rfl, if_pos rfl]; exact .cons r (b.rep r k0)
    · rw [if_neg e, if_neg fun z => e (tk_inj z)]; exact .cons a (b.rep r k)
theorem RvT.app {F : Hp} {v : V} {d : D} (k : List Key) (r : Rv Γ F v d) : ∀ {kvs : List (List Key × V)} {ds : List (D × D)}, RvT Γ F kvs ds → RvT Γ F (kvs ++ [(k, v)]) (ds ++ [(.tup (k.map kD), d)])
  | _, _, .nil => .cons r .nil
  | _, _, .cons a b => .cons a (RvT.app k r b)
theorem RvT.put {F : Hp} {v : V} {d : D} {kvs : List (List Key × V)} {ds : List (D × D)} (h : RvT Γ F kvs ds) (k : List Key) (r : Rv Γ F v d) : RvT Γ F (putK kvs k v) (dput ds (.tup (k.map kD)) d) := by
  unfold putK dput
  rw [h.any k]
  split
  · exact h.rep r k
  · exact .app k r h
end
/-- o[x] = v -/
def putD : O → D → D → Option O
  | .lst ds, .int k, v => (ixN ds.length k).map fun j => .lst (ds.set j v)
  | .dct t kvs, x, v => if keyOk t x = true ∧ kvs.length < sizeLine then some (.dct t (dput kvs x v)) else none
  | _, _, _ => none
def rSetU : TSet := fun o i v H Q => rSetL o i v H Q ∨ rSetD o i v H Q
theorem set_U {X : Cx} (hu : X.A.units + 1 < cLine) : PSet X rSetU := fun pins s σ H o i v ov iv u Q I ro ri rv h => h.elim (set_list pins s σ H o i v ov iv u Q I ro ri rv) (set_dict hu pins s σ H o i v ov iv u Q I ro ri rv)
def ownS (s : List O) (i : Nat) : Bool := match s[i]? with
  | some o => o.own
  | none => false
def putS (i : Nat) (fx fv : SE) : SS := M.bind (opd fv) fun r s1 => if ownS s1 i = true then M.bind (opd fx) (fun q s => match r, q, s[i]? with
  | .fz v, .fz x, some o => (match putD o x v with
    | some o' => some (.ok .nx (s.set i o'))
    | none => none)
  | _, _, _ => none) s1 else none
theorem ownS_some {s : List O} {i : Nat} (h : ownS s i = true) : ∃ o, s[i]? = some o ∧ o.own = true := by
  unfold ownS at h
  split at h
  · exact ⟨_, by assumption, h⟩
  · cases h
theorem OR.put {Γ : Gm} {F H : Hp} {a : Addr} {o o' : O} {x v : V} {dx dv : D} {Q : Hp → Prop} (s : Sub F H) (r : OR Γ F H (some (.ref a)) o) (rx : Rv Γ F x dx) (rv : Rv Γ F v dv) (h : putD o dx dv = some o')
    (q : ∀ u, OR Γ F (upd H a u) (some (.ref a)) o' → o.own = true → o'.own = true → Q (upd H a u)) : rSetU (.ref a) x v H Q := by
  unfold putD at h
  split at h
  · obtain ⟨j, hj, rfl⟩ := Option.map_eq_some_iff.mp h
    cases rx
    cases r with
    | lst h z r n =>
      refine .inl ⟨a, _, _, j, rfl, rfl, h, by rw [r.length]; exact hj, q _ (.lst upd_same (by rw [List.length_set]; exact z) (r.set rv j) n) rfl rfl⟩
  · split at h
    · rename_i hk
      cases h
      rename_i t kvs _ _ _
      cases r with
      | dK h r n =>
        obtain ⟨key, rfl⟩ : ∃ key, dx = kD key := by
          cases dx with
          | int i => exact ⟨.inl i, rfl⟩
          | str i => exact ⟨.inr i, rfl⟩
          | _ => simp [keyOk] at hk
        have ex : x = kV key := rx.key
        subst ex
        exact .inr ⟨a, _, rfl, .k h (by rw [r.length]; exact hk.2), q _ (.dK upd_same (r.put key rv) n) rfl rfl⟩
      | dT h r n =>
        obtain ⟨xs, rfl⟩ : ∃ xs, dx = .tup xs := by
          cases dx with
          | tup i => exact ⟨i, rfl⟩
          | _ => simp [keyOk] at hk
        obtain ⟨ks, hks⟩ : ∃ ks, ksOf xs = some ks := by
          simp [keyOk] at hk
          exact Option.isSome_iff_exists.mp hk.1
        have := ksOf_some hks
        subst this
        cases rx with
        | tup hb _ rl =>
          have := rl.keys
          subst this
          exact .inr ⟨a, _, rfl, .t h (s _ _ hb) (by rw [r.length]; exact hk.2), q _ (.dT upd_same (r.put ks rv) n) rfl rfl⟩
    · cases h
  · cases h
theorem sim_put {Γ : Gm} {W : St → XK} {fx : List Nat} {i : Nat} {tx tv : TE} {ex ev : SE} (hv : SimE Γ W tv ev) (hx : SimE Γ W tx ex) : SimS Γ W fx (tAsg tv (gSub (tVar i) tx rSetU)) (putS i ex ev) := by
  intro F H σ env res D w hf post
  rcases M.bind_some hf with ⟨e, s', h1, rfl⟩ | ⟨r, s', h1, h2⟩
  · exact hv.opd F H σ env _ _ w h1 post.exE
  refine hv.opd F H σ env _ _ w h1 fun v F1 H1 w1 r1 st1 => ?_
  have st1 := RR.stp st1
  split at h2
  case isFalse => cases h2
  rename_i ho
  obtain ⟨o1, e1, o1o⟩ := ownS_some ho
  obtain ⟨a, ha, _⟩ := w1.slot e1 o1o
  refine ⟨_, ha, ?_⟩
  rcases M.bind_some h2 with ⟨e, s2, h3, rfl⟩ | ⟨q, s2, h3, h4⟩
  · exact hx.opd F1 H1 σ s' _ _ w1 h3 (PostS.trans st1 .refl post).exE
  · refine hx.opd F1 H1 σ s' _ _ w1 h3 fun x F2 H2 w2 r2 st2 => ?_
    have st2 := RR.stp st2
    split at h4
    · rename_i vd xd o hs
      split at h4
      · rename_i o' hp
        cases h4
        have hoo : o.own = true := by cases o <;> simp [putD] at hp ⊢ <;> rfl
        obtain ⟨b, hb, rb⟩ := w2.slot hs hoo
        have : b = a := by rw [ha] at hb; cases hb; rfl
        subst this
        have r1 : Rv Γ F1 v vd := r1
        have r2 : Rv Γ F2 x xd := r2
        refine rb.put w2.sub r2 (r1.mono st2.sub) hp fun u ru h1 h2 => ?_
        obtain ⟨w3, st3⟩ := w2.write hb hs h1 ru h2
        exact post σ F2 _ w3 ((st1.trans st2).trans st3) .refl
      · cases h4
    · cases h4
/-- the slot's field -/
def fput (f : String) (v : D) : List (String × D) → List (String × D)
  | [] => [(f, v)]
  | (g, x) :: r => if g = f then (g, v) :: r else (g, x) :: fput f v r
def fldS (i : Nat) (c f : String) (fe : SE) : SS := M.bind (opd fe) fun r s => match r, s[i]? with
  | .fz v, some (.ins c' fs) => if c' = c ∧ fs.length < 1000 then some (.ok .nx (s.set i (.ins c (fput f v fs)))) else none
  | _, _ => none
section
variable {Γ : Gm}
theorem RvF.put {F : Hp} {v : V} {d : D} (f : String) (r : Rv Γ F v d) : ∀ {fvs : List (Str × V)} {fs : List (String × D)}, RvF Γ F fvs fs → RvF Γ F (putF (f : Str) v fvs) (fput f d fs)
  | _, _, .nil => .cons r .nil
  | _, _, .cons (f := g) a b => by
    unfold putF fput
    by_cases e : g = f
    · subst e; rw [if_pos rfl, if_pos rfl]; exact .cons r b
    · rw [if_neg fun z => e (ofString_inj z), if_neg e]; exact .cons a (RvF.put f r b)
theorem fput_names (f : String) (v : D) : ∀ (fs : List (String × D)) (g : String), g ∈ (fput f v fs).map (fun p => p.1) → g = f ∨ g ∈ fs.map (fun p => p.1)
  | [], g, h => by simp [fput] at h; exact .inl h
  | (g0, x) :: r, g, h => by
    unfold fput at h
    split at h
    · rename_i e; subst e; exact .inr h
    · simp only [List.map_cons, List.mem_cons] at h ⊢
      rcases h with h | h
      · exact .inr (.inl h)
      · rcases fput_names f v r g h with h | h
        · exact .inl h
        · exact .inr (.inr h)
theorem sim_fld {W : St → XK} {fx : List Nat} {i : Nat} {c f : String} {tv : TE} {ev : SE} (hn : NoAttr Γ.K (Γ.cls c) (f : Str)) (hv : SimE Γ W tv ev) : SimS Γ W fx (sFld Γ.K (tVar i) tv (f : Str)) (fldS i c f ev) := by
  intro F H σ env res D w hf post
  rcases M.bind_some hf with ⟨e, s', h1, rfl⟩ | ⟨r, s', h1, h2⟩
  · exact hv.opd F H σ env _ _ w h1 post.exE
  refine hv.opd F H σ env _ _ w h1 fun v F1 H1 w1 r1 st1 => ?_
  have st1 := RR.stp st1
  split at h2
  · rename_i d c' fs hs
    split at h2
    · rename_i hc
      obtain ⟨rfl, hl⟩ := hc
      cases h2
      obtain ⟨a, ha, ra⟩ := w1.slot hs rfl
      cases ra with
      | ins h r ok n =>
        have r1 : Rv Γ F1 v d := r1
        have ok' : InsOk Γ c' (fput f d fs) := ⟨ok.1, fun g hg => by
          rcases fput_names f d fs g hg with rfl | h
          · exact hn
          · exact ok.2 g h⟩
        obtain ⟨w2, st2⟩ := w1.write (u := .ins (Γ.cls c') _ (putF (f : Str) v _)) (o' := .ins c' (fput f d fs)) ha hs rfl (.ins upd_same (r.put f r1) ok' n) rfl
        exact ⟨_, ha, a, _, _, _, rfl, h, ok.1, hn, by rw [r.length]; exact hl, post σ F1 _ w2 (st1.trans st2) .refl⟩
    · cases h2
  · cases h2
end
section
variable {X : Cx} {Γ : Gm} {W : St → XK} {fx vs : List Nat} {CXv : CXT} {k : Nat} {pos p tpos : Pos} {e ix tg : Expr} {fe fi : SE} {g : SG} {x : Str}
theorem es_put (c : Ok X Γ W CXv k) (i : Nat) (hi : EE X Γ W ix fi) (he : EE X Γ W e fe) (hx : Vr X i x := by exact ⟨rfl, by first | exact Or.inl rfl | exact Or.inr (Or.inl rfl) | exact Or.inr (Or.inr rfl), by decide, by decide⟩)
    (hs : swapsWithSole [.Subscript (.Name x p) ix tpos] e pos.line X.env = pure false := by rfl) (hw : swappedStores [.Subscript (.Name x p) ix tpos] e X.env = pure none := by rfl)
    (h1 : (assignEach [.Subscript (.Name x p) ix tpos] X.env).map (·.2) = [assign (.Subscript (.Name x p) ix tpos) X.env] := by rfl)
    (ha : ∀ v, assign (.Subscript (.Name x p) ix tpos) X.env v = (do
      let ov ← holding [v] (eval (.Name x p) X.env)
      let iv ← holding [v, ov] (eval ix X.env)
      standAt tpos
      holding [v, ov, iv] (setItem ov iv v)
      release [v, ov, iv] []) := by intro _; rfl) : ES X Γ W fx (.Assign [.Subscript (.Name x p) ix tpos] e pos) (putS i fi fe) :=
  ⟨_, ps_asg he.choose_spec.1 (pg_sub hx.pe hi.choose_spec.1 (set_U c.h1) ha) hs hw h1, sim_put he.choose_spec.2 hi.choose_spec.2⟩
theorem es_fld (c : Ok X Γ W CXv k) (i : Nat) (cl f : String) (hn : NoAttr Γ.K (Γ.cls cl) (f : Str)) (he : EE X Γ W e fe) (hx : Vr X i x := by exact ⟨rfl, by first | exact Or.inl rfl | exact Or.inr (Or.inl rfl) | exact Or.inr (Or.inr rfl), by decide, by decide⟩)
    (hs : swapsWith e (some (.Attribute (.Name x p) (f : Str) tpos)) pos.line X.env = pure false := by rfl) : ES X Γ W fx (.Assign [.Attribute (.Name x p) (f : Str) tpos] e pos) (fldS i cl f fe) :=
  ⟨_, ps_fld hx.pe he.choose_spec.1 hs, by rw [c.K]; exact sim_fld hn he.choose_spec.2⟩
end
/-- targets = value -/
def tgtS (f : SE) (g : SG) : SS := M.bind (opd f) fun r s => match r with
  | .fz d => (match g d s with
    | some s' => some (.ok .nx s')
    | none => none)
  | _ => none
theorem sim_tgt {Γ : Gm} {W : St → XK} {fx vs : List Nat} {te : TE} {tg : TG} {fe : SE} {g : SG} (he : SimE Γ W te fe) (hg : SimG Γ vs tg g) (hv : ∀ i ∈ vs, i ∉ fx) : SimS Γ W fx (tAsg te tg) (tgtS fe g) := by
  intro F H σ env res D w hf post
  rcases M.bind_some hf with ⟨e, s', h1, rfl⟩ | ⟨r, s', h1, h2⟩
  · exact he.opd F H σ env _ _ w h1 post.exE
  refine he.opd F H σ env _ _ w h1 fun v F1 H1 w1 r1 st1 => ?_
  have st1 := RR.stp st1
  split at h2
  · split at h2
    · rename_i hgg
      cases h2
      exact hg F1 H1 σ s' _ v _ _ w1 r1 hgg fun σ' w2 o2 x2 => post σ' F1 H1 w2 (st1.weak fun a h => .inl (o2 a h)) (x2.fx hv)
    · cases h2
  · cases h2
theorem es_tgt {X : Cx} {Γ : Gm} {W : St → XK} {fx vs : List Nat} {pos : Pos} {e tg : Expr} {fe : SE} {g : SG} (he : EE X Γ W e fe) (hg : EG X Γ vs tg g) (hv : ∀ i ∈ vs, i ∉ fx := by decide)
    (hs : swapsWithSole [tg] e pos.line X.env = pure false := by rfl) (hw : swappedStores [tg] e X.env = pure none := by rfl) (h1 : (assignEach [tg] X.env).map (·.2) = [assign tg X.env] := by rfl) : ES X Γ W fx (.Assign [tg] e pos) (tgtS fe g) :=
  ⟨_, ps_asg he.choose_spec.1 hg.choose_spec.1 hs hw h1, sim_tgt he.choose_spec.2 hg.choose_spec.2 hv⟩
end Ev
-- EvM
set_option Elab.async false
set_option linter.all false
set_option maxRecDepth 100000
set_option maxHeartbeats 2000000
namespace Ev
open PySem PySem.Spec L2 HT ClX
open PyProof.Rows hiding St

/-! ## methods that only look -/
def tyD : D → Option String
  | .lst _ => some "list"
  | .scr _ => some "list"
  | .str _ => some "str"
  | .dct _ _ => some "dict"
  | _ => none
def PR (Γ : Gm) (r : V → List V → Hp → VK → Prop) (φ : D → List D → Option O) : Prop := ∀ (F H : Hp) (x : V) (xs : List V) (d : D) (ds : List D) (o : O) (Q : VK), Sub F H → Vw Γ F H x d → VwL Γ F H xs ds → φ d ds = some o → QR Γ F H o Q → r x xs H Q
def metS (T : String) (φ : D → List D → Option O) (f : SE) (fa : SA) : SE := M.bind (opd f) fun r s1 => if (vw s1 r).bind tyD = some T then M.bind fa (fun rs s => ret ((vw s r).bind fun d => (vws s rs).bind (φ d)) s) s1 else none
theorem tyD_V {Γ : Gm} {F H : Hp} {x : V} {d : D} {T : String} (s : Sub F H) (v : Vw Γ F H x d) (h : tyD d = some T) : tyV Γ.K T x H := by
  unfold tyD at h
  split at h
  · cases h
    obtain ⟨a, vs, rfl, h, _, _⟩ := v.lst s
    exact .inl ⟨rfl, _, SqL.of h⟩
  · cases h
    obtain ⟨a, rfl, h, _⟩ := v.scr s
    exact .inl ⟨rfl, _, h⟩
  · cases h
    cases v.str; exact rfl
  · cases h
    obtain ⟨a, rfl, ⟨_, kvs, h, _⟩ | ⟨_, kvs, h, _⟩⟩ := v.dct s
    · exact .inr (.inr (.inl ⟨rfl, .inl ⟨_, h⟩⟩))
    · exact .inr (.inr (.inl ⟨rfl, .inr ⟨_, h⟩⟩))
  · cases h
theorem sim_met {Γ : Gm} {W : St → XK} {t : TE} {ta : TA} {f : SE} {fa : SA} {T : String} {r : V → List V → Hp → VK → Prop} {φ : D → List D → Option O} (h : SimE Γ W t f) (h' : SimA Γ W ta fa) (hp : PR Γ r φ) : SimE Γ W (tBM Γ.K T r t ta) (metS T φ f fa) := by
  intro F H σ env res Q w hf post
  rcases M.bind_some hf with ⟨e, s', h1, rfl⟩ | ⟨q, s1, h1, h2⟩
  · exact h.opd F H σ env _ _ w h1 post
  · have op := opd_opn h1
    refine h.opd F H σ env _ _ w h1 fun v F1 H1 w1 r1 st1 => ?_
    split at h2
    case isFalse => cases h2
    rename_i ht
    obtain ⟨d1, hd1, ht⟩ := Option.bind_eq_some_iff.mp ht
    refine ⟨tyD_V w1.sub (r1.vw op w1 .refl hd1) ht, ?_⟩
    have st1 := RR.stp st1
    rcases M.bind_some h2 with ⟨e, s2, h3, rfl⟩ | ⟨rs, s2, h3, h4⟩
    · exact h' F1 H1 σ s1 _ _ w1 h3 fun cls dd F' H' w' x st => post cls dd F' H' w' x (st1.trans st)
    · refine h' F1 H1 σ s1 _ _ w1 h3 fun vs F2 H2 w2 r2 st2 => ?_
      obtain ⟨o, ho, hno, rfl⟩ := ret_some h4
      cases hv : vw s2 q with
      | none => rw [hv] at ho; cases ho
      | some d =>
        rw [hv] at ho
        cases hvs : vws s2 rs with
        | none => simp only [Option.bind, hvs] at ho; cases ho
        | some ds =>
          simp only [Option.bind, hvs] at ho
          exact hp F2 H2 v vs d ds o Q w2.sub (r1.vw op w2 st2.sub hv) (r2.vws w2 hvs) ho (QR.post w2 (st1.trans st2) hno post)
section
variable {X : Cx} {Γ : Gm} {W : St → XK} {CXv : CXT} {k : Nat} {pos apos : Pos} {o e : Expr} {es : List Expr} {f : SE} {fa : SA} {T id : String} {name : Str} {r : V → List V → Hp → VK → Prop} {φ : D → List D → Option O}
theorem ee_met (c : Ok X Γ W CXv k) (pa : PlainAttrs T) (slot : Slot T name id) (hty : typeOf (.builtin id) = pure (.type "method_descriptor")) (hm : MtR X id r) (hp : PR Γ r φ) (ho : EE X Γ W o f) (ha : EA X Γ W (e :: es) fa)
    (hbase : attributeBase o name X.env (eval o X.env) = eval o X.env := by rfl)
    (hfew : ((backTo pos (starEach (e :: es) X.env)).all (fun x => !x.1) && (backToKw pos (keywordEach [] X.env)).all (fun x => x.1.isSome)
      && decide ((e :: es).length + ([] : List Keyword).length + (if ([] : List Keyword).isEmpty then 0 else 1) < 30)) = true := by rfl)
    (hline : (apos.endLine == pos.line) = true := by rfl) (hs : starEach (e :: es) X.env = (false, eval e X.env) :: starEach es X.env := by rfl) (hplain : (backTo pos (starEach es X.env)).any (·.1) = false := by rfl) :
    EE X Γ W (.Call (.Attribute o name apos) (e :: es) [] pos) (metS T φ f fa) :=
  ⟨_, pe_bm pa slot hty hm ho.choose_spec.1 ha.choose_spec.1 hbase hfew hline hs hplain, by rw [c.K]; exact sim_met ho.choose_spec.2 ha.choose_spec.2 hp⟩
end
/-! ### join -/
def strsD : List D → Option (List Str)
  | [] => some []
  | .str s :: r => (strsD r).map (s :: ·)
  | _ => none
def joinD : D → List D → Option O
  | .str a, [.lst ds] => (strsD ds).bind fun ys => if (ys.map (·.length)).sum + ys.length * a.length ≤ 16777216 then some (.fz (.str (Txt.join a ys))) else none
  | .str a, [.tup ds] => (strsD ds).bind fun ys => if (ys.map (·.length)).sum + ys.length * a.length ≤ 16777216 then some (.fz (.str (Txt.join a ys))) else none
  | _, _ => none
theorem RvL.strs {Γ : Gm} {F : Hp} : ∀ {vs : List V} {ds : List D} {ys : List Str}, RvL Γ F vs ds → strsD ds = some ys → vs = ys.map V.str
  | _, _, ys, .nil, h => by cases h; rfl
  | _, _, ys, .cons (d := d) a b, h => by
    cases d with
    | str s =>
      obtain ⟨z, hz, rfl⟩ := Option.map_eq_some_iff.mp h
      cases a
      rw [b.strs hz]; rfl
    | _ => simp [strsD] at h
def rJoin (K : PySem.W.Frag) : V → List V → Hp → VK → Prop := fun x xs H Q => ∃ a p, ∃ ys : List Str, x = .str a ∧ xs = [.ref p] ∧ (SqL K H p (ys.map V.str) ∨ SqT K H p (ys.map V.str)) ∧
    (ys.map (·.length)).sum + ys.length * a.length ≤ 16777216 ∧ Q (.str (Txt.join a ys)) H
theorem p_join {Γ : Gm} : PR Γ (rJoin Γ.K) joinD := by
  intro F H x xs d ds o Q s vx vxs h q
  unfold joinD at h
  split at h
  · obtain ⟨ys, hy, h⟩ := Option.bind_eq_some_iff.mp h
    split at h
    · rename_i hz
      cases h
      obtain ⟨y, rfl, vy⟩ := vxs.one
      obtain ⟨a, vs, rfl, h, _, r⟩ := vy.lst s
      cases vx.str
      have := r.strs hy
      subst this
      exact ⟨_, a, ys, rfl, rfl, .inl (SqL.of h), hz, q.fz s (.str _)⟩
    · cases h
  · obtain ⟨ys, hy, h⟩ := Option.bind_eq_some_iff.mp h
    split at h
    · rename_i hz
      cases h
      obtain ⟨y, rfl, vy⟩ := vxs.one
      obtain ⟨a, vs, rfl, h, _, r⟩ := vy.tup
      cases vx.str
      have := r.strs hy
      subst this
      exact ⟨_, a, ys, rfl, rfl, .inr (SqT.of (s _ _ h)), hz, q.fz s (.str _)⟩
    · cases h
  · cases h
/-! ### list.index -/
def indexD : D → List D → Option O
  | .lst xs, [k] => if okD k = true ∧ okD (.lst xs) = true then (xs.findIdx? fun z => PyData.eqv z.p k.p).map fun j => .fz (.int (j : Nat)) else none
  | _, _ => none
theorem p_index {Γ : Gm} : PR Γ (rIndexD Γ.K) indexD := by
  intro F H x xs d ds o Q s vx vxs h q
  unfold indexD at h
  split at h
  · split at h
    · rename_i l k hc
      obtain ⟨j, hj, rfl⟩ := Option.map_eq_some_iff.mp h
      obtain ⟨y, rfl, vy⟩ := vxs.one
      have d2 := vx.dp s (okD_plain hc.2)
      have s2 := okD_shaped hc.2
      obtain ⟨a, vs, rfl, _, _, _⟩ := vx.lst s
      simp only [D.p] at d2 s2
      obtain ⟨hlt, h1, h2⟩ := List.findIdx?_eq_some_iff_getElem.mp hj
      refine ⟨a, y, _, _, j, (l[j]).p, rfl, rfl, d2, vy.dp s (okD_plain hc.1), s2, okD_shaped hc.1, ?_, h1, fun m z' hm hz => ?_, q.fz s (.int _)⟩
      · rw [D.pAll_map, List.getElem?_map, List.getElem?_eq_getElem hlt]; rfl
      · rw [D.pAll_map, List.getElem?_map, List.getElem?_eq_getElem (by omega)] at hz
        cases hz
        have := h2 m hm
        simpa using this
    · cases h
  · cases h
/-! ### dict.get -/
def getD' : D → List D → Option O
  | .dct t kvs, [k] => if keyOk t k = true then some (.fz ((dfind kvs k).getD .non)) else none
  | .dct t kvs, [k, z] => if keyOk t k = true then some (.fz ((dfind kvs k).getD z)) else none
  | _, _ => none
def rGet : V → List V → Hp → VK → Prop := fun x xs H Q => ∃ a y o, x = .ref a ∧ DGet H a y o ∧ ((xs = [y] ∧ Q (o.getD .non) H) ∨ ∃ z, xs = [y, z] ∧ Q (o.getD z) H)
theorem mt_get {X : Cx} (hu : X.A.units + 1 < cLine) : MtR X "dict.get" rGet := by
  intro pins s σ H x xs v us Q I rx rxs h
  obtain ⟨a, y, o, rfl, g, ⟨rfl, q⟩ | ⟨z, rfl, q⟩⟩ := h
  · cases rx
    obtain ⟨u, rfl, ru⟩ := rxs.one
    exact d_get1 hu I g ru fun w' s3 I3 rw' => ⟨_, H, I3, rw', q⟩
  · cases rx
    obtain ⟨u, u2, rfl, ru, ru2⟩ := rxs.two
    exact d_get2 hu I g ru ru2 fun w' s3 I3 rw' => ⟨_, H, I3, rw', q⟩
section
variable {X : Cx} {Γ : Gm} {W : St → XK} {CXv : CXT} {k : Nat} {pos apos : Pos} {o e e2 : Expr} {f fk fv : SE} {fa : SA}
theorem ee_join (c : Ok X Γ W CXv k) (ho : EE X Γ W o f) (ha : EA X Γ W [e] fa) (hbase : attributeBase o "join" X.env (eval o X.env) = eval o X.env := by rfl)
    (hfew : ((backTo pos (starEach [e] X.env)).all (fun x => !x.1) && (backToKw pos (keywordEach [] X.env)).all (fun x => x.1.isSome)
      && decide (([e] : List Expr).length + ([] : List Keyword).length + (if ([] : List Keyword).isEmpty then 0 else 1) < 30)) = true := by rfl)
    (hline : (apos.endLine == pos.line) = true := by rfl) (hs : starEach [e] X.env = (false, eval e X.env) :: starEach [] X.env := by rfl) :
    EE X Γ W (.Call (.Attribute o "join" apos) [e] [] pos) (metS "str" joinD f fa) :=
  ee_met c F.plainAttrs_str F.slot_str_join F.type_str_join (by rw [← c.K] <;> exact mt_join) p_join ho ha hbase hfew hline hs
theorem ee_index (c : Ok X Γ W CXv k) (ho : EE X Γ W o f) (ha : EA X Γ W [e] fa) (hbase : attributeBase o "index" X.env (eval o X.env) = eval o X.env := by rfl)
    (hfew : ((backTo pos (starEach [e] X.env)).all (fun x => !x.1) && (backToKw pos (keywordEach [] X.env)).all (fun x => x.1.isSome)
      && decide (([e] : List Expr).length + ([] : List Keyword).length + (if ([] : List Keyword).isEmpty then 0 else 1) < 30)) = true := by rfl)
    (hline : (apos.endLine == pos.line) = true := by rfl) (hs : starEach [e] X.env = (false, eval e X.env) :: starEach [] X.env := by rfl) :
    EE X Γ W (.Call (.Attribute o "index" apos) [e] [] pos) (metS "list" indexD f fa) :=
  ee_met c F.plainAttrs_list F.slot_list_index F.type_list_index (by rw [← c.K] <;> exact mt_indexD c.h65) p_index ho ha hbase hfew hline hs
end
/-! ### dicts made -/
def newD (t : Bool) : SE := M.pure (.ow (.dct t []))
/-- {k: v} -/
def disp1S (t : Bool) (fk fv : SE) : SE := M.bind (opd fk) fun r => M.bind (opd fv) fun q s => match r, q with
  | .fz k, .fz v => if keyOk t k = true then some (.ok (.ow (.dct t [(k, v)])) s) else none
  | _, _ => none
def tDisp1T (tk tv : TE) : TE := fun σ H Q => ∀ p, H p = none → tk σ (upd H p (.dT [])) fun x H1 => tv σ H1 fun y H2 => H2 p = some (.dT []) ∧ ∃ (ks : List L2.Key) (b : Addr), x = .ref b ∧ H2 b = some (.tup (ks.map kV)) ∧ Q (.ref p) (upd H2 p (.dT [(ks, y)]))
theorem pe_disp1T {X : Cx} {pos : Pos} {ke ve : Expr} {tk tv : TE} (hu : X.A.units + 1 < cLine) (hk : PE X ke tk) (hv : PE X ve tv) : PE X (.Dict [some ke] [ve] pos) (tDisp1T tk tv) := by
  refine ⟨fun pins s σ H Q I q => ?_⟩
  have hn := I.hok.fresh (Nat.le_refl s.heap.objs.size)
  have I1 := I.laid (a := s.heap.objs.size) (o := .dT []) (h' := s.heap.push { cls := .type "dict", data := .dict #[] }) (t' := s.toks) (fun _ _ q => Heap.get?_push_of_some _ q) (Nat.le_refl _) (dt_empty s.heap I.big)
  rw [arm_eval_Dict, zip_pairTrees [some ke] [ve] X.env pos rfl rfl, dictDisplay_pairs (pairTrees [some ke] [ve] X.env pos) (by intro e; cases e) (by show 1 < 17; decide)]
  refine wpAny_bind (wpAny_standAt (wpAny_bind (wpAny_subDictH (knd := tupleKind (mixKind X.prog X.w)) (Q := fun d s' => wpAny (model X.prog X.w) X.A (pure (Value.ref d)) (EP X pins σ Q) X.xe s') (show X.A.units < cLine by omega) (by show 1 ≤ 15; decide) ?_)))
  refine pairTrees_cons_walk (thn (hk.run pins _ σ _ _ I1 (q _ hn)) fun u s1 ⟨x, H1, I2, rx, q1⟩ => thn (hv.run pins s1 σ H1 _ I2 q1) fun w2 s2 ⟨y, H2, I3, ry, e, ks, b, ex, eb, q2⟩ => pairTrees_nil_walk ?_)
  subst ex
  obtain rfl : u = Value.ref b := rx
  obtain ⟨z, hd, xs, rel, dd⟩ := dt_of I3.hok e
  cases rel
  refine ⟨[(ks, b, w2)], ⟨rfl, rfl, key_of I3.hok eb, trivial⟩, dd, fun h' tk dd' hs => wpAny_pure ⟨.ref _, _, ?_, rfl, q2⟩⟩
  have dd' : h'.DictOfH (tupleKind (mixKind X.prog X.w)) s.heap.objs.size [(ks, b, w2)] := dd'
  obtain ⟨ob, es, ep, hq, h2, h3, h4, _, h5⟩ := dd'
  refine d_write I3 (by rw [e]; exact True.intro) hs ⟨ob, hq⟩ ⟨by show 1 ≤ sizeLine; decide, hd, _, .cons ⟨rfl, ?_, ry⟩ .nil, ob, es, ep, hq, h2, h3, h4, h5⟩
  rw [upd_ne (ne_of eb e (fun z => nomatch z))]
  exact eb
theorem sim_disp1T {Γ : Gm} {W : St → XK} {tk tv : TE} {fk fv : SE} (h : SimE Γ W tk fk) (h' : SimE Γ W tv fv) : SimE Γ W (tDisp1T tk tv) (disp1S true fk fv) := by
  intro F H σ env res Q w hf post p hp
  obtain ⟨w0, ou0, st0⟩ := Ours.new (u := .dT []) w hp
  rcases M.bind_some hf with ⟨e, s', h1, rfl⟩ | ⟨r, s1, h1, h2⟩
  · refine h.opd F _ σ env _ _ w0 h1 fun cls dd F' H' w' x st => post cls dd F' H' w' x ?_
    exact (st0.trans st.more).weak fun a ha => .inl (.inl ha)
  · refine h.opd F _ σ env _ _ w0 h1 fun v F1 H1 w1 r1 st1 => ?_
    have st1 := RR.stp st1
    have ou1 := ou0.stp st1
    rcases M.bind_some h2 with ⟨e, s2, h3, rfl⟩ | ⟨q, s2, h3, h4⟩
    · refine h'.opd F1 H1 σ s1 _ _ w1 h3 fun cls dd F' H' w' x st => post cls dd F' H' w' x ?_
      exact ((st0.trans st1.more).trans st.more).weak fun a ha => .inl (.inl ha)
    · refine h'.opd F1 H1 σ s1 _ _ w1 h3 fun v2 F2 H2 w2 r2 st2 => ?_
      have st2 := RR.stp st2
      have ou2 := ou1.stp st2
      split at h4
      · split at h4
        · rename_i kd vd hk
          cases h4
          obtain ⟨xs, rfl⟩ : ∃ xs, kd = .tup xs := by
            cases kd with
            | tup i => exact ⟨i, rfl⟩
            | _ => simp [keyOk] at hk
          obtain ⟨ks, hks⟩ : ∃ ks, ksOf xs = some ks := by
            simp [keyOk] at hk
            exact Option.isSome_iff_exists.mp hk
          have := ksOf_some hks
          subst this
          have r1 : Rv Γ F1 v (.tup (ks.map kD)) := r1
          have r2 : Rv Γ F2 v2 vd := r2
          cases r1 with
          | tup hb _ rl =>
            have := rl.keys
            subst this
            obtain ⟨w3, ou3, st3⟩ := ou2.put (u' := .dT [(ks, v2)]) w2
            refine ⟨ou2.h, ks, _, rfl, w2.sub _ _ (st2.sub _ _ hb), post (.ref p) F2 _ w3 ⟨.dT upd_same (.cons r2 .nil) ou2.f, rfl, fun a e q => ?_⟩ ((((st0.trans st1.more).trans st2.more).trans st3).weak fun a ha => .inl ?_)⟩
            · cases e; exact ou3.n q
            · rcases ha with ha | ha
              · exact .inl ha
              · cases ha; exact .inr rfl
        · cases h4
      · cases h4
section
variable {X : Cx} {Γ : Gm} {W : St → XK} {CXv : CXT} {k : Nat} {pos apos : Pos} {o e e2 : Expr} {f fk fv : SE} {fa : SA}
theorem ee_newK : EE X Γ W (.Dict [] [] pos) (newD false) := ⟨_, pe_dnewK, fun F H σ env res Q w hf post => by
  cases hf
  intro p hp
  obtain ⟨w0, ou0, st0⟩ := Ours.new (u := .dK []) w hp
  refine post (.ref p) F _ w0 ⟨.dK upd_same .nil ou0.f, rfl, fun a e q => by cases e; exact ou0.n q⟩ (st0.weak fun a ha => .inl ?_)
  rcases ha with ha | ha
  · exact .inl ha
  · cases ha; exact .inr rfl⟩
theorem ee_newT : EE X Γ W (.Dict [] [] pos) (newD true) := ⟨_, pe_dnewT, fun F H σ env res Q w hf post => by
  cases hf
  intro p hp
  obtain ⟨w0, ou0, st0⟩ := Ours.new (u := .dT []) w hp
  refine post (.ref p) F _ w0 ⟨.dT upd_same .nil ou0.f, rfl, fun a e q => by cases e; exact ou0.n q⟩ (st0.weak fun a ha => .inl ?_)
  rcases ha with ha | ha
  · exact .inl ha
  · cases ha; exact .inr rfl⟩
theorem ee_disp1T (c : Ok X Γ W CXv k) (hk : EE X Γ W e fk) (hv : EE X Γ W e2 fv) : EE X Γ W (.Dict [some e] [e2] pos) (disp1S true fk fv) :=
  ⟨_, pe_disp1T c.h1 hk.choose_spec.1 hv.choose_spec.1, sim_disp1T hk.choose_spec.2 hv.choose_spec.2⟩
end
end Ev
-- EvN
set_option Elab.async false
set_option linter.all false
set_option maxRecDepth 100000
set_option maxHeartbeats 2000000
namespace Ev
open PySem PySem.Spec L2 HT ClX
open PyProof.Rows hiding St

/-! ## defs -/
abbrev SF := List O → Option (Ot O)
def PostF (Γ : Gm) (F H : Hp) (vs : List V) (os : List O) (Q : VK) (E : XK) : Ot O → Prop
  | .ok o os' => ∀ v F' H', Wr Γ F' H' (vs.map some) os' → RR Γ F' H' (vs.map some) os' v (rsO o) → Stp F H (Own (vs.map some) os) F' H' (OwnR (vs.map some) os' v (rsO o)) → Q v H'
  | .ex e os' => ∀ cls dd F' H', Wr Γ F' H' (vs.map some) os' → XR Γ F' H' cls dd e → Stp F H (Own (vs.map some) os) F' H' (Own (vs.map some) os') → E cls dd H'
/-- what a def promises that computes φ -/
def spF (Γ : Gm) (n : Nat) (φ : SF) : Sp := fun vs H Q E => vs.length = n ∧ ∃ F os res, Wr Γ F H (vs.map some) os ∧ φ os = some res ∧ PostF Γ F H vs os Q E res
def mask (ios : List Nat) (n : Nat) (s : List O) : List O := (List.range n).map fun i => if i ∈ ios then (s[i]?).getD .no else .no
def funS (ios : List Nat) (N : Nat) (b : SS) : SF := fun os => match b (os ++ List.replicate (N - os.length) .no) with
  | some (.ok .nx s') => some (.ok (.fz .non) (mask ios os.length s'))
  | some (.ok (.rt (.fz d)) s') => some (.ok (.fz d) (mask ios os.length s'))
  | some (.ok (.rt (.ow o)) s') => some (.ok o (mask ios os.length s'))
  | some (.ex e s') => some (.ex e (mask ios os.length s'))
  | _ => none
section
variable {Γ : Gm} {F H F' H' : Hp}
theorem mask_get {ios : List Nat} {n : Nat} {s : List O} {i : Nat} {o : O} (h : (mask ios n s)[i]? = some o) : i < n ∧ (o = .no ∨ (i ∈ ios ∧ s[i]? = some o)) := by
  unfold mask at h
  rw [List.getElem?_map] at h
  obtain ⟨j, hj, rfl⟩ := Option.map_eq_some_iff.mp h
  obtain ⟨hl, hj⟩ := List.getElem?_eq_some_iff.mp hj
  rw [List.getElem_range] at hj
  subst hj
  refine ⟨by simpa using hl, ?_⟩
  split
  · rename_i hm
    cases e : s[i]? with
    | none => exact .inl rfl
    | some o => exact .inr ⟨hm, rfl⟩
  · exact .inl rfl
theorem Wr.start {N : List Str} {vs : List V} {os : List O} (w : Wr Γ F H (vs.map some) os) : Wr Γ F H (L2.start N vs) (os ++ List.replicate (N.length - os.length) .no) ∧ ∀ a, Own (L2.start N vs) (os ++ List.replicate (N.length - os.length) .no) a ↔ Own (vs.map some) os a := by
  have hl : vs.length = os.length := by have := w.len; simpa using this
  have at_ : ∀ {i : Nat} {a : Addr}, OwnAt (L2.start N vs) (os ++ List.replicate (N.length - os.length) .no) i a ↔ OwnAt (vs.map some) os i a := fun {i a} => by
    unfold OwnAt L2.start
    by_cases e : i < os.length
    · rw [List.getElem?_append_left (by simp; omega), List.getElem?_append_left e]
    · refine ⟨fun ⟨h1, o, h2, h3⟩ => ?_, fun ⟨h1, o, h2, h3⟩ => ?_⟩
      · rw [List.getElem?_append_right (by omega), List.getElem?_replicate] at h2
        split at h2
        · cases h2; cases h3
        · cases h2
      · exact absurd (List.getElem?_eq_some_iff.mp h2).1 e
  refine ⟨⟨w.sub, ?_, fun i v o h1 h2 => ?_, fun i j a h1 h2 => w.dis i j a (at_.mp h1) (at_.mp h2)⟩, fun a => ⟨fun ⟨i, h⟩ => ⟨i, at_.mp h⟩, fun ⟨i, h⟩ => ⟨i, at_.mpr h⟩⟩⟩
  · unfold L2.start; simp [hl]
  · unfold L2.start at h1
    by_cases e : i < os.length
    · rw [List.getElem?_append_left (by simp; omega)] at h1
      rw [List.getElem?_append_left e] at h2
      exact w.rel i v o h1 h2
    · rw [List.getElem?_append_right (by omega), List.getElem?_replicate] at h2
      split at h2
      · cases h2; exact .no
      · cases h2
theorem Wr.mask {N : List Str} {vs : List V} {ios : List Nat} {σ : St} {s : List O} (w : Wr Γ F H σ s) (fx : Fx ios (L2.start N vs) σ) : Wr Γ F H (vs.map some) (mask ios vs.length s) ∧ ∀ a, Own (vs.map some) (Ev.mask ios vs.length s) a → Own σ s a := by
  have tr : ∀ {i : Nat} {o : O} {v : Option V}, (Ev.mask ios vs.length s)[i]? = some o → o ≠ .no → (vs.map some)[i]? = some v → σ[i]? = some v ∧ s[i]? = some o := fun {i o v} h n hv => by
    obtain ⟨hl, h | ⟨hm, h⟩⟩ := mask_get h
    · exact absurd h n
    · refine ⟨?_, h⟩
      rw [fx i hm]
      unfold L2.start
      rw [List.getElem?_append_left (by simpa using hl)]; exact hv
  have at_ : ∀ {i : Nat} {a : Addr}, OwnAt (vs.map some) (Ev.mask ios vs.length s) i a → OwnAt σ s i a := fun {i a} ⟨h1, o, h2, h3⟩ => by
    obtain ⟨q1, q2⟩ := tr h2 (by intro e; rw [e] at h3; cases h3) h1
    exact ⟨q1, o, q2, h3⟩
  refine ⟨⟨w.sub, by simp [Ev.mask], fun i v o h1 h2 => ?_, fun i j a h1 h2 => w.dis i j a (at_ h1) (at_ h2)⟩, fun a ⟨i, h⟩ => ⟨i, at_ h⟩⟩
  by_cases e : o = .no
  · rw [e]; exact .no
  · obtain ⟨q1, q2⟩ := tr h2 e h1
    exact w.rel i v o q1 q2
theorem RR.fn {vs : List V} {σ : St} {s m : List O} {v : V} {r : Rs} {o : O} (h : RR Γ F H σ s v r) (ho : r.o = some o) (hm : ∀ a, Own (vs.map some) m a → Own σ s a) : RR Γ F H (vs.map some) m v (rsO o) ∧ ∀ a, OwnR (vs.map some) m v (rsO o) a → OwnR σ s v r a := by
  cases r with
  | bor i => cases ho
  | fz d => cases ho; exact ⟨h, fun a q => hm a q⟩
  | ow o' =>
    cases ho
    have e : rsO o = .ow o := by
      obtain ⟨_, h2, _⟩ := h
      cases o <;> first | rfl | cases h2
    rw [e]
    exact ⟨⟨h.1, h.2.1, fun a ea q => h.2.2 a ea (hm a q)⟩, fun a q => q.elim (fun z => .inl (hm a z)) .inr⟩
end
/-- the def's rule -/
theorem fn_ev {P : Program} {w : World} {Γ : Gm} {mg : Str → Option Value} {base : Heap} {k n : Nat} {f : Addr} {fd : FuncData} {x qual : Str} {params : Arguments} {body : List Stmt} {scope : Scope} {dvs : List V} {kws : List (Str × V)} {N ps : List Str} {b : SS}
    (fx ios : List Nat) (F : FunD Γ.K x qual params body scope dvs kws f fd) (S : FnScope N ps scope) (hn : ps.length = n) (hio : ∀ i ∈ ios, i ∈ fx)
    (hb : ∀ (cdv : Value) (A : Around) (outer : List Env) (s : Shared) (H : Hp) (E : XK), Ok (cxOf (L2.CX P w) P w Γ.K mg base N qual scope f cdv A outer s H E) Γ (fun _ => E) (L2.CX P w) k →
      ESs (cxOf (L2.CX P w) P w Γ.K mg base N qual scope f cdv A outer s H E) Γ (fun _ => E) fx body b) :
    FnOk P w Γ.K mg base (L2.CX P w) (k + 1) f fd ps (spF Γ n (funS ios N.length b)) := by
  refine F.ok S (fun vs H Q E h => by rw [h.1, hn]) fun cdv A outer s H vs Q E hr hsp => ?_
  obtain ⟨hl, F, os, res, w1, hf, post⟩ := hsp
  have c : Ok (cxOf (L2.CX P w) P w Γ.K mg base N qual scope f cdv A outer s H E) Γ (fun _ => E) (L2.CX P w) k :=
    ⟨rfl, hr, rfl, S.nd, passes_of rfl, fun σ => passAt (takes_of rfl rfl rfl rfl) σ, fun o H s e s' ⟨_, _, _, _, _, _, _, _, _, _, _, _, z⟩ => z⟩
  obtain ⟨t, pt, st⟩ := hb cdv A outer s H E c
  refine ⟨t, pt, ?_⟩
  have hlo : os.length = vs.length := by have := w1.len; simp at this; omega
  obtain ⟨w2, own2⟩ := w1.start (N := N)
  have st2 : Stp F H (Own (vs.map some) os) F H (Own (start N vs) (os ++ List.replicate (N.length - os.length) .no)) := Stp.refl.weak fun a h => .inl ((own2 a).mp h)
  unfold funS at hf
  have fxi : ∀ {σ' : St}, Fx fx (start N vs) σ' → Fx ios (start N vs) σ' := fun h i hi => h i (hio i hi)
  split at hf
  · rename_i s' hs
    cases hf
    refine st F H _ _ _ _ w2 hs fun σ' F' H' w' s x => ?_
    obtain ⟨wm, om⟩ := w'.mask (fxi x)
    rw [hlo] at post
    exact post .non F' H' wm .non ((st2.trans s).weak fun a h => .inl (om a h))
  · rename_i d s' hs
    cases hf
    refine st F H _ _ _ _ w2 hs fun v σ' F' H' w' rr nb s x => ?_
    obtain ⟨wm, om⟩ := w'.mask (fxi x)
    rw [hlo] at post
    obtain ⟨r1, o1⟩ := RR.fn rr (o := .fz d) rfl om
    exact post v F' H' wm r1 ((st2.trans s).weak fun a h => .inl (o1 a h))
  · rename_i o s' hs
    cases hf
    refine st F H _ _ _ _ w2 hs fun v σ' F' H' w' rr nb s x => ?_
    obtain ⟨wm, om⟩ := w'.mask (fxi x)
    rw [hlo] at post
    obtain ⟨r1, o1⟩ := RR.fn rr (o := o) rfl om
    exact post v F' H' wm r1 ((st2.trans s).weak fun a h => .inl (o1 a h))
  · rename_i e s' hs
    cases hf
    refine st F H _ _ _ _ w2 hs fun cls dd σ' F' H' w' xr s x => ?_
    obtain ⟨wm, om⟩ := w'.mask (fxi x)
    rw [hlo] at post
    exact post cls dd F' H' wm xr ((st2.trans s).weak fun a h => .inl (om a h))
  · cases hf
end Ev
-- EvO
set_option Elab.async false
set_option linter.all false
set_option maxRecDepth 100000
set_option maxHeartbeats 2000000
namespace Ev
open PySem PySem.Spec L2 HT ClX
open PyProof.Rows hiding St

/-! ## calls -/
def parO (s : List O) : Rs → O
  | .fz d => .fz d
  | .bor i => (s[i]?).getD .no
  | .ow _ => .no
def bors : List Rs → List Nat
  | [] => []
  | .bor i :: r => i :: bors r
  | .fz _ :: r => bors r
  | .ow _ :: r => bors r
/-- what the arguments' slots hold behind the call -/
def pb (s : List O) : List Rs → List O → List O
  | .bor i :: r, o :: os => pb (s.set i o) r os
  | .fz _ :: r, _ :: os => pb s r os
  | .ow _ :: r, _ :: os => pb s r os
  | _, _ => s
theorem pb_len : ∀ (rs : List Rs) (os s : List O), (pb s rs os).length = s.length
  | [], os, s => by cases os <;> rfl
  | .bor i :: r, [], s => rfl
  | .fz d :: r, [], s => rfl
  | .ow d :: r, [], s => rfl
  | .bor i :: r, o :: os, s => by show (pb (s.set i o) r os).length = _; rw [pb_len r os]; simp
  | .fz d :: r, o :: os, s => pb_len r os s
  | .ow d :: r, o :: os, s => pb_len r os s
theorem pb_out {i : Nat} : ∀ (rs : List Rs) (os s : List O), i ∉ bors rs → (pb s rs os)[i]? = s[i]?
  | [], os, s, _ => by cases os <;> rfl
  | .bor j :: r, [], s, _ => rfl
  | .fz d :: r, [], s, _ => rfl
  | .ow d :: r, [], s, _ => rfl
  | .bor j :: r, o :: os, s, h => by
    show (pb (s.set j o) r os)[i]? = _
    have h : i ∉ j :: bors r := h
    rw [pb_out r os _ fun z => h (List.mem_cons_of_mem _ z), List.getElem?_set_ne fun e => h (by rw [e]; exact List.mem_cons_self)]
  | .fz d :: r, o :: os, s, h => pb_out r os s h
  | .ow d :: r, o :: os, s, h => pb_out r os s h
theorem pb_in {i : Nat} : ∀ (rs : List Rs) (os s : List O), i ∈ bors rs → (bors rs).Nodup → rs.length = os.length → ∃ (j : Nat) (o : O), rs[j]? = some (.bor i) ∧ os[j]? = some o ∧ (i < s.length → (pb s rs os)[i]? = some o)
  | .bor j :: r, o :: os, s, h, nd, hl => by
    have h : i ∈ j :: bors r := h
    have nd : (j :: bors r).Nodup := nd
    rw [List.nodup_cons] at nd
    rcases List.mem_cons.mp h with e | h
    · subst e
      refine ⟨0, o, rfl, rfl, fun hi => ?_⟩
      show (pb (s.set i o) r os)[i]? = _
      rw [pb_out r os _ nd.1, List.getElem?_set_self hi]
    · obtain ⟨j', o', h1, h2, h3⟩ := pb_in r os (s.set j o) h nd.2 (by simpa using hl)
      exact ⟨j' + 1, o', by simpa using h1, by simpa using h2, fun hi => h3 (by simpa using hi)⟩
  | .fz d :: r, o :: os, s, h, nd, hl => by
    obtain ⟨j', o', h1, h2, h3⟩ := pb_in r os s h nd (by simpa using hl)
    exact ⟨j' + 1, o', by simpa using h1, by simpa using h2, h3⟩
  | .ow d :: r, o :: os, s, h, nd, hl => by
    obtain ⟨j', o', h1, h2, h3⟩ := pb_in r os s h nd (by simpa using hl)
    exact ⟨j' + 1, o', by simpa using h1, by simpa using h2, h3⟩
theorem mem_bors {i j : Nat} : ∀ {rs : List Rs}, rs[j]? = some (.bor i) → i ∈ bors rs
  | [], h => by simp at h
  | r :: rs, h => by
    cases j with
    | zero =>
      simp at h; subst h; exact List.mem_cons_self
    | succ j =>
      have q := mem_bors (rs := rs) (j := j) (by simpa using h)
      cases r with
      | bor k => exact List.mem_cons_of_mem _ q
      | fz d => exact q
      | ow d => exact q
theorem bors_inj {i : Nat} : ∀ {rs : List Rs}, (bors rs).Nodup → ∀ {j l : Nat}, rs[j]? = some (.bor i) → rs[l]? = some (.bor i) → j = l
  | [], _, j, l, h, _ => by simp at h
  | r :: rs, nd, j, l, h1, h2 => by
    have nd' : (bors rs).Nodup := by
      cases r with
      | bor k => exact (List.nodup_cons.mp nd).2
      | fz d => exact nd
      | ow d => exact nd
    cases j with
    | zero =>
      cases l with
      | zero => rfl
      | succ l =>
        simp at h1; subst h1
        exact absurd (mem_bors (rs := rs) (j := l) (by simpa using h2)) (List.nodup_cons.mp nd).1
    | succ j =>
      cases l with
      | zero =>
        simp at h2; subst h2
        exact absurd (mem_bors (rs := rs) (j := j) (by simpa using h1)) (List.nodup_cons.mp nd).1
      | succ l =>
        have q := bors_inj nd' (j := j) (l := l) (by simpa using h1) (by simpa using h2)
        rw [q]
section
variable {Γ : Gm} {F H F' H' : Hp} {σ : St} {s : List O}
theorem own_arg {vs : List V} {rs : List Rs} (h : ROs Γ F σ vs rs) {j : Nat} {a : Addr} (o : OwnAt (vs.map some) (rs.map (parO s)) j a) : ∃ i, rs[j]? = some (.bor i) ∧ OwnAt σ s i a := by
  obtain ⟨h1, o, h2, h3⟩ := o
  rw [List.getElem?_map] at h1 h2
  obtain ⟨r, hr, rfl⟩ := Option.map_eq_some_iff.mp h2
  obtain ⟨v, hv, e⟩ := Option.map_eq_some_iff.mp h1
  cases e
  obtain ⟨v', hv', ro⟩ := h.get hr
  rw [hv] at hv'; cases hv'
  cases r with
  | fz d => cases h3
  | ow o => exact ro.elim
  | bor i =>
    refine ⟨i, hr, ro, ?_⟩
    cases e : s[i]? with
    | none => simp [parO, e, O.own] at h3
    | some o => exact ⟨o, rfl, by simpa [parO, e] using h3⟩
theorem Wr.enter {vs : List V} {rs : List Rs} (w : Wr Γ F H σ s) (h : ROs Γ F σ vs rs) (nd : (bors rs).Nodup) : Wr Γ F H (vs.map some) (rs.map (parO s)) := by
  refine ⟨w.sub, by simp [h.length], fun j v o h1 h2 => ?_, fun j l a h1 h2 => ?_⟩
  · rw [List.getElem?_map] at h1 h2
    obtain ⟨r, hr, rfl⟩ := Option.map_eq_some_iff.mp h2
    obtain ⟨v', hv, rfl⟩ := Option.map_eq_some_iff.mp h1
    obtain ⟨v2, hv2, ro⟩ := h.get hr
    rw [hv] at hv2; cases hv2
    cases r with
    | fz d => exact .fz ro
    | ow o => exact ro.elim
    | bor i =>
      show OR Γ F H (some v') ((s[i]?).getD .no)
      cases e : s[i]? with
      | none => exact .no
      | some o => exact w.rel i _ o ro e
  · obtain ⟨i1, e1, q1⟩ := own_arg h h1
    obtain ⟨i2, e2, q2⟩ := own_arg h h2
    have := w.dis _ _ _ q1 q2
    subst this
    exact bors_inj nd e1 e2
theorem Wr.exit {vs : List V} {rs : List Rs} {os' : List O} {S S' : Addr → Prop} (w : Wr Γ F H σ s) (hv : ∀ (j i : Nat), rs[j]? = some (.bor i) → ∃ v, vs[j]? = some v ∧ σ[i]? = some (some v)) (hlen : vs.length = rs.length) (nd : (bors rs).Nodup)
    (hS : ∀ a, S a → (∃ i, i ∈ bors rs ∧ OwnAt σ s i a) ∨ ¬ Own σ s a) (w' : Wr Γ F' H' (vs.map some) os') (st : Stp F H S F' H' S') (hS' : ∀ a, Own (vs.map some) os' a → S' a) :
    Wr Γ F' H' σ (pb s rs os') ∧ ∀ a, Own σ (pb s rs os') a → (Own σ s a ∧ ¬ S a) ∨ ∃ j i, rs[j]? = some (.bor i) ∧ OwnAt (vs.map some) os' j a := by
  have hl : rs.length = os'.length := by have := w'.len; simp at this; omega
  -- a slot that is no argument
  have nS : ∀ {i : Nat} {a : Addr}, i ∉ bors rs → OwnAt σ s i a → ¬ S a := fun {i a} hi q z => by
    rcases hS a z with ⟨i', h1, h2⟩ | h
    · exact hi (by rw [w.dis _ _ _ q h2]; exact h1)
    · exact h ⟨i, q⟩
  have out : ∀ {i : Nat} {a : Addr}, i ∉ bors rs → OwnAt σ (pb s rs os') i a → OwnAt σ s i a := fun {i a} hi ⟨h1, o, h2, h3⟩ => ⟨h1, o, by rw [← pb_out rs os' s hi]; exact h2, h3⟩
  have ins : ∀ {i : Nat} {a : Addr}, i ∈ bors rs → OwnAt σ (pb s rs os') i a → ∃ j, rs[j]? = some (.bor i) ∧ OwnAt (vs.map some) os' j a := fun {i a} hi ⟨h1, o, h2, h3⟩ => by
    obtain ⟨j, o', q1, q2, q3⟩ := pb_in rs os' s hi nd hl
    have hlt : i < s.length := by have := (List.getElem?_eq_some_iff.mp h2).1; rwa [pb_len] at this
    rw [q3 hlt] at h2; cases h2
    obtain ⟨v, e1, e2⟩ := hv j i q1
    rw [h1] at e2; cases e2
    exact ⟨j, q1, by rw [List.getElem?_map, e1]; rfl, o, q2, h3⟩
  have cross : ∀ {i l : Nat} {a : Addr}, i ∈ bors rs → l ∉ bors rs → OwnAt σ (pb s rs os') i a → OwnAt σ (pb s rs os') l a → False := fun {i l a} hi hl' h1 h2 => by
    obtain ⟨j, _, q⟩ := ins hi h1
    have q2 := out hl' h2
    rcases st.own a (hS' a ⟨j, q⟩) with z | z
    · exact nS hl' q2 z
    · obtain ⟨_, u, hu⟩ := w.ownF ⟨l, q2⟩
      rw [hu] at z; cases z
  refine ⟨⟨w'.sub, by rw [pb_len]; exact w.len, fun i v o h1 h2 => ?_, fun i l a h1 h2 => ?_⟩, fun a ⟨i, hi⟩ => ?_⟩
  · by_cases hi : i ∈ bors rs
    · obtain ⟨j, o', q1, q2, q3⟩ := pb_in rs os' s hi nd hl
      have hlt : i < s.length := by have := (List.getElem?_eq_some_iff.mp h2).1; rwa [pb_len] at this
      rw [q3 hlt] at h2; cases h2
      obtain ⟨v', e1, e2⟩ := hv j i q1
      rw [h1] at e2; cases e2
      exact w'.rel j _ _ (by rw [List.getElem?_map, e1]; rfl) q2
    · rw [pb_out rs os' s hi] at h2
      refine (w.rel i v o h1 h2).keep st.sub (fun a u ho hv' hu => st.keep a u hu (nS hi ⟨by rw [h1, hv'], o, h2, ho⟩)) fun a ho hv' => ?_
      have q : OwnAt σ s i a := ⟨by rw [h1, hv'], o, h2, ho⟩
      obtain ⟨q1, u, q2⟩ := w.ownF ⟨i, q⟩
      cases e : F' a with
      | none => rfl
      | some z =>
        rcases st.new a z e with h | h | h
        · rw [q1] at h; cases h
        · rw [q2] at h; cases h
        · exact absurd h (nS hi q)
  · by_cases hi : i ∈ bors rs
    · by_cases hl' : l ∈ bors rs
      · obtain ⟨j1, e1, q1⟩ := ins hi h1
        obtain ⟨j2, e2, q2⟩ := ins hl' h2
        have := w'.dis _ _ _ q1 q2
        subst this
        rw [e1] at e2; cases e2; rfl
      · exact (cross hi hl' h1 h2).elim
    · by_cases hl' : l ∈ bors rs
      · exact (cross hl' hi h2 h1).elim
      · exact w.dis _ _ _ (out hi h1) (out hl' h2)
  · by_cases h : i ∈ bors rs
    · obtain ⟨j, e, q⟩ := ins h hi
      exact .inr ⟨j, i, e, q⟩
    · exact .inl ⟨⟨i, out h hi⟩, nS h (out h hi)⟩
end
def callK (φ : SF) (rs : List Rs) : SE := fun s => if (bors rs).Nodup then (match φ (rs.map (parO s)) with
  | some (.ok o os') => some (.ok (rsO o) (pb s rs os'))
  | some (.ex e os') => some (.ex e (pb s rs os'))
  | none => none) else none
def callS (φ : SF) (fa : SA) : SE := M.bind fa fun rs => callK φ rs
theorem ROs.bor {Γ : Gm} {F : Hp} {σ : St} {vs : List V} {rs : List Rs} (h : ROs Γ F σ vs rs) (j i : Nat) (e : rs[j]? = some (.bor i)) : ∃ v, vs[j]? = some v ∧ σ[i]? = some (some v) := by
  obtain ⟨v, hv, ro⟩ := h.get e
  exact ⟨v, hv, ro⟩
/-- the results, for the caller -/
theorem callK_post {Γ : Gm} {W : St → XK} {F H F1 H1 : Hp} {σ : St} {env s : List O} {φ : SF} {rs : List Rs} {res : Ot Rs} {Q : VK} {vs : List V} {n : Nat} (w1 : Wr Γ F1 H1 σ s) (r1 : ROs Γ F1 σ vs rs) (st1 : Stp F H (Own σ env) F1 H1 (Own σ s)) (hf : callK φ rs s = some res)
    (post : PostE Γ W F H σ env Q res) (hn : rs.length = n) : spF Γ n φ vs H1 Q (W σ) := by
  unfold callK at hf
  split at hf
  case isFalse => cases hf
  rename_i nd
  have wc := w1.enter r1 nd
  have hS : ∀ a, Own (vs.map some) (rs.map (parO s)) a → (∃ i, i ∈ bors rs ∧ OwnAt σ s i a) ∨ ¬ Own σ s a := fun a ⟨j, hj⟩ => by
    obtain ⟨i, e, q⟩ := own_arg r1 hj
    exact .inl ⟨i, mem_bors e, q⟩
  have hSo : ∀ a, Own (vs.map some) (rs.map (parO s)) a → Own σ s a := fun a ⟨j, hj⟩ => by
    obtain ⟨i, e, q⟩ := own_arg r1 hj
    exact ⟨i, q⟩
  have st0 : Stp F1 H1 (Own σ s) F1 H1 (Own (vs.map some) (rs.map (parO s))) := Stp.refl.weak fun a h => .inl (hSo a h)
  -- the step as the caller sees it
  have stp : ∀ {F' H' : Hp} {S' T : Addr → Prop}, Stp F1 H1 (Own (vs.map some) (rs.map (parO s))) F' H' S' → (∀ a, T a → (Own σ s a ∧ ¬ Own (vs.map some) (rs.map (parO s)) a) ∨ S' a) → Stp F1 H1 (Own σ s) F' H' T := fun {F' H' S' T} st h =>
    ⟨st.sub, fun a u e => (st.new a u e).elim .inl fun z => .inr (z.elim .inl fun q => .inr (hSo a q)), fun a u e n => st.keep a u e fun q => n (hSo a q), fun a t => (h a t).elim (fun q => .inl q.1) fun q => (st.own a q).elim (fun z => .inl (hSo a z)) .inr⟩
  cases hφ : φ (rs.map (parO s)) with
  | none => simp only [hφ] at hf; cases hf
  | some rr =>
    simp only [hφ] at hf
    refine ⟨by rw [r1.length, hn], F1, _, rr, wc, hφ, ?_⟩
    cases rr with
    | ok o os' =>
      cases hf
      intro v F' H' w' rv st
      obtain ⟨we, oe'⟩ := w1.exit r1.bor r1.length nd hS w' st fun a h => by
        cases o <;> first | exact h | exact .inl h
      have oe : ∀ a, Own σ (pb s rs os') a → (Own σ s a ∧ ¬ Own (vs.map some) (rs.map (parO s)) a) ∨ Own (vs.map some) os' a := fun a h => (oe' a h).imp id fun ⟨j, _, _, q⟩ => ⟨j, q⟩
      have post' : ∀ v F' H', Wr Γ F' H' σ (pb s rs os') → RR Γ F' H' σ (pb s rs os') v (rsO o) → Stp F H (Own σ env) F' H' (OwnR σ (pb s rs os') v (rsO o)) → Q v H' := post
      refine post' v F' H' we ?_ (st1.trans (stp st ?_))
      · cases hr : rsO o with
        | fz d => rw [hr] at rv; exact rv
        | bor i => cases o <;> cases hr
        | ow o' =>
          rw [hr] at rv st
          refine ⟨rv.1, rv.2.1, fun a e q => ?_⟩
          rcases oe a q with ⟨q1, q2⟩ | q
          · rcases st.own a (.inr e) with z | z
            · exact q2 z
            · obtain ⟨_, u, hu⟩ := w1.ownF q1
              rw [hu] at z; cases z
          · exact rv.2.2 a e q
      · intro a h
        cases hr : rsO o with
        | fz d => rw [hr] at h; exact (oe a h).imp id id
        | bor i => cases o <;> cases hr
        | ow o' =>
          rw [hr] at h
          rcases h with h | h
          · exact (oe a h).imp id .inl
          · exact .inr (.inr h)
    | ex e os' =>
      cases hf
      intro cls dd F' H' w' xr st
      obtain ⟨we, oe'⟩ := w1.exit r1.bor r1.length nd hS w' st fun a h => h
      have oe : ∀ a, Own σ (pb s rs os') a → (Own σ s a ∧ ¬ Own (vs.map some) (rs.map (parO s)) a) ∨ Own (vs.map some) os' a := fun a h => (oe' a h).imp id fun ⟨j, _, _, q⟩ => ⟨j, q⟩
      exact post cls dd F' H' we xr (st1.trans (stp st fun a h => (oe a h).imp id id))
theorem sim_call {Γ : Gm} {W : St → XK} {t : TA} {fa : SA} {φ : SF} {n : Nat} (h : SimA Γ W t fa) (hn : ∀ s rs s', fa s = some (.ok rs s') → rs.length = n) : SimE Γ W (tCallS (spF Γ n φ) W t) (callS φ fa) := by
  intro F H σ env res Q w hf post
  rcases M.bind_some hf with ⟨e, s', h1, rfl⟩ | ⟨rs, s', h1, h2⟩
  · exact h F H σ env _ _ w h1 post
  · exact h F H σ env _ _ w h1 fun vs F1 H1 w1 r1 st1 => callK_post w1 r1 st1 h2 post (hn _ _ _ h1)
/-- the number of the arguments -/
def ArgN (fa : SA) (n : Nat) : Prop := ∀ s rs s', fa s = some (.ok rs s') → rs.length = n
theorem argN_nil : ArgN aNil 0 := fun s rs s' h => by cases h; rfl
theorem argN_cons {f : SE} {g : SA} {n : Nat} (h : ArgN g n) : ArgN (aCons f g) (n + 1) := fun s rs s' e => by
  rcases M.bind_some e with ⟨_, _, _, e'⟩ | ⟨r, s1, h1, h2⟩
  · cases e'
  · rcases M.bind_some h2 with ⟨_, _, _, e'⟩ | ⟨rs', s2, h3, h4⟩
    · cases e'
    · cases h4; simp [h _ _ _ h3]
/-- a def that computes φ stands under the name x -/
structure Cal (P : Program) (w : World) (K : PySem.W.Frag) (mg : Str → Option Value) (base : Heap) (Γ : Gm) (CXv : CXT) (k : Nat) (x : Str) (n : Nat) (φ : SF) : Prop where
  ex : ∃ (f : Addr) (fd : FuncData) (ps : List Str), mg x = some (.ref f) ∧ FnOk P w K mg base CXv k f fd ps (spF Γ n φ) ∧ PySem.W.keepIn K (.ref f) = true ∧ Binds K fd ps []
theorem Cal.mono {P : Program} {w : World} {K : PySem.W.Frag} {mg : Str → Option Value} {base : Heap} {Γ : Gm} {CXv : CXT} {j k : Nat} {x : Str} {n : Nat} {φ : SF} (h : Cal P w K mg base Γ CXv j x n φ) (hk : j ≤ k) : Cal P w K mg base Γ CXv k x n φ := by
  obtain ⟨f, fd, ps, h1, h2, h3, h4⟩ := h.ex
  exact ⟨f, fd, ps, h1, h2.mono hk, h3, h4⟩
section
variable {X : Cx} {Γ : Gm} {W : St → XK} {CXv : CXT} {j k n : Nat} {pos p : Pos} {e : Expr} {es : List Expr} {fa : SA} {x : Str} {φ : SF}
theorem ee_call (c : Ok X Γ W CXv k) (C : Cal X.prog X.w X.K X.mg X.base Γ CXv j x n φ) (ha : EA X Γ W (e :: es) fa) (hn : ArgN fa n) (hjk : j ≤ k := by decide) (hg : Gl X x := by rfl)
    (hdb : (x == ("__debug__" : Str)) = false := by decide) (he : starEach (e :: es) X.env = (false, eval e X.env) :: starEach es X.env := by rfl) (hpl : (backTo pos (starEach es X.env)).any (·.1) = false := by rfl) : EE X Γ W (.Call (.Name x p) (e :: es) [] pos) (callS φ fa) := by
  obtain ⟨f, fd, ps, h1, h2, h3, h4⟩ := (C.mono hjk).ex
  exact ⟨_, pe_callS h2 c.hr hg h1 h3 h4 c.pas ha.choose_spec.1 hdb he hpl, sim_call ha.choose_spec.2 hn⟩
end
end Ev
-- EvP
set_option Elab.async false
set_option linter.all false
set_option maxRecDepth 100000
set_option maxHeartbeats 2000000
namespace Ev
open PySem PySem.Spec L2 HT ClX
open PyProof.Rows hiding St

/-! ## methods, making -/
def insOk (cls m : String) : Option D → Bool
  | some (.ins c fs) => decide (c = cls) && (fs.lookup m).isNone
  | _ => false
def isIns (cls : String) : Option D → Bool
  | some (.ins c _) => decide (c = cls)
  | _ => false
/-- o.m(..) -/
def metcS (cls m : String) (φ : SF) (fo : SE) (fa : SA) : SE := M.bind (opd fo) fun r s1 => if insOk cls m (vw s1 r) = true then M.bind fa (fun rs => callK φ (r :: rs)) s1 else none
def tMethS (C : Addr) (m : Str) (sp : Sp) (E : St → XK) (ta : TE) (t : TA) : TE := fun σ H Q => ta σ H fun x H1 => ∃ a dx fs, x = .ref a ∧ H1 a = some (.ins C dx fs) ∧ fs.lookup m = none ∧ t σ H1 fun vs H2 => sp (x :: vs) H2 Q (E σ)
theorem insOk_some {cls m : String} {o : Option D} (h : insOk cls m o = true) : ∃ fs, o = some (.ins cls fs) ∧ fs.lookup m = none := by
  unfold insOk at h
  split at h
  · rw [Bool.and_eq_true, decide_eq_true_eq] at h
    obtain ⟨rfl, h⟩ := h
    exact ⟨_, rfl, by simpa using h⟩
  · cases h
theorem isIns_some {cls : String} {o : Option D} (h : isIns cls o = true) : ∃ fs, o = some (.ins cls fs) := by
  unfold isIns at h
  split at h
  · rw [decide_eq_true_eq] at h
    subst h
    exact ⟨_, rfl⟩
  · cases h
section
variable {Γ : Gm} {W : St → XK} {φ : SF} {n : Nat} {cls m : String} {fo : SE} {fa : SA} {ta : TE} {t : TA}
theorem sim_meth (ho : SimE Γ W ta fo) (h : SimA Γ W t fa) (hn : ArgN fa n) : SimE Γ W (tMethS (Γ.cls cls) (m : Str) (spF Γ (n + 1) φ) W ta t) (metcS cls m φ fo fa) := by
  intro F H σ env res Q w hf post
  rcases M.bind_some hf with ⟨e, s', h1, rfl⟩ | ⟨r, s1, h1, h2⟩
  · exact ho.opd F H σ env _ _ w h1 post
  have op := opd_opn h1
  refine ho.opd F H σ env _ _ w h1 fun v F1 H1 w1 r1 st1 => ?_
  have st1b := RR.stp st1
  split at h2
  case isFalse => cases h2
  rename_i hi
  obtain ⟨fs, hv, hl⟩ := insOk_some hi
  obtain ⟨a, dx, fvs, rfl, ha, rf, ok⟩ := (r1.vw op w1 .refl hv).ins w1.sub
  refine ⟨a, dx, fvs, rfl, ha, rf.none hl, ?_⟩
  have ro := r1.ro op
  rcases M.bind_some h2 with ⟨e, s2, h3, rfl⟩ | ⟨rs, s2, h3, h4⟩
  · exact h F1 H1 σ s1 _ _ w1 h3 fun cls dd F' H' w' x st => post cls dd F' H' w' x (st1b.trans st)
  · exact h F1 H1 σ s1 _ _ w1 h3 fun vs F2 H2 w2 r2 st2 => callK_post w2 (.cons (ro.mono st2.sub) r2) (st1b.trans st2) h4 post (by simp [hn _ _ _ h3])
end
/-- a class's def that computes φ (self among the n) -/
structure CalM (P : Program) (w : World) (K : PySem.W.Frag) (mg : Str → Option Value) (base : Heap) (Γ : Gm) (CXv : CXT) (k : Nat) (cls m : String) (n : Nat) (φ : SF) : Prop where
  ex : ∃ (f : Addr) (fd : FuncData) (ps : List Str), Cls K (Γ.cls cls) ∧ Meth K (Γ.cls cls) (m : Str) f ∧ FnOk P w K mg base CXv k f fd ps (spF Γ n φ) ∧ Binds K fd ps []
theorem CalM.mono {P : Program} {w : World} {K : PySem.W.Frag} {mg : Str → Option Value} {base : Heap} {Γ : Gm} {CXv : CXT} {j k : Nat} {cls m : String} {n : Nat} {φ : SF} (h : CalM P w K mg base Γ CXv j cls m n φ) (hk : j ≤ k) : CalM P w K mg base Γ CXv k cls m n φ := by
  obtain ⟨f, fd, ps, h1, h2, h3, h4⟩ := h.ex
  exact ⟨f, fd, ps, h1, h2, h3.mono hk, h4⟩
section
variable {X : Cx} {Γ : Gm} {W : St → XK} {CXv : CXT} {j k n : Nat} {pos p apos : Pos} {o e : Expr} {es : List Expr} {fo : SE} {fa : SA} {φ : SF} {cls m : String} {C f : Addr} {fd : FuncData} {ps : List Str} {sp : Sp} {ta : TE} {t : TA} {E : St → XK}
theorem pe_methX {m : Str} {pl : Sem Bool} (he : PE X o ta) (c : Cls X.K C) (hm : Meth X.K C m f) (F : FnOk X.prog X.w X.K X.mg X.base CXv k f fd ps sp) (hr : Room k X.A) (hb : Binds X.K fd ps []) (hx : ∀ σ, PassesAt CXv X σ (E σ)) (ha : PA X (e :: es) t)
    (hst : starEach (e :: es) X.env = (false, eval e X.env) :: starEach es X.env := by rfl) (hpl : (backTo pos (starEach es X.env)).any (·.1) = false := by rfl)
    (ht : eval (.Call (.Attribute o m apos) (e :: es) [] pos) X.env = (do
      let ov ← eval o X.env
      standAt apos.atName
      let (f, first) ← holding [ov] (getMethod ov m pl)
      callWith pos f first (backTo pos (starEach (e :: es) X.env)) (backToKw pos (keywordEach [] X.env))) := by rfl) :
    PE X (.Call (.Attribute o m apos) (e :: es) [] pos) (tMethS C m sp E ta t) := by
  refine ⟨fun pins s σ H Q I h => ?_⟩
  refine PySem.W.methodCall_KW (pl := pl) (thn (he.run pins s σ H _ I h) fun u s1 ⟨x, H1, I1, rx, a, dx, fs, ex, ea, l, q⟩ => ?_) ht
  subst ex
  obtain rfl : u = Value.ref a := rx
  refine getmeth_ok I1 ea c hm l ?_
  refine PySem.W.callWith_K (first := [.ref a]) (h₀ := X.base) I.ok.mod.kin hm.kp (thn (ha.run pos pins s1 σ H1 _ I1 q) fun us s2 ⟨vs, H2, I2, r, q2⟩ => ⟨I2.kIn, ?_⟩) hst hpl
  exact run_fnS (us := .ref a :: us) (vs := .ref a :: vs) F hr hb (hx σ) I2 (.cons rfl r) q2
theorem pe_methX0 {m : Str} {pl : Sem Bool} (he : PE X o ta) (c : Cls X.K C) (hm : Meth X.K C m f) (F : FnOk X.prog X.w X.K X.mg X.base CXv k f fd ps sp) (hr : Room k X.A) (hb : Binds X.K fd ps []) (hx : ∀ σ, PassesAt CXv X σ (E σ))
    (ht : eval (.Call (.Attribute o m apos) [] [] pos) X.env = (do
      let ov ← eval o X.env
      standAt apos.atName
      let (f, first) ← holding [ov] (getMethod ov m pl)
      callWith pos f first (backTo pos (starEach [] X.env)) (backToKw pos (keywordEach [] X.env))) := by rfl) :
    PE X (.Call (.Attribute o m apos) [] [] pos) (tMethS C m sp E ta tNil) := by
  refine ⟨fun pins s σ H Q I h => ?_⟩
  refine PySem.W.methodCall_KW (pl := pl) (thn (he.run pins s σ H _ I h) fun u s1 ⟨x, H1, I1, rx, a, dx, fs, ex, ea, l, q⟩ => ?_) ht
  subst ex
  obtain rfl : u = Value.ref a := rx
  refine getmeth_ok I1 ea c hm l ?_
  exact PySem.W.callWith_K0 (first := [.ref a]) I1.kIn hm.kp (run_fnS (us := [.ref a]) (vs := [.ref a]) F hr hb (hx σ) I1 (.cons rfl .nil) q)
theorem ee_meth {pl : Sem Bool} (c : Ok X Γ W CXv k) (M : CalM X.prog X.w X.K X.mg X.base Γ CXv j cls m (n + 1) φ) (ho : EE X Γ W o fo) (ha : EA X Γ W (e :: es) fa) (hn : ArgN fa n) (hjk : j ≤ k := by decide)
    (hst : starEach (e :: es) X.env = (false, eval e X.env) :: starEach es X.env := by rfl) (hpl : (backTo pos (starEach es X.env)).any (·.1) = false := by rfl)
    (ht : eval (.Call (.Attribute o (m : Str) apos) (e :: es) [] pos) X.env = (do
      let ov ← eval o X.env
      standAt apos.atName
      let (f, first) ← holding [ov] (getMethod ov (m : Str) pl)
      callWith pos f first (backTo pos (starEach (e :: es) X.env)) (backToKw pos (keywordEach [] X.env))) := by rfl) :
    EE X Γ W (.Call (.Attribute o (m : Str) apos) (e :: es) [] pos) (metcS cls m φ fo fa) := by
  obtain ⟨f, fd, ps, h1, h2, h3, h4⟩ := (M.mono hjk).ex
  exact ⟨_, pe_methX ho.choose_spec.1 h1 h2 h3 c.hr h4 c.pas ha.choose_spec.1 hst hpl ht, sim_meth ho.choose_spec.2 ha.choose_spec.2 hn⟩
theorem ee_meth0 {pl : Sem Bool} (c : Ok X Γ W CXv k) (M : CalM X.prog X.w X.K X.mg X.base Γ CXv j cls m 1 φ) (ho : EE X Γ W o fo) (hjk : j ≤ k := by decide)
    (ht : eval (.Call (.Attribute o (m : Str) apos) [] [] pos) X.env = (do
      let ov ← eval o X.env
      standAt apos.atName
      let (f, first) ← holding [ov] (getMethod ov (m : Str) pl)
      callWith pos f first (backTo pos (starEach [] X.env)) (backToKw pos (keywordEach [] X.env))) := by rfl) :
    EE X Γ W (.Call (.Attribute o (m : Str) apos) [] [] pos) (metcS cls m φ fo aNil) := by
  obtain ⟨f, fd, ps, h1, h2, h3, h4⟩ := (M.mono hjk).ex
  exact ⟨_, pe_methX0 ho.choose_spec.1 h1 h2 h3 c.hr h4 c.pas ht, sim_meth ho.choose_spec.2 (fun F H σ env res Q w hf post => by cases hf; exact post [] F H w .nil .refl) argN_nil⟩
end
/-! ### a new instance -/
def makeS (cls : String) (φ : SF) (fa : SA) : SE := M.bind fa fun rs s => if (bors rs).Nodup then (match φ (.ins cls [] :: rs.map (parO s)) with
  | some (.ok (.fz .non) (.ins c fs :: os')) => some (.ok (.ow (.ins c fs)) (pb s rs os'))
  | some (.ok (.fz .non) (.fz d :: os')) => some (.ok (.fz d) (pb s rs os'))
  | some (.ex e (_ :: os')) => some (.ex e (pb s rs os'))
  | _ => none) else none
def tMakeS (C : Addr) (sp : Sp) (E : St → XK) (t : TA) : TE := fun σ H Q => t σ H fun vs H1 => ∀ x dx, H1 x = none → H1 dx = none → dx ≠ x →
  sp (.ref x :: vs) (upd (upd H1 dx (.own x)) x (.ins C dx [])) (fun v H2 => v = .non ∧ Q (.ref x) H2) (E σ)
section
variable {Γ : Gm} {F H : Hp}
theorem Wr.cons {σ : St} {os : List O} {v : V} {o : O} (w : Wr Γ F H σ os) (r : OR Γ F H (some v) o) (n : o.own = true → ∀ a, v = .ref a → ¬ Own σ os a) : Wr Γ F H (some v :: σ) (o :: os) := by
  have at_ : ∀ {i : Nat} {a : Addr}, OwnAt (some v :: σ) (o :: os) (i + 1) a → OwnAt σ os i a := fun {i a} ⟨h1, o', h2, h3⟩ => ⟨by simpa using h1, o', by simpa using h2, h3⟩
  have at0 : ∀ {a : Addr}, OwnAt (some v :: σ) (o :: os) 0 a → o.own = true ∧ v = .ref a := fun {a} ⟨h1, o', h2, h3⟩ => by
    simp at h1 h2; subst h2; exact ⟨h3, h1⟩
  refine ⟨w.sub, by simp [w.len], fun i v' o' h1 h2 => ?_, fun i j a h1 h2 => ?_⟩
  · cases i with
    | zero => simp at h1 h2; subst h1 h2; exact r
    | succ i => exact w.rel i v' o' (by simpa using h1) (by simpa using h2)
  · cases i with
    | zero =>
      cases j with
      | zero => rfl
      | succ j =>
        obtain ⟨q1, q2⟩ := at0 h1
        exact absurd ⟨j, at_ h2⟩ (n q1 a q2)
    | succ i =>
      cases j with
      | zero =>
        obtain ⟨q1, q2⟩ := at0 h2
        exact absurd ⟨i, at_ h1⟩ (n q1 a q2)
      | succ j => rw [w.dis i j a (at_ h1) (at_ h2)]
end
theorem sim_make {Γ : Gm} {W : St → XK} {φ : SF} {n : Nat} {cls : String} {fa : SA} {t : TA} (hc : Cls Γ.K (Γ.cls cls)) (h : SimA Γ W t fa) (hn : ArgN fa n) : SimE Γ W (tMakeS (Γ.cls cls) (spF Γ (n + 1) φ) W t) (makeS cls φ fa) := by
  intro F H σ env res Q w hf post
  rcases M.bind_some hf with ⟨e, s', h1, rfl⟩ | ⟨rs, s, h1, h2⟩
  · exact h F H σ env _ _ w h1 post
  refine h F H σ env _ _ w h1 fun vs F1 H1 w1 r1 st1 => ?_
  intro x dx hx hdx hne
  split at h2
  case isFalse => cases h2
  rename_i nd
  have fx : F1 x = none := none_of_sub w1.sub hx
  have ox : ¬ Own σ s x := fun q => by obtain ⟨_, u, e⟩ := w1.ownF q; rw [hx] at e; cases e
  have kp : ∀ a u, H1 a = some u → (upd (upd H1 dx (.own x)) x (.ins (Γ.cls cls) dx [])) a = some u := fun a u e => by
    rw [upd_ne (by intro z; subst z; rw [hx] at e; cases e), upd_ne (by intro z; subst z; rw [hdx] at e; cases e)]; exact e
  generalize hH2 : upd (upd H1 dx (.own x)) x (.ins (Γ.cls cls) dx []) = H2 at kp
  have h2x : H2 x = some (.ins (Γ.cls cls) dx []) := by rw [← hH2]; exact upd_same
  have w2 : Wr Γ F1 H2 σ s := w1.mono .refl (fun a u e => kp a u (w1.sub _ _ e)) fun a u q e => ⟨kp a u e, (w1.ownF q).1⟩
  have st2 : Stp F1 H1 (Own σ s) F1 H2 (Pl (Own σ s) x) := ⟨.refl, fun _ _ q => .inl q, fun a u e _ => kp a u e, fun a q => q.elim .inl fun z => .inr (by rw [z]; exact hx)⟩
  have we := w2.enter r1 nd
  have own_e : ∀ a, Own (vs.map some) (rs.map (parO s)) a → ∃ i, i ∈ bors rs ∧ OwnAt σ s i a := fun a ⟨j, hj⟩ => by
    obtain ⟨i, e, q⟩ := own_arg r1 hj
    exact ⟨i, mem_bors e, q⟩
  have w3 : Wr Γ F1 H2 ((V.ref x :: vs).map some) (.ins cls [] :: rs.map (parO s)) := we.cons (.ins h2x .nil ⟨hc, fun f hf => by cases hf⟩ fx) fun _ a e q => by
    cases e
    obtain ⟨i, _, q⟩ := own_e _ q
    exact ox ⟨i, q⟩
  have hS : ∀ a, Own ((V.ref x :: vs).map some) (.ins cls [] :: rs.map (parO s)) a → (∃ i, i ∈ bors (.fz .non :: rs) ∧ OwnAt σ s i a) ∨ a = x := fun a ⟨j, h1, o, h2, h3⟩ => by
    cases j with
    | zero => simp at h1; exact .inr h1.symm
    | succ j => exact .inl (own_e a ⟨j, by simpa using h1, o, by simpa using h2, h3⟩)
  have hv : ∀ (j i : Nat), (Rs.fz .non :: rs)[j]? = some (.bor i) → ∃ v, (V.ref x :: vs)[j]? = some v ∧ σ[i]? = some (some v) := fun j i e => by
    cases j with
    | zero => simp at e
    | succ j => simpa using r1.bor j i (by simpa using e)
  have stp : ∀ {F' H' : Hp} {S' T : Addr → Prop}, Stp F1 H2 (Own ((V.ref x :: vs).map some) (.ins cls [] :: rs.map (parO s))) F' H' S' → (∀ a, T a → (Own σ s a) ∨ S' a) → Stp F1 H2 (Pl (Own σ s) x) F' H' T := fun {F' H' S' T} st h => by
    have so : ∀ a, Own ((V.ref x :: vs).map some) (.ins cls [] :: rs.map (parO s)) a → Pl (Own σ s) x a := fun a q => (hS a q).elim (fun ⟨i, _, z⟩ => .inl ⟨i, z⟩) .inr
    exact ⟨st.sub, fun a u e => (st.new a u e).elim .inl fun z => .inr (z.elim .inl fun q => .inr (so a q)), fun a u e n => st.keep a u e fun q => n (so a q), fun a t => (h a t).elim (fun q => .inl (.inl q)) fun q => (st.own a q).elim (fun z => .inl (so a z)) .inr⟩
  cases hφ : φ (.ins cls [] :: rs.map (parO s)) with
  | none => simp only [hφ] at h2; cases h2
  | some rr =>
    refine ⟨by simp [r1.length, hn _ _ _ h1], F1, _, rr, w3, hφ, ?_⟩
    have ext : ∀ {F' H' : Hp} {os' : List O} {S' : Addr → Prop}, Wr Γ F' H' ((V.ref x :: vs).map some) os' → Stp F1 H2 (Own ((V.ref x :: vs).map some) (.ins cls [] :: rs.map (parO s))) F' H' S' → (∀ a, Own ((V.ref x :: vs).map some) os' a → S' a) →
        Wr Γ F' H' σ (pb s (.fz .non :: rs) os') ∧ ∀ a, Own σ (pb s (.fz .non :: rs) os') a → Own σ s a ∨ (a ≠ x ∧ Own ((V.ref x :: vs).map some) os' a) ∨ (a = x ∧ ∃ j, OwnAt ((V.ref x :: vs).map some) os' (j + 1) a) := fun {F' H' os' S'} w' st hs' => by
      obtain ⟨a1, a2⟩ := w2.exit hv (by simp [r1.length]) nd (fun a q => (hS a q).imp id fun z => by rw [z]; exact ox) w' st hs'
      refine ⟨a1, fun a q => ?_⟩
      rcases a2 a q with ⟨z, _⟩ | ⟨j, i, e, z⟩
      · exact .inl z
      · cases j with
        | zero => simp at e
        | succ j =>
          by_cases ex : a = x
          · exact .inr (.inr ⟨ex, j, z⟩)
          · exact .inr (.inl ⟨ex, j + 1, z⟩)
    simp only [hφ] at h2
    split at h2
    · rename_i c fs os' e
      cases e
      cases h2
      intro v F' H' w' rv st
      have rv : Rv Γ F' v .non := rv
      cases rv
      refine ⟨rfl, ?_⟩
      have st' : Stp F1 H2 _ F' H' (Own ((V.ref x :: vs).map some) (.ins c fs :: os')) := st
      obtain ⟨we', oe⟩ := ext w' st' fun a h => h
      have r0 := w'.rel 0 (some (.ref x)) (.ins c fs) rfl rfl
      refine post (.ref x) F' H' we' ⟨r0, rfl, fun a e q => ?_⟩ ((st1.trans st2).trans (stp st' fun a q => ?_))
      · cases e
        rcases oe x q with z | ⟨z, _⟩ | ⟨_, j, z⟩
        · exact ox z
        · exact z rfl
        · have := w'.dis _ _ _ z (⟨rfl, .ins c fs, rfl, rfl⟩ : OwnAt ((V.ref x :: vs).map some) (.ins c fs :: os') 0 x)
          omega
      · rcases q with q | q
        · rcases oe a q with z | ⟨_, z⟩ | ⟨_, j, z⟩
          · exact .inl z
          · exact .inr z
          · exact .inr ⟨_, z⟩
        · cases q
          exact .inr (⟨0, rfl, .ins c fs, rfl, rfl⟩ : Own ((V.ref x :: vs).map some) (.ins c fs :: os') x)
    · rename_i d os' e
      cases e
      cases h2
      intro v F' H' w' rv st
      have rv : Rv Γ F' v .non := rv
      cases rv
      refine ⟨rfl, ?_⟩
      have st' : Stp F1 H2 _ F' H' (Own ((V.ref x :: vs).map some) (.fz d :: os')) := st
      obtain ⟨we', oe⟩ := ext w' st' fun a h => h
      have r0 := w'.rel 0 (some (.ref x)) (.fz d) rfl rfl
      cases r0 with
      | fz r0 =>
        refine post (.ref x) F' H' we' r0 ((st1.trans st2).trans (stp st' fun a q => ?_))
        rcases oe a q with z | ⟨_, z⟩ | ⟨_, j, z⟩
        · exact .inl z
        · exact .inr z
        · exact .inr ⟨_, z⟩
    · rename_i e o os' eq
      cases eq
      cases h2
      intro cls' dd F' H' w' xr st
      obtain ⟨we', oe⟩ := ext w' st fun a h => h
      refine post cls' dd F' H' we' xr ((st1.trans st2).trans (stp st fun a q => ?_))
      rcases oe a q with z | ⟨_, z⟩ | ⟨_, j, z⟩
      · exact .inl z
      · exact .inr z
      · exact .inr ⟨_, z⟩
    · cases h2
/-- a class whose __init__ computes φ (self among the n) stands under its name -/
structure CalC (P : Program) (w : World) (K : PySem.W.Frag) (mg : Str → Option Value) (base : Heap) (Γ : Gm) (CXv : CXT) (k : Nat) (cls : String) (n : Nat) (φ : SF) : Prop where
  ex : ∃ (f : Addr) (fd : FuncData) (ps : List Str), mg (cls : Str) = some (.ref (Γ.cls cls)) ∧ Cls K (Γ.cls cls) ∧ Mk K (Γ.cls cls) f ∧ FnOk P w K mg base CXv k f fd ps (spF Γ n φ) ∧ Binds K fd ps []
theorem CalC.mono {P : Program} {w : World} {K : PySem.W.Frag} {mg : Str → Option Value} {base : Heap} {Γ : Gm} {CXv : CXT} {j k : Nat} {cls : String} {n : Nat} {φ : SF} (h : CalC P w K mg base Γ CXv j cls n φ) (hk : j ≤ k) : CalC P w K mg base Γ CXv k cls n φ := by
  obtain ⟨f, fd, ps, h0, h1, h2, h3, h4⟩ := h.ex
  exact ⟨f, fd, ps, h0, h1, h2, h3.mono hk, h4⟩
section
variable {X : Cx} {Γ : Gm} {W : St → XK} {CXv : CXT} {j k n : Nat} {pos p apos : Pos} {o e : Expr} {es : List Expr} {fo : SE} {fa : SA} {φ : SF} {cls : String} {C f : Addr} {fd : FuncData} {ps : List Str} {sp : Sp} {t : TA} {E : St → XK} {x : Str}
theorem pe_makeX (M : Mk X.K C f) (F : FnOk X.prog X.w X.K X.mg X.base CXv k f fd ps sp) (hr : Room (k + 1) X.A) (hg : Gl X x) (hm : X.mg x = some (.ref C)) (hb : Binds X.K fd ps []) (hx : ∀ σ, PassesAt CXv X σ (E σ)) (hxi : ∀ (a b : Hp), True)
    (ha : PA X (e :: es) t) (hdb : (x == ("__debug__" : Str)) = false := by decide) (he : starEach (e :: es) X.env = (false, eval e X.env) :: starEach es X.env := by rfl) (hpl : (backTo pos (starEach es X.env)).any (·.1) = false := by rfl) :
    PE X (.Call (.Name x p) (e :: es) [] pos) (tMakeS C sp E t) := by
  refine ⟨fun pins s σ H Q I h => ?_⟩
  refine wpAny_Call_Name_kw (ld_glob I hg hm ?_ hdb)
  refine PySem.W.callWith_K (h₀ := X.base) I.ok.mod.kin M.kp (thn (ha.run pos pins s σ H _ I h) fun us s1 ⟨vs, H1, I1, r, q⟩ => ⟨I1.kIn, ?_⟩) he hpl
  have hq := q (s1.heap.objs.size + 1) s1.heap.objs.size (I1.hok.fresh (Nat.le_succ _)) (I1.hok.fresh (Nat.le_refl _)) (Nat.ne_of_lt (Nat.lt_succ_self _))
  have I2 := Inv.made (C := C) I1
  have r2 : Vals (V.ref (s1.heap.objs.size + 1) :: vs) (Value.ref (s1.heap.objs.size + 1) :: us) := .cons rfl r
  have hl : (Value.ref (s1.heap.objs.size + 1) :: us).length = ps.length := by
    have e := r2.length
    rw [F.len _ _ _ _ hq] at e
    exact e.symm
  have b := hb _ (Value.ref (s1.heap.objs.size + 1) :: us) I2.kIn (by rw [List.append_nil]; exact hl)
  rw [List.append_nil] at b
  refine wpAny_call (make_map (f := f) I1.kIn M.makes M.init (beq_iff_eq.mp M.fn) (codeAny_mono (F.run _ X.stack _ _ ⟨Value.ref (s1.heap.objs.size + 1) :: us, []⟩ (Value.ref (s1.heap.objs.size + 1) :: us) _ _ (E σ) (hr.make C us [])
    (I2.env0.make C us []) b r2 hq) fun r s' hq' => ?_))
  cases r with
  | error e => exact hx σ pins _ _ e s' I2 hq'
  | ok fl =>
    cases fl with
    | ret u =>
      obtain ⟨v, H', I3, rv, ev, q3⟩ := I2.after hq'
      subst ev
      exact ⟨rv, ⟨V.ref (s1.heap.objs.size + 1), H', I3, rfl, q3⟩⟩
    | next => exact False.elim hq'
    | brk => exact False.elim hq'
    | cont => exact False.elim hq'
theorem ee_make (c : Ok X Γ W CXv k) (C : CalC X.prog X.w X.K X.mg X.base Γ CXv j cls (n + 1) φ) (ha : EA X Γ W (e :: es) fa) (hn : ArgN fa n) (hjk : j + 1 ≤ k := by decide) (hg : Gl X (cls : Str) := by rfl)
    (hdb : ((cls : Str) == ("__debug__" : Str)) = false := by decide) (he : starEach (e :: es) X.env = (false, eval e X.env) :: starEach es X.env := by rfl) (hpl : (backTo pos (starEach es X.env)).any (·.1) = false := by rfl) : EE X Γ W (.Call (.Name (cls : Str) p) (e :: es) [] pos) (makeS cls φ fa) := by
  obtain ⟨f, fd, ps, h0, h1, h2, h3, h4⟩ := C.ex
  exact ⟨_, pe_makeX h2 h3 (c.hr.mono hjk) hg h0 h4 c.pas (fun _ _ => trivial) ha.choose_spec.1 hdb he hpl, sim_make (by rw [← c.K]; exact h1) ha.choose_spec.2 hn⟩
end
end Ev
-- EvQ
set_option Elab.async false
set_option linter.all false
set_option maxRecDepth 100000
set_option maxHeartbeats 2000000
namespace Ev
open PySem PySem.Spec L2 HT ClX
open PyProof.Rows hiding St

/-! ## own __contains__, __getitem__ -/
theorem ins_inst {X : Cx} {pins : List (Addr × Obj)} {σ : St} {H : Hp} {s : Shared} {a C dx : Addr} {fs : List (Str × V)} (I : Inv X pins σ H s) (e : H a = some (.ins C dx fs)) : ∃ od, PySem.W.InstAt s.heap a (PySem.W.instObj C dx) C od := by
  obtain ⟨mA, O, _⟩ := ins_get I.hok e
  obtain ⟨od, hd, _⟩ := lookIn_ns O.ns
  exact ⟨some od, ⟨O.obj, rfl, rfl, hd⟩⟩
/-- y in x, x of an own class -/
def tInOwn (neg : Bool) (C : Addr) (sp : Sp) (E : St → XK) (ti to : TE) : TE := fun σ H Q => ti σ H fun y H1 => to σ H1 fun x H2 => ∃ a dx fs, x = .ref a ∧ H2 a = some (.ins C dx fs) ∧ sp [x, y] H2 (fun z H' => ∃ b, z = .bl b ∧ Q (.bl (if neg then !b else b)) H') (E σ)
section
variable {X : Cx} {CXv : CXT} {k : Nat} {o i : Expr} {C f : Addr} {fd : FuncData} {ps : List Str} {sp : Sp} {ti to : TE} {E : St → XK} {pos : Pos}
theorem pc_inOwn (hm : Meth X.K C "__contains__" f) (F : FnOk X.prog X.w X.K X.mg X.base CXv k f fd ps sp) (hr : Room k X.A) (hb : Binds X.K fd ps []) (hx : ∀ σ, PassesAt CXv X σ (E σ)) (hi : PE X i ti) (ho : PE X o to) : PC X .In i o (tInOwn false C sp E ti to) := by
  refine ⟨fun pins s σ H Q I h => ?_⟩
  refine thn (hi.run pins s σ H _ I h) fun iv s1 ⟨y, H1, I1, ry, q1⟩ => thn (ho.run pins s1 σ H1 _ I1 q1) fun u s2 ⟨x, H2, I2, rx, a, dx, fs, ex, ea, q⟩ => ?_
  subst ex
  obtain rfl : u = Value.ref a := rx
  obtain ⟨od, J⟩ := ins_inst I2 ea
  obtain ⟨m, hF⟩ := I2.fr
  refine PySem.W.in_K hF I2.ok.mod.kin J hm.at_ hm.fn (wpAny_mono (run_fnS (us := [.ref a, iv]) (vs := [.ref a, y]) F hr hb (hx σ) I2 (.cons rfl (.cons ry .nil)) q) (fun w s' z => ?_) fun _ _ x => x)
  obtain ⟨z', H', I', rz, b, ez, qz⟩ := z
  subst ez
  cases rz
  exact wpAny_truthy_bool ⟨.bl b, H', I', rfl, qz⟩
theorem pc_ninOwn (hm : Meth X.K C "__contains__" f) (F : FnOk X.prog X.w X.K X.mg X.base CXv k f fd ps sp) (hr : Room k X.A) (hb : Binds X.K fd ps []) (hx : ∀ σ, PassesAt CXv X σ (E σ)) (hi : PE X i ti) (ho : PE X o to) : PC X .NotIn i o (tInOwn true C sp E ti to) := by
  refine ⟨fun pins s σ H Q I h => ?_⟩
  refine thn (hi.run pins s σ H _ I h) fun iv s1 ⟨y, H1, I1, ry, q1⟩ => thn (ho.run pins s1 σ H1 _ I1 q1) fun u s2 ⟨x, H2, I2, rx, a, dx, fs, ex, ea, q⟩ => ?_
  subst ex
  obtain rfl : u = Value.ref a := rx
  obtain ⟨od, J⟩ := ins_inst I2 ea
  obtain ⟨m, hF⟩ := I2.fr
  refine PySem.W.notIn_K hF I2.ok.mod.kin J hm.at_ hm.fn (wpAny_mono (run_fnS (us := [.ref a, iv]) (vs := [.ref a, y]) F hr hb (hx σ) I2 (.cons rfl (.cons ry .nil)) q) (fun w s' z => ?_) fun _ _ x => x)
  obtain ⟨z', H', I', rz, b, ez, qz⟩ := z
  subst ez
  cases rz
  exact wpAny_truthy_bool ⟨.bl (!b), H', I', rfl, qz⟩
/-- x[y], x of an own class -/
def tGetOwn (C : Addr) (sp : Sp) (E : St → XK) (to ti : TE) : TE := fun σ H Q => to σ H fun x H1 => ti σ H1 fun y H2 => ∃ a dx fs, x = .ref a ∧ H2 a = some (.ins C dx fs) ∧ sp [x, y] H2 Q (E σ)
theorem run_fnIn1 {pins : List (Addr × Obj)} {σ : St} {H : Hp} {s : Shared} {Q : VK} {us : List Value} {vs : List V} {E : XK} (F : FnOk X.prog X.w X.K X.mg X.base CXv k f fd ps sp) (hr : Room (k + 1) X.A) (hb : Binds X.K fd ps []) (hx : PassesAt CXv X σ E)
    (I : Inv X pins σ H s) (r : Vals vs us) (h : sp vs H Q E) : wpAny (model X.prog X.w) X.A.in1 (call (.ref f) us) (EP X pins σ Q) X.xe s := by
  have hl : us.length = ps.length := by rw [← r.length]; exact F.len _ _ _ _ h
  have b := hb s us I.kIn (by rw [List.append_nil]; exact hl)
  rw [List.append_nil] at b
  refine wpAny_call (codeAny_mono (F.run X.A.in1 X.stack s H ⟨us, []⟩ us vs Q E hr.in1 I.env0.in1 b r h) fun r s' hq => ?_)
  cases r with
  | error e => exact hx pins H s e s' I hq
  | ok fl =>
    cases fl with
    | ret u => exact I.after hq
    | next => exact False.elim hq
    | brk => exact False.elim hq
    | cont => exact False.elim hq
theorem pe_getOwn (hm : Meth X.K C "__getitem__" f) (hfi : PySem.W.fnIn X.K f = true) (F : FnOk X.prog X.w X.K X.mg X.base CXv k f fd ps sp) (hr : Room (k + 1) X.A) (hb : Binds X.K fd ps []) (hx : ∀ σ, PassesAt CXv X σ (E σ)) (ho : PE X o to) (hi : PE X i ti)
    (hsl : ∀ ov iv, subscripted i true ov iv = runValue (.builtin "lifetime.subscript" ⟨[ov, iv], []⟩) := by intro _ _; with_unfolding_all rfl) : PE X (.Subscript o i pos) (tGetOwn C sp E to ti) := by
  refine ⟨fun pins s σ H Q I h => ?_⟩
  refine Subscript_ (thn (ho.run pins s σ H _ I h) fun u s1 ⟨x, H1, I1, rx, q1⟩ => thn (hi.run pins s1 σ H1 _ I1 q1) fun iv s2 ⟨y, H2, I2, ry, a, dx, fs, ex, ea, q⟩ => ?_)
  subst ex
  obtain rfl : u = Value.ref a := rx
  obtain ⟨od, J⟩ := ins_inst I2 ea
  obtain ⟨m, hF⟩ := I2.fr
  exact PySem.W.sub_K hF I2.ok.mod.kin J hm.at_ hfi hm.fn (run_fnIn1 (us := [.ref a, iv]) (vs := [.ref a, y]) F hr hb (hx σ) I2 (.cons rfl (.cons ry .nil)) q) (hsl _ _)
end
def inOwnS (neg : Bool) (cls : String) (φ : SF) (fi fo : SE) : SE := M.bind (opd fi) fun r => M.bind (opd fo) fun q s => if isIns cls (vw s q) = true then (match callK φ [q, r] s with
  | some (.ok (.fz (.bl b)) s') => some (.ok (.fz (.bl (if neg then !b else b))) s')
  | some (.ex e s') => some (.ex e s')
  | _ => none) else none
def getOwnS (cls : String) (φ : SF) (fo fi : SE) : SE := M.bind (opd fo) fun r => M.bind (opd fi) fun q s => if isIns cls (vw s r) = true then callK φ [r, q] s else none
theorem sim_inOwn {Γ : Gm} {W : St → XK} {φ : SF} {cls : String} {neg : Bool} {fi fo : SE} {ti to : TE} (hi : SimE Γ W ti fi) (ho : SimE Γ W to fo) : SimE Γ W (tInOwn neg (Γ.cls cls) (spF Γ 2 φ) W ti to) (inOwnS neg cls φ fi fo) := by
  intro F H σ env res Q w hf post
  rcases M.bind_some hf with ⟨e, s', h1, rfl⟩ | ⟨r, s1, h1, h2⟩
  · exact hi.opd F H σ env _ _ w h1 post
  have op := opd_opn h1
  refine hi.opd F H σ env _ _ w h1 fun y F1 H1 w1 r1 st1 => ?_
  have st1b := RR.stp st1
  rcases M.bind_some h2 with ⟨e, s', h3, rfl⟩ | ⟨q, s2, h3, h4⟩
  · exact ho.opd F1 H1 σ s1 _ _ w1 h3 fun cls dd F' H' w' x st => post cls dd F' H' w' x (st1b.trans st)
  have op2 := opd_opn h3
  refine ho.opd F1 H1 σ s1 _ _ w1 h3 fun x F2 H2 w2 r2 st2 => ?_
  have st2b := RR.stp st2
  split at h4
  case isFalse => cases h4
  rename_i hc
  obtain ⟨fs, hv⟩ := isIns_some hc
  have ro1 := (r1.ro op).mono st2b.sub
  have ro2 := r2.ro op2
  obtain ⟨a, dx, fvs, rfl, ha, rf, ok⟩ := (r2.vw op2 w2 .refl hv).ins w2.sub
  refine ⟨a, dx, fvs, rfl, ha, ?_⟩
  cases hk : callK φ [q, r] s2 with
  | none => rw [hk] at h4; cases h4
  | some rk =>
    rw [hk] at h4
    refine callK_post (env := env) (F := F) (H := H) w2 (.cons ro2 (.cons ro1 .nil)) (st1b.trans st2b) hk ?_ rfl
    cases rk with
    | ex e s' => cases h4; exact post
    | ok rv s' =>
      intro v F' H' w' rr st
      cases rv with
      | bor i => cases h4
      | ow o => cases h4
      | fz d =>
        cases d with
        | bl b =>
          cases h4
          have rr : Rv Γ F' v (.bl b) := rr
          cases rr
          exact ⟨b, rfl, post _ F' H' w' (.bl _) st⟩
        | _ => cases h4
theorem sim_getOwn {Γ : Gm} {W : St → XK} {φ : SF} {cls : String} {fi fo : SE} {ti to : TE} (ho : SimE Γ W to fo) (hi : SimE Γ W ti fi) : SimE Γ W (tGetOwn (Γ.cls cls) (spF Γ 2 φ) W to ti) (getOwnS cls φ fo fi) := by
  intro F H σ env res Q w hf post
  rcases M.bind_some hf with ⟨e, s', h1, rfl⟩ | ⟨r, s1, h1, h2⟩
  · exact ho.opd F H σ env _ _ w h1 post
  have op := opd_opn h1
  refine ho.opd F H σ env _ _ w h1 fun x F1 H1 w1 r1 st1 => ?_
  have st1b := RR.stp st1
  rcases M.bind_some h2 with ⟨e, s', h3, rfl⟩ | ⟨q, s2, h3, h4⟩
  · exact hi.opd F1 H1 σ s1 _ _ w1 h3 fun cls dd F' H' w' x st => post cls dd F' H' w' x (st1b.trans st)
  have op2 := opd_opn h3
  refine hi.opd F1 H1 σ s1 _ _ w1 h3 fun y F2 H2 w2 r2 st2 => ?_
  have st2b := RR.stp st2
  split at h4
  case isFalse => cases h4
  rename_i hc
  obtain ⟨fs, hv⟩ := isIns_some hc
  have ro1 := (r1.ro op).mono st2b.sub
  have ro2 := r2.ro op2
  obtain ⟨a, dx, fvs, rfl, ha, rf, ok⟩ := (r1.vw op w2 st2b.sub hv).ins w2.sub
  exact ⟨a, dx, fvs, rfl, ha, callK_post w2 (.cons ro1 (.cons ro2 .nil)) (st1b.trans st2b) h4 post rfl⟩
section
variable {X : Cx} {Γ : Gm} {W : St → XK} {CXv : CXT} {j k n : Nat} {pos p apos : Pos} {a b : Expr} {f g : SE} {φ : SF} {cls : String}
theorem ee_inOwn (c : Ok X Γ W CXv k) (M : CalM X.prog X.w X.K X.mg X.base Γ CXv j cls "__contains__" 2 φ) (ha : EE X Γ W a f) (hb : EE X Γ W b g) (hjk : j ≤ k := by decide) (hm : behindInMarks .In b = false := by rfl) : EE X Γ W (.Compare a [.In] [b] pos) (inOwnS false cls φ f g) := by
  obtain ⟨_, fd, ps, h1, h2, h3, h4⟩ := (M.mono hjk).ex
  exact ⟨_, pe_cmp (pc_inOwn h2 h3 c.hr h4 c.pas ha.choose_spec.1 hb.choose_spec.1) hm, sim_inOwn ha.choose_spec.2 hb.choose_spec.2⟩
theorem ee_ninOwn (c : Ok X Γ W CXv k) (M : CalM X.prog X.w X.K X.mg X.base Γ CXv j cls "__contains__" 2 φ) (ha : EE X Γ W a f) (hb : EE X Γ W b g) (hjk : j ≤ k := by decide) (hm : behindInMarks .NotIn b = false := by rfl) : EE X Γ W (.Compare a [.NotIn] [b] pos) (inOwnS true cls φ f g) := by
  obtain ⟨_, fd, ps, h1, h2, h3, h4⟩ := (M.mono hjk).ex
  exact ⟨_, pe_cmp (pc_ninOwn h2 h3 c.hr h4 c.pas ha.choose_spec.1 hb.choose_spec.1) hm, sim_inOwn ha.choose_spec.2 hb.choose_spec.2⟩
/-- what x[y] asks besides -/
def GetI (K : PySem.W.Frag) (C : Addr) : Prop := ∀ f, Meth K C "__getitem__" f → PySem.W.fnIn K f = true
theorem ee_getOwn (c : Ok X Γ W CXv k) (M : CalM X.prog X.w X.K X.mg X.base Γ CXv j cls "__getitem__" 2 φ) (hg : GetI X.K (Γ.cls cls)) (ha : EE X Γ W a f) (hb : EE X Γ W b g) (hjk : j + 1 ≤ k := by decide)
    (hsl : ∀ ov iv, subscripted b true ov iv = runValue (.builtin "lifetime.subscript" ⟨[ov, iv], []⟩) := by intro _ _; with_unfolding_all rfl) : EE X Γ W (.Subscript a b pos) (getOwnS cls φ f g) := by
  obtain ⟨_, fd, ps, h1, h2, h3, h4⟩ := M.ex
  exact ⟨_, pe_getOwn h2 (hg _ h2) h3 (c.hr.mono hjk) h4 c.pas ha.choose_spec.1 hb.choose_spec.1 hsl, sim_getOwn ha.choose_spec.2 hb.choose_spec.2⟩
end
end Ev
-- EvR
set_option Elab.async false
set_option linter.all false
set_option maxRecDepth 100000
set_option maxHeartbeats 2000000
namespace Ev
open PySem PySem.Spec L2 HT ClX
open PyProof.Rows hiding St

/-! ## tests by own classes -/
theorem SimT.ofB {Γ : Gm} {W : St → XK} {t : TE} {f : SE} (h : SimE Γ W t f) : SimT Γ W (fun σ H Q => t σ H fun x H' => ∃ k, x = .bl k ∧ Q k H') (tstB f) := sim_tstB h
section
variable {X : Cx} {Γ : Gm} {W : St → XK} {CXv : CXT} {j k n : Nat} {pos p apos : Pos} {a b : Expr} {f g : SE} {φ : SF} {cls : String}
theorem et_inOwn (c : Ok X Γ W CXv k) (M : CalM X.prog X.w X.K X.mg X.base Γ CXv j cls "__contains__" 2 φ) (ha : EE X Γ W a f) (hb : EE X Γ W b g) (hjk : j ≤ k := by decide) (hm : behindInMarks .In b = false := by rfl) : ET X Γ W (.Compare a [.In] [b] pos) (tstB (inOwnS false cls φ f g)) := by
  obtain ⟨_, fd, ps, h1, h2, h3, h4⟩ := (M.mono hjk).ex
  exact ⟨_, pt_cmp (pc_inOwn h2 h3 c.hr h4 c.pas ha.choose_spec.1 hb.choose_spec.1) hm, sim_tstB (sim_inOwn ha.choose_spec.2 hb.choose_spec.2)⟩
theorem et_ninOwn (c : Ok X Γ W CXv k) (M : CalM X.prog X.w X.K X.mg X.base Γ CXv j cls "__contains__" 2 φ) (ha : EE X Γ W a f) (hb : EE X Γ W b g) (hjk : j ≤ k := by decide) (hm : behindInMarks .NotIn b = false := by rfl) : ET X Γ W (.Compare a [.NotIn] [b] pos) (tstB (inOwnS true cls φ f g)) := by
  obtain ⟨_, fd, ps, h1, h2, h3, h4⟩ := (M.mono hjk).ex
  exact ⟨_, pt_cmp (pc_ninOwn h2 h3 c.hr h4 c.pas ha.choose_spec.1 hb.choose_spec.1) hm, sim_tstB (sim_inOwn ha.choose_spec.2 hb.choose_spec.2)⟩
end
/-! ## a call that only looks, its result without references -/
def flatD : D → Bool
  | .non => true
  | .bl _ => true
  | .int _ => true
  | .str _ => true
  | _ => false
theorem Rv.flat {Γ : Gm} {F G : Hp} {v : V} {d : D} (h : Rv Γ F v d) (f : flatD d = true) : Rv Γ G v d := by
  cases h with
  | non => exact .non
  | bl b => exact .bl b
  | int b => exact .int b
  | str b => exact .str b
  | _ => cases f
def parR (s : List O) : Rs → Option O
  | .fz d => some (.fz d)
  | .bor i => ((s[i]?).bind O.view).map .fz
  | .ow _ => none
def parRs (s : List O) : List Rs → Option (List O)
  | [] => some []
  | r :: rs => match parR s r, parRs s rs with
    | some o, some os => some (o :: os)
    | _, _ => none
def callRK (φ : SF) (rs : List Rs) : SE := fun s => match parRs s rs with
  | some os => (match φ os with
    | some (.ok (.fz d) _) => if flatD d = true then some (.ok (.fz d) s) else none
    | _ => none)
  | none => none
def callR (φ : SF) (fa : SA) : SE := M.bind fa fun rs => callRK φ rs
/-- the arguments, each of them frozen for the time of the call -/
theorem parRs_wr {Γ : Gm} {F H : Hp} {σ : St} : ∀ {vs : List V} {rs : List Rs} {s : List O} {os : List O}, Wr Γ F H σ s → ROs Γ F σ vs rs → parRs s rs = some os → ∃ F', Sub F F' ∧ Sub F' H ∧ Wr Γ F' H (vs.map some) os ∧ ∀ a, ¬ Own (vs.map some) os a := by
  have main : ∀ {vs : List V} {rs : List Rs} {s0 s : List O} {os : List O} {F0 : Hp}, Wr Γ F H σ s → (∀ (i : Nat) (d : D), (s0[i]?).bind O.view = some d → (s[i]?).bind O.view = some d) → ROs Γ F σ vs rs → parRs s0 rs = some os → ∃ F', Sub F F' ∧ Sub F' H ∧ Wr Γ F' H (vs.map some) os ∧ ∀ a, ¬ Own (vs.map some) os a := by
    intro vs rs
    induction rs generalizing vs F with
    | nil =>
      intro s0 s os _ w hs r e
      cases r
      cases e
      exact ⟨F, .refl, w.sub, ⟨w.sub, rfl, fun i v o h => by simp at h, fun i j a h => by obtain ⟨h, _⟩ := h; simp at h⟩, fun a ⟨i, h, _⟩ => by simp at h⟩
    | cons r0 rs ih =>
      intro s0 s os F0 w hs r e
      cases r with
      | cons ro rn =>
        rename_i v vs
        unfold parRs at e
        split at e
        · rename_i o os' e1 e2
          cases e
          -- freeze the head
          obtain ⟨d, rfl, F1, s1, w1, sb, rv, hv⟩ : ∃ d, o = .fz d ∧ ∃ F1 s1, Wr Γ F1 H σ s1 ∧ Sub F F1 ∧ Rv Γ F1 v d ∧ ∀ (i : Nat) (d : D), (s[i]?).bind O.view = some d → (s1[i]?).bind O.view = some d := by
            cases r0 with
            | fz d => cases e1; exact ⟨d, rfl, F, s, w, .refl, ro, fun _ _ h => h⟩
            | ow o => cases e1
            | bor i =>
              obtain ⟨d, hd, rfl⟩ := Option.map_eq_some_iff.mp e1
              have hd2 := hs i d hd
              obtain ⟨o, ho, hod⟩ := Option.bind_eq_some_iff.mp hd2
              obtain ⟨F1, w1, rv, st⟩ := w.freeze ro ho hod
              refine ⟨d, rfl, F1, _, w1, st.sub, rv, fun j d' h => ?_⟩
              by_cases q : j = i
              · subst q
                have hl : j < s.length := (List.getElem?_eq_some_iff.mp ho).1
                rw [List.getElem?_set_self hl]
                rw [ho] at h
                have h : o.view = some d' := h
                rw [hod] at h; cases h; rfl
              · rw [List.getElem?_set_ne (Ne.symm q)]; exact h
          obtain ⟨F2, sb2, sh, w2, no⟩ := ih (s0 := s0) (F0 := F0) w1 (fun i d h => hv i d (hs i d h)) (rn.mono sb) e2
          refine ⟨F2, sb.trans sb2, sh, w2.cons (.fz (rv.mono sb2)) (fun h => by cases h), fun a ⟨i, h1, o, h2, h3⟩ => ?_⟩
          cases i with
          | zero => simp at h2; subst h2; cases h3
          | succ i => exact no a ⟨i, by simpa using h1, o, by simpa using h2, h3⟩
        · cases e
  intro vs rs s os w r e
  exact main (F0 := F) w (fun _ _ h => h) r e
theorem callRK_post {Γ : Gm} {W : St → XK} {F H F1 H1 : Hp} {σ : St} {env s : List O} {φ : SF} {rs : List Rs} {res : Ot Rs} {Q : VK} {vs : List V} {n : Nat} (w1 : Wr Γ F1 H1 σ s) (r1 : ROs Γ F1 σ vs rs) (st1 : Stp F H (Own σ env) F1 H1 (Own σ s)) (hf : callRK φ rs s = some res)
    (post : PostE Γ W F H σ env Q res) (hn : rs.length = n) : spF Γ n φ vs H1 Q (W σ) := by
  unfold callRK at hf
  split at hf
  case h_2 => cases hf
  rename_i os ho
  split at hf
  case h_2 => cases hf
  rename_i d os' hφ
  split at hf
  case isFalse => cases hf
  rename_i hd
  cases hf
  obtain ⟨F2, sb, sh, w2, no⟩ := parRs_wr w1 r1 ho
  refine ⟨by rw [r1.length, hn], F2, os, _, w2, hφ, ?_⟩
  intro v F' H' w' rv st
  have rv : Rv Γ F' v d := rv
  have keep : Sub H1 H' := fun a u e => st.keep a u e (no a)
  have w3 : Wr Γ F1 H' σ s := w1.mono .refl (w1.sub.trans keep) fun a u q e => ⟨keep _ _ e, (w1.ownF q).1⟩
  exact post v F1 H' w3 (rv.flat hd) (st1.trans ⟨.refl, fun _ _ h => .inl h, fun a u e _ => keep a u e, fun a h => .inl h⟩)
theorem sim_callR {Γ : Gm} {W : St → XK} {t : TA} {fa : SA} {φ : SF} {n : Nat} (h : SimA Γ W t fa) (hn : ArgN fa n) : SimE Γ W (tCallS (spF Γ n φ) W t) (callR φ fa) := by
  intro F H σ env res Q w hf post
  rcases M.bind_some hf with ⟨e, s', h1, rfl⟩ | ⟨rs, s', h1, h2⟩
  · exact h F H σ env _ _ w h1 post
  · exact h F H σ env _ _ w h1 fun vs F1 H1 w1 r1 st1 => callRK_post w1 r1 st1 h2 post (hn _ _ _ h1)
section
variable {X : Cx} {Γ : Gm} {W : St → XK} {fx : List Nat} {CXv : CXT} {j k n : Nat} {pos p p2 p3 tpos : Pos} {e : Expr} {es : List Expr} {fa : SA} {f : SE} {x : Str} {φ : SF}
theorem ee_callR (c : Ok X Γ W CXv k) (C : Cal X.prog X.w X.K X.mg X.base Γ CXv j x n φ) (ha : EA X Γ W (e :: es) fa) (hn : ArgN fa n) (hjk : j ≤ k := by decide) (hg : Gl X x := by rfl)
    (hdb : (x == ("__debug__" : Str)) = false := by decide) (he : starEach (e :: es) X.env = (false, eval e X.env) :: starEach es X.env := by rfl) (hpl : (backTo pos (starEach es X.env)).any (·.1) = false := by rfl) : EE X Γ W (.Call (.Name x p) (e :: es) [] pos) (callR φ fa) := by
  obtain ⟨f, fd, ps, h1, h2, h3, h4⟩ := (C.mono hjk).ex
  exact ⟨_, pe_callS h2 c.hr hg h1 h3 h4 c.pas ha.choose_spec.1 hdb he hpl, sim_callR ha.choose_spec.2 hn⟩
/-! ## isinstance(x, (S, T)) -/
def isi2D (m n : String) (d : D) : Option O := (isiT d).bind fun t => match kitB t m with
  | some true => oB true
  | some false => (kitB t n).bind fun b => oB b
  | none => none
theorem sim_isi2 {t : TE} {m n : String} (h : SimE Γ W t f) : SimE Γ W (tCB (rIsiT Γ.K) (tCons t (tCons (tTup (tCons (tC (.ty m)) (tCons (tC (.ty n)) tNil))) tNil))) (prim1 f (isi2D m n)) := by
  intro F H σ env res Q w hf post
  rcases M.bind_some hf with ⟨e, s', h1, rfl⟩ | ⟨r, s', h1, h2⟩
  · exact h.opd F H σ env _ _ w h1 post
  · refine h.opd F H σ env _ _ w h1 fun v F1 H1 w1 r1 st1 => ?_
    obtain ⟨o, ho, hno, rfl⟩ := ret_some h2
    cases hv : vw s' r with
    | none => rw [hv] at ho; cases ho
    | some d =>
      rw [hv] at ho
      have ho : isi2D m n d = some o := ho
      unfold isi2D at ho
      cases ht : isiT d with
      | none => rw [ht] at ho; cases ho
      | some ty =>
        rw [ht] at ho
        have ho : (match kitB ty m with | some true => oB true | some false => (kitB ty n).bind fun b => oB b | none => none) = some o := ho
        obtain ⟨b, hb, rfl⟩ : ∃ b, PySem.W.kitAny Γ.K (.type ty) [.type m, .type n] = some b ∧ o = .fz (.bl b) := by
          cases g1 : kitB ty m with
          | none => rw [g1] at ho; cases ho
          | some b1 =>
            rw [g1] at ho
            have k1 := kit_ty (K := Γ.K) g1
            cases b1 with
            | true => cases ho; exact ⟨true, by simp [PySem.W.kitAny, k1], rfl⟩
            | false =>
              cases g2 : kitB ty n with
              | none => rw [g2] at ho; cases ho
              | some b2 =>
                rw [g2] at ho
                cases ho
                have k2 := kit_ty (K := Γ.K) g2
                exact ⟨b2, by cases b2 <;> simp [PySem.W.kitAny, k1, k2], rfl⟩
        refine ⟨by show 2 ≤ sizeLine; decide, fun p hp => ?_⟩
        obtain ⟨w2, ou, st2⟩ := Ours.new (u := .tup [.ty m, .ty n]) w1 hp
        refine ⟨v, p, _, _, [.type m, .type n], b, rfl, upd_same, .cons (.ty m) (.cons (.ty n) .nil), isiT_ty w2.sub (r1.vw (opd_opn h1) w2 Sub.refl hv) ht, hb, ?_⟩
        exact post (.bl b) F1 _ w2 (.bl b) (((RR.stp st1).trans st2).weak fun a h => .inl (.inl h))
theorem ee_isi2 (c : Ok X Γ W CXv k) {x y : Str} {m n : String} {kk : Nat} (hg : Gl X "isinstance") (hm : X.mg "isinstance" = none) (hg1 : Gl X x) (hm1 : X.mg x = none) (hv1 : bootBuiltins x = some (.type m)) (hg2 : Gl X y) (hm2 : X.mg y = none) (hv2 : bootBuiltins y = some (.type n)) (h : EE X Γ W e f)
    (hn1 : x ≠ "__name__" := by decide) (hd1 : (x == ("__debug__" : Str)) = false := by decide) (hn2 : y ≠ "__name__" := by decide) (hd2 : (y == ("__debug__" : Str)) = false := by decide)
    (he : starEach [e, .Tuple [.Name x p2, .Name y p3] kk tpos] X.env = (false, eval e X.env) :: starEach [.Tuple [.Name x p2, .Name y p3] kk tpos] X.env := by rfl)
    (he1 : starEach [.Tuple [.Name x p2, .Name y p3] kk tpos] X.env = (false, eval (.Tuple [.Name x p2, .Name y p3] kk tpos) X.env) :: starEach [] X.env := by rfl)
    (he2 : starEach [.Name x p2, .Name y p3] X.env = (false, eval (.Name x p2) X.env) :: starEach [.Name y p3] X.env := by rfl) (he3 : starEach [.Name y p3] X.env = (false, eval (.Name y p3) X.env) :: starEach [] X.env := by rfl)
    (hpl : (backTo pos (starEach [.Tuple [.Name x p2, .Name y p3] kk tpos] X.env)).any (·.1) = false := by rfl) :
    EE X Γ W (.Call (.Name "isinstance" p) [e, .Tuple [.Name x p2, .Name y p3] kk tpos] [] pos) (prim1 f (isi2D m n)) :=
  ⟨_, pe_callB call_isiT hg hm (by decide +kernel) (pa_cons h.choose_spec.1 (pa_cons (pe_tup (pa_cons (pe_bltn (v := .ty m) hg1 hm1 hv1 rfl hn1 hd1) (pa_cons (pe_bltn (v := .ty n) hg2 hm2 hv2 rfl hn2 hd2) pa_nil he3) he2)) pa_nil he1) he) (by decide) (by decide) he hpl, by rw [c.K]; exact sim_isi2 h.choose_spec.2⟩
theorem ess_never : ∀ {sts : List Stmt}, ESs X Γ W fx sts (fun _ => none)
  | [] => ⟨_, pss_nil, fun F H σ env res D w hf => by cases hf⟩
  | st :: sts => ⟨_, pss_cons ps_never (ess_never (sts := sts)).choose_spec.1, fun F H σ env res D w hf => by cases hf⟩
/-! ## name = [..] on one line -/
theorem es_setLc (c : Ok X Γ W CXv k) (i : Nat) (own : List (Str × Nat)) {y : Str} {py spos : Pos} {elt tg iter : Expr} {ifs : List Expr} {scope : Scope} {src : SI} {g : SG} {tt : ST} {te : SE} {vs' : List Nat} (hi : EI X Γ W tg iter src)
    (hg : ∀ (s : Shared) (H : Hp) (C : Addr) (cl : List (Str × Addr)) (fp : List Addr), Ok (X.blk s H scope (compEnvC scope cl C X.env) fp) Γ E0 CXv k → EG (X.blk s H scope (compEnvC scope cl C X.env) fp) Γ vs' tg g)
    (ht : ∀ (s : Shared) (H : Hp) (C : Addr) (cl : List (Str × Addr)) (fp : List Addr), Ok (X.blk s H scope (compEnvC scope cl C X.env) fp) Γ E0 CXv k → ETs (X.blk s H scope (compEnvC scope cl C X.env) fp) Γ E0 ifs tt)
    (he : ∀ (s : Shared) (H : Hp) (C : Addr) (cl : List (Str × Addr)) (fp : List Addr), Ok (X.blk s H scope (compEnvC scope cl C X.env) fp) Γ E0 CXv k → EE (X.blk s H scope (compEnvC scope cl C X.env) fp) Γ E0 elt te)
    (hy : X.N[i]? = some y := by rfl) (hyl : X.env.scope.names.lookup y = some .local := by rfl) (hfx : i ∉ fx := by decide)
    (hsw : swapsWith (.ListComp elt [⟨tg, iter, ifs, 0⟩] scope pos) (some (.Name y py)) spos.line X.env = pure true := by rfl)
    (ok : blkC X.N X.env.scope scope own = true := by rfl) (hv : ∀ i ∈ vs', i ∈ own.map (·.2) := by decide) (hs : ∀ x, foldedSetIterable iter X.env x = pure x := by intro _; rfl) :
    ES X Γ W fx (.Assign [.Name y py] (.ListComp elt [⟨tg, iter, ifs, 0⟩] scope pos) spos) (setS i (lcS src g tt te (own.map (·.2)))) :=
  ⟨_, ps_setLc c.calm c.nd hy hyl hsw hi.pi (blkOk_by ok) (fun s H C cl fp => (hg s H C cl fp (c.blk s H scope _ fp)).pg) (fun s H C cl fp => (ht s H C cl fp (c.blk s H scope _ fp)).pt) (fun s H C cl fp => (he s H C cl fp (c.blk s H scope _ fp)).pe) hs,
    sim_set (sim_lc sim_tI sim_tG hv sim_tT sim_tE) hfx⟩
end
end Ev
-- EvT
set_option Elab.async false
set_option linter.all false
set_option maxRecDepth 100000
set_option maxHeartbeats 2000000
namespace Ev
open PySem PySem.Spec L2 HT ClX
open PyProof.Rows hiding St

/-! ## what stands of the program -/
/-- the names that are the builtins' -/
structure Bn (mg : Str → Option Value) : Prop where
  len : mg "len" = none
  int : mg "int" = none
  tuple : mg "tuple" = none
  list : mg "list" = none
  isinstance : mg "isinstance" = none
  bool : mg "bool" = none
  range : mg "range" = none
  enumerate : mg "enumerate" = none
  reversed : mg "reversed" = none
  str : mg "str" = none
  iter : mg "iter" = none
  any : mg "any" = none
  all : mg "all" = none
def DefAt (K : PySem.W.Frag) (mg : Str → Option Value) (x : Str) (st : Stmt) : Prop := ∃ f fd, mg x = some (.ref f) ∧ FunD K x x (defArgs st) (defBody st) (defScope st) [] [] f fd
def MethAt (K : PySem.W.Frag) (C : Addr) (x qual : Str) (st : Stmt) : Prop := ∃ f fd, Meth K C x f ∧ FunD K x qual (defArgs st) (defBody st) (defScope st) [] [] f fd
def ClsAt (Γ : Gm) (mg : Str → Option Value) (c : String) : Prop := mg (c : Str) = some (.ref (Γ.cls c)) ∧ Cls Γ.K (Γ.cls c)
def MkAt (Γ : Gm) (c : String) (qual : Str) (st : Stmt) : Prop := ∃ f fd, Mk Γ.K (Γ.cls c) f ∧ FunD Γ.K "__init__" qual (defArgs st) (defBody st) (defScope st) [] [] f fd
/-- a class's constant -/
def CcAt (Γ : Gm) (mg : Str → Option Value) (c g : String) (i : Int) : Prop := ∃ mc, mg (c : Str) = some (.ref (Γ.cls c)) ∧ CRead Γ.K (Γ.cls c) mc ∧ ∃ t, CVal Γ.K (Γ.cls c) mc (g : Str) (.int i) (.int i t)
section
variable {P : Program} {w : World} {Γ : Gm} {mg : Str → Option Value} {base : Heap} {k n : Nat} {b : SS} {x qual : Str} {c : String} {st : Stmt}
theorem cal_of (N ps : List Str) (fx ios : List Nat) (hd : DefAt Γ.K mg x st) (S : FnScope N ps (defScope st)) (m : Nat) (hm : N.length = m) (hn : ps.length = n) (hio : ∀ i ∈ ios, i ∈ fx)
    (hbind : ∀ (kV doc pm : Value) (an : Option Addr) (cdv ct : Value) (us : List Value), us.length = ps.length → bindArgs (PySem.W.fnOf x x (defArgs st) (defBody st) (defScope st) .none kV doc pm an cdv ct) ⟨us, []⟩ = pure (ps.zip us))
    (hb : ∀ (f : Addr) (cdv : Value) (A : Around) (outer : List Env) (s : Shared) (H : Hp) (E : XK), Ok (cxOf (L2.CX P w) P w Γ.K mg base N x (defScope st) f cdv A outer s H E) Γ (fun _ => E) (L2.CX P w) k →
      ESs (cxOf (L2.CX P w) P w Γ.K mg base N x (defScope st) f cdv A outer s H E) Γ (fun _ => E) fx (defBody st) b) : Cal P w Γ.K mg base Γ (L2.CX P w) (k + 1) x n (funS ios m b) := by
  obtain ⟨f, fd, h1, F⟩ := hd
  subst hm
  exact ⟨f, fd, ps, h1, fn_ev fx ios F S hn hio (hb f), F.kp, F.bindsN hbind⟩
theorem calM_of (N ps : List Str) (fx ios : List Nat) (m' : String) (hc : ClsAt Γ mg c) (hd : MethAt Γ.K (Γ.cls c) (m' : Str) qual st) (S : FnScope N ps (defScope st)) (m : Nat) (hm : N.length = m) (hn : ps.length = n) (hio : ∀ i ∈ ios, i ∈ fx)
    (hbind : ∀ (kV doc pm : Value) (an : Option Addr) (cdv ct : Value) (us : List Value), us.length = ps.length → bindArgs (PySem.W.fnOf (m' : Str) qual (defArgs st) (defBody st) (defScope st) .none kV doc pm an cdv ct) ⟨us, []⟩ = pure (ps.zip us))
    (hb : ∀ (f : Addr) (cdv : Value) (A : Around) (outer : List Env) (s : Shared) (H : Hp) (E : XK), Ok (cxOf (L2.CX P w) P w Γ.K mg base N qual (defScope st) f cdv A outer s H E) Γ (fun _ => E) (L2.CX P w) k →
      ESs (cxOf (L2.CX P w) P w Γ.K mg base N qual (defScope st) f cdv A outer s H E) Γ (fun _ => E) fx (defBody st) b) : CalM P w Γ.K mg base Γ (L2.CX P w) (k + 1) c m' n (funS ios m b) := by
  obtain ⟨f, fd, h1, F⟩ := hd
  subst hm
  exact ⟨f, fd, ps, hc.2, h1, fn_ev fx ios F S hn hio (hb f), F.bindsN hbind⟩
theorem calC_of (N ps : List Str) (fx ios : List Nat) (hc : ClsAt Γ mg c) (hd : MkAt Γ c qual st) (S : FnScope N ps (defScope st)) (m : Nat) (hm : N.length = m) (hn : ps.length = n) (hio : ∀ i ∈ ios, i ∈ fx)
    (hbind : ∀ (kV doc pm : Value) (an : Option Addr) (cdv ct : Value) (us : List Value), us.length = ps.length → bindArgs (PySem.W.fnOf "__init__" qual (defArgs st) (defBody st) (defScope st) .none kV doc pm an cdv ct) ⟨us, []⟩ = pure (ps.zip us))
    (hb : ∀ (f : Addr) (cdv : Value) (A : Around) (outer : List Env) (s : Shared) (H : Hp) (E : XK), Ok (cxOf (L2.CX P w) P w Γ.K mg base N qual (defScope st) f cdv A outer s H E) Γ (fun _ => E) (L2.CX P w) k →
      ESs (cxOf (L2.CX P w) P w Γ.K mg base N qual (defScope st) f cdv A outer s H E) Γ (fun _ => E) fx (defBody st) b) : CalC P w Γ.K mg base Γ (L2.CX P w) (k + 1) c n (funS ios m b) := by
  obtain ⟨f, fd, h1, F⟩ := hd
  subst hm
  exact ⟨f, fd, ps, hc.1, hc.2, h1, fn_ev fx ios F S hn hio (hb f), F.bindsN hbind⟩
end
section
variable {X : Cx} {Γ : Gm} {W : St → XK} {CXv : CXT} {k : Nat} {pos p : Pos}
theorem ee_cc (c : Ok X Γ W CXv k) {cl g : String} {i : Int} (h : CcAt Γ X.mg cl g i) (hg : Gl X (cl : Str) := by rfl) (hd : ((cl : Str) == ("__debug__" : Str)) = false := by decide)
    (hb : attributeBase (.Name (cl : Str) p) (g : Str) X.env (eval (.Name (cl : Str) p) X.env) = eval (.Name (cl : Str) p) X.env := by rfl) : EE X Γ W (.Attribute (.Name (cl : Str) p) (g : Str) pos) (cst (.int i)) := by
  obtain ⟨mc, h1, h2, h3⟩ := h
  exact ee_cval hg h1 (by rw [c.K]; exact h2) (by rw [c.K]; exact h3) hd hb
end
end Ev
-- S_core
set_option Elab.async false
set_option linter.all false
set_option maxRecDepth 100000
namespace Ev
open PySem L2

noncomputable def b_law_start : SS :=
  (retS (lstS (aCons (lcS (srcS (varS 0)) (nameT 1) tYesS (primN (aCons (varB 1) aNil) intD) [1]) (aCons (cst (.int 0)) (aCons (cst (.int 0)) (aCons (cst (.int 0)) (aCons (cst (.int 0)) aNil)))))))
noncomputable abbrev f_law_start : SF := funS [] 2 b_law_start
noncomputable def b_law_draw : SS :=
  (seqS (ifS (tstB (prim2 (varB 1) (cst (.int 2)) ltD)) (retS (cst (.int 0))) nilS)
    (seqS (ifS (tstB (prim2 (prim2 (varB 0) (cst (.int 3)) idxD) (cst (.int 0)) eqD)) (seqS (ifS (tstB (prim2 (prim2 (varB 0) (cst (.int 1)) idxD) (primN (aCons (prim2 (varB 0) (cst (.int 0)) idxD) aNil) lenD) geD)) (retS (cst (.int 0))) nilS)
    (seqS (setS 2 (primN (aCons (prim2 (prim2 (varB 0) (cst (.int 0)) idxD) (prim2 (varB 0) (cst (.int 1)) idxD) idxD) aNil) intD))
    (seqS (ifS (tstB (prim2 (varB 2) (cst (.int 0)) ltD)) (setS 2 (prim2 (cst (.int 0)) (varB 2) subD)) nilS)
    (seqS (putS 0 (cst (.int 1)) (prim2 (prim2 (varB 0) (cst (.int 1)) idxD) (cst (.int 1)) addD))
    (seqS (putS 0 (cst (.int 2)) (varS 2))
    (seqS (putS 0 (cst (.int 3)) (cst (.int 3)))
    (seqS (putS 0 (cst (.int 4)) (cst (.int 0)))
    (ifS (tstB (prim2 (varB 2) (prim2 (cst (.int 10)) (cst (.int 18)) powD) geD)) (seqS (putS 0 (cst (.int 3)) (cst (.int 60)))
    (putS 0 (cst (.int 4)) (cst (.int 1)))) nilS)))))))) nilS)
    (seqS (putS 0 (cst (.int 3)) (prim2 (prim2 (varB 0) (cst (.int 3)) idxD) (cst (.int 1)) subD))
    (seqS (ifS (tstB (prim2 (prim2 (varB 0) (cst (.int 4)) idxD) (cst (.int 1)) eqD)) (seqS (setS 3 (prim2 (primN (aCons (prim2 (varB 0) (cst (.int 2)) idxD) aNil) intD) (varB 1) modD))
    (seqS (putS 0 (cst (.int 2)) (prim2 (primN (aCons (prim2 (varB 0) (cst (.int 2)) idxD) aNil) intD) (varB 1) fdivD))
    (seqS (ifS (tstB (prim2 (prim2 (varB 0) (cst (.int 2)) idxD) (cst (.int 0)) eqD)) (putS 0 (cst (.int 3)) (cst (.int 0))) nilS)
    (retS (varM 3))))) nilS)
    (seqS (setS 4 (prim2 (primN (aCons (prim2 (prim2 (prim2 (prim2 (varB 0) (cst (.int 2)) idxD) (cst (.int 48271)) mulD) (prim2 (prim2 (varB 0) (cst (.int 3)) idxD) (cst (.int 69621)) mulD) addD) (cst (.int 7919)) addD) aNil) intD) (cst (.int 2147483647)) modD))
    (retS (prim2 (primN (aCons (prim2 (primN (aCons (prim2 (prim2 (prim2 (varB 4) (cst (.int 16807)) mulD) (prim2 (prim2 (varB 0) (cst (.int 3)) idxD) (cst (.int 10133)) mulD) addD) (cst (.int 104729)) addD) aNil) intD) (cst (.int 2147483629)) modD) aNil) intD) (varB 1) modD)))))))
noncomputable abbrev f_law_draw : SF := funS [0] 5 b_law_draw
noncomputable def b_law_word : SS :=
  (seqS (setS 1 (cst (.str "abcdefghijklmnopqrstuvwxyzABCDEFGHIJKLMNOPQRSTUVWXYZ0123456789_")))
    (seqS (setS 2 (prim2 (cst (.int 1)) (callS f_law_draw (aCons (varB 0) (aCons (cst (.int 3)) aNil))) addD))
    (seqS (ifS (tstB (prim2 (callS f_law_draw (aCons (varB 0) (aCons (cst (.int 5)) aNil))) (cst (.int 4)) eqD)) (setS 2 (prim2 (cst (.int 1)) (callS f_law_draw (aCons (varB 0) (aCons (cst (.int 20)) aNil))) addD)) nilS)
    (retS (metS "str" joinD (cst (.str "")) (aCons (lcS (rngS rng1D (aCons (varB 2) aNil)) (nameT 3) tYesS (prim2 (varB 1) (callS f_law_draw (aCons (varB 0) (aCons (cst (.int 63)) aNil))) idxD) [3]) aNil))))))
noncomputable abbrev f_law_word : SF := funS [0] 4 b_law_word
noncomputable def b_law_pool : SS :=
  (seqS (setS 2 (lstS aNil))
    (seqS (forS (rngS rng1D (aCons (varB 1) aNil)) (nameT 3) (seqS (setS 4 (callS f_law_word (aCons (varB 0) aNil)))
    (seqS (setS 5 (callS f_law_draw (aCons (varB 0) (aCons (cst (.int 2)) aNil))))
    (seqS (setS 6 (varS 4))
    (seqS (forS (srcS (cst (.str "abcdefghijkl"))) (nameT 7) (ifS (tstB (prim2 (varB 6) (varB 2) inO)) (seqS (setS 6 (prim2 (varB 7) (slS (varB 4) oNone (oSome (cst (.int 19)))) addD))
    (ifS (tstB (prim2 (varB 5) (cst (.int 1)) eqD)) (setS 6 (prim2 (slS (varB 4) oNone (oSome (cst (.int 19)))) (varB 7) addD)) nilS)) nilS) [7])
    (exprS (mutL appD 2 (aCons (varS 6) aNil))))))) [3, 4, 5, 6, 7])
    (retS (varM 2))))
noncomputable abbrev f_law_pool : SF := funS [0] 8 b_law_pool
noncomputable def b_law_tables : SS :=
  (seqS (setS 3 (callS f_law_pool (aCons (varB 0) (aCons (prim2 (cst (.int 1)) (callS f_law_draw (aCons (varB 0) (aCons (varS 1) aNil))) addD) aNil))))
    (retS (lcS (srcS (varS 3)) (nameT 4) tYesS (tupS (aCons (varS 4) (aCons (prim2 (cst (.int 1)) (callS f_law_draw (aCons (varB 0) (aCons (varS 2) aNil))) addD) aNil))) [4])))
noncomputable abbrev f_law_tables : SF := funS [0] 5 b_law_tables
noncomputable def b_is_word : SS :=
  (seqS (ifS (tNt (tstB (chain (cst (.int 1)) (primN (aCons (varB 0) aNil) lenD) (cst (.int 20)) leD leD))) (retS (cst (.bl false))) nilS)
    (seqS (forS (srcS (varS 0)) (nameT 1) (ifS (tstB (prim2 (varB 1) (cst (.str "ABCDEFGHIJKLMNOPQRSTUVWXYZabcdefghijklmnopqrstuvwxyz0123456789_")) ninO)) (retS (cst (.bl false))) nilS) [1])
    (retS (cst (.bl true)))))
noncomputable abbrev f_is_word : SF := funS [] 2 b_is_word
noncomputable def b_is_integer : SS :=
  (retS (vAnd (prim1 (varB 0) (isiD "int")) (vAnd (vNot (prim1 (varB 0) (isiD "bool"))) (chain (varB 1) (varB 0) (varB 2) leD leD))))
noncomputable abbrev f_is_integer : SF := funS [] 3 b_is_integer
noncomputable def b_merged : SS :=
  (seqS (setS 2 (lstS aNil))
    (seqS (setS 3 (cst (.int 0)))
    (seqS (forS (srcS (varS 0)) (nameT 4) (seqS (whileS (tAn (tstB (prim2 (varB 3) (primN (aCons (varB 1) aNil) lenD) ltD)) (tstB (prim2 (prim2 (varB 1) (varB 3) idxD) (varB 4) ltD))) (seqS (exprS (mutL appD 2 (aCons (prim2 (varB 1) (varB 3) idxD) aNil)))
    (setS 3 (prim2 (varB 3) (cst (.int 1)) addD))))
    (exprS (mutL appD 2 (aCons (varS 4) aNil)))) [4])
    (retS (prim2 (varB 2) (slS (varB 1) (oSome (varB 3)) oNone) addD)))))
noncomputable abbrev f_merged : SF := funS [] 5 b_merged
noncomputable def b_ascending : SS :=
  (seqS (setS 1 (lcS (srcS (varS 0)) (nameT 2) tYesS (lstS (aCons (varS 2) aNil)) [2]))
    (seqS (whileS (tstB (prim2 (primN (aCons (varB 1) aNil) lenD) (cst (.int 1)) gtD)) (seqS (setS 3 (lcS (rngS rng3D (aCons (cst (.int 0)) (aCons (prim2 (primN (aCons (varB 1) aNil) lenD) (cst (.int 1)) subD) (aCons (cst (.int 2)) aNil)))) (nameT 4) tYesS (callS f_merged (aCons (prim2 (varB 1) (varB 4) idxD) (aCons (prim2 (varB 1) (prim2 (varB 4) (cst (.int 1)) addD) idxD) aNil))) [4]))
    (seqS (ifS (tstB (prim2 (prim2 (primN (aCons (varB 1) aNil) lenD) (cst (.int 2)) modD) (cst (.int 1)) eqD)) (exprS (mutL appD 3 (aCons (prim2 (varB 1) (prim1 (cst (.int 1)) negD) idxD) aNil))) nilS)
    (setS 1 (varM 3)))))
    (seqS (setS 5 (lstS aNil))
    (seqS (forS (srcS (varS 1)) (nameT 6) (forS (srcS (varS 6)) (nameT 2) (ifS (tOrr (tstB (prim2 (primN (aCons (varB 5) aNil) lenD) (cst (.int 0)) eqD)) (tstB (prim2 (prim2 (varB 5) (prim1 (cst (.int 1)) negD) idxD) (varB 2) neD))) (exprS (mutL appD 5 (aCons (varS 2) aNil))) nilS) [2]) [2, 6])
    (retS (varM 5))))))
noncomputable abbrev f_ascending : SF := funS [] 7 b_ascending
noncomputable def b_Schema_init : SS :=
  (seqS (ifS (tstB (prim2 (primN (aCons (varB 1) aNil) lenD) (cst (.int 8)) gtD)) (fun _ => none) nilS)
    (seqS (setS 2 (newD false))
    (seqS (forS (srcS (varS 1)) (tupT 2 (consT (nameT 3) (consT (nameT 4) nilT))) (seqS (ifS (tNt (tstU (callS f_is_word (aCons (varS 3) aNil)))) (fun _ => none) nilS)
    (seqS (ifS (tNt (tstU (callS f_is_integer (aCons (varS 4) (aCons (cst (.int 1)) (aCons (cst (.int 4)) aNil)))))) (fun _ => none) nilS)
    (seqS (ifS (tstB (prim2 (varB 3) (varB 2) inO)) (fun _ => none) nilS)
    (putS 2 (varS 3) (varS 4))))) [3, 4])
    (seqS (fldS 0 "Schema" "names" (primN (aCons (callS f_ascending (aCons (primN (aCons (varB 2) aNil) listD) aNil)) aNil) tupleD))
    (fldS 0 "Schema" "widths" (varS 2))))))
noncomputable abbrev f_Schema_init : SF := funS [0] 5 b_Schema_init
noncomputable def b_law_row : SS :=
  (seqS (setS 3 (prim2 (varB 1) (callS f_law_draw (aCons (varB 0) (aCons (primN (aCons (varB 1) aNil) lenD) aNil))) idxD))
    (retS (prim2 (tupS (aCons (prim2 (varB 3) (cst (.int 0)) idxD) aNil)) (primN (aCons (lcS (rngS rng1D (aCons (prim2 (varB 3) (cst (.int 1)) idxD) aNil)) (nameT 4) tYesS (callS f_law_draw (aCons (varB 0) (aCons (varS 2) aNil))) [4]) aNil) tupleD) addD)))
noncomputable abbrev f_law_row : SF := funS [0] 5 b_law_row
noncomputable def b_law_sorted : SS :=
  (seqS (setS 1 (lstS aNil))
    (seqS (forS (srcS (varS 0)) (nameT 2) (seqS (setS 3 (cst (.int 0)))
    (seqS (forS (rngS rng1D (aCons (primN (aCons (varB 1) aNil) lenD) aNil)) (nameT 4) (ifS (tstB (prim2 (prim2 (varB 1) (varB 4) idxD) (varB 2) ltD)) (setS 3 (prim2 (varB 4) (cst (.int 1)) addD)) nilS) [4])
    (ifS (tOrr (tstB (prim2 (varB 3) (primN (aCons (varB 1) aNil) lenD) eqD)) (tstB (prim2 (prim2 (varB 1) (varB 3) idxD) (varB 2) neD))) (setS 1 (prim2 (prim2 (slS (varB 1) oNone (oSome (varB 3))) (lstS (aCons (varS 2) aNil)) addD) (slS (varB 1) (oSome (varB 3)) oNone) addD)) nilS))) [2, 3, 4])
    (retS (varM 1))))
noncomputable abbrev f_law_sorted : SF := funS [] 5 b_law_sorted
noncomputable def b_law_close : SS :=
  (seqS (setS 3 (primN (aCons (varB 1) aNil) listD))
    (seqS (forS (srcS (varS 0)) (nameT 4) (setS 3 (prim2 (varB 3) (primN (aCons (slS (varB 4) (oSome (cst (.int 1))) oNone) aNil) listD) addD)) [4])
    (seqS (setS 5 (lstS aNil))
    (seqS (forS (srcS (varS 2)) (nameT 6) (ifS (tAn (tstB (prim2 (varB 6) (varB 3) inO)) (tstB (prim2 (varB 6) (varB 5) ninO))) (exprS (mutL appD 5 (aCons (varS 6) aNil))) nilS) [6])
    (seqS (setS 7 (lstS aNil))
    (seqS (forS (srcS (varS 0)) (nameT 4) (exprS (mutL appD 7 (aCons (prim2 (tupS (aCons (prim2 (varB 4) (cst (.int 0)) idxD) aNil)) (primN (aCons (lcS (srcS (slS (varB 4) (oSome (cst (.int 1))) oNone)) (nameT 6) tYesS (metS "list" indexD (varB 5) (aCons (varB 6) aNil)) [6]) aNil) tupleD) addD) aNil))) [4, 6])
    (retS (tupS (aCons (callS f_law_sorted (aCons (varS 7) aNil)) (aCons (primN (aCons (lcS (srcS (varS 1)) (nameT 6) tYesS (metS "list" indexD (varB 5) (aCons (varB 6) aNil)) [6]) aNil) tupleD) (aCons (primN (aCons (varB 5) aNil) lenD) aNil)))))))))))
noncomputable abbrev f_law_close : SF := funS [] 8 b_law_close
noncomputable def b_law_random : SS :=
  (seqS (setS 5 (lcS (rngS rng1D (aCons (varB 2) aNil)) (nameT 6) tYesS (callS f_law_draw (aCons (varB 0) (aCons (varS 3) aNil))) [6]))
    (seqS (setS 7 (lcS (rngS rng1D (aCons (varB 4) aNil)) (nameT 8) tYesS (callS f_law_row (aCons (varB 0) (aCons (varS 1) (aCons (varS 3) aNil)))) [8]))
    (retS (callS f_law_close (aCons (varS 7) (aCons (varS 5) (aCons (lcS (rngS rng1D (aCons (varB 3) aNil)) (nameT 9) tYesS (varS 9) [9]) aNil)))))))
noncomputable abbrev f_law_random : SF := funS [0] 10 b_law_random
noncomputable def b_Schema_contains : SS :=
  (retS (prim2 (varB 1) (prim1 (varB 0) (fldD "names")) inO))
noncomputable abbrev f_Schema_contains : SF := funS [] 2 b_Schema_contains
noncomputable def b_Schema_getitem : SS :=
  (seqS (ifS (tstB (prim2 (varB 1) (prim1 (varB 0) (fldD "names")) ninO)) (fun _ => none) nilS)
    (retS (prim2 (prim1 (varB 0) (fldD "widths")) (varB 1) idxD)))
noncomputable abbrev f_Schema_getitem : SF := funS [] 2 b_Schema_getitem
noncomputable def b_is_natural : SS :=
  (retS (vAnd (prim1 (varB 0) (isiD "int")) (vAnd (vNot (prim1 (varB 0) (isiD "bool"))) (prim2 (varB 0) (cst (.int 0)) geD))))
noncomputable abbrev f_is_natural : SF := funS [] 1 b_is_natural
noncomputable def b_check_row : SS :=
  (seqS (ifS (tstB (inOwnS true "Schema" f_Schema_contains (prim2 (varB 1) (cst (.int 0)) idxD) (varB 0))) (fun _ => none) nilS)
    (seqS (ifS (tstB (prim2 (prim2 (primN (aCons (varB 1) aNil) lenD) (cst (.int 1)) subD) (getOwnS "Schema" f_Schema_getitem (varB 0) (prim2 (varB 1) (cst (.int 0)) idxD)) neD)) (fun _ => none) nilS)
    (forS (srcS (slS (varB 1) (oSome (cst (.int 1))) oNone)) (nameT 2) (ifS (tNt (tstU (callS f_is_natural (aCons (varS 2) aNil)))) (fun _ => none) nilS) [2])))
noncomputable abbrev f_check_row : SF := funS [] 3 b_check_row
noncomputable def b_Pattern_init : SS :=
  (seqS (forS (srcS (varS 2)) (nameT 4) (exprS (callS f_check_row (aCons (varS 1) (aCons (varS 4) aNil)))) [4])
    (seqS (forS (srcS (varS 3)) (nameT 5) (ifS (tNt (tstU (callS f_is_natural (aCons (varS 5) aNil)))) (fun _ => none) nilS) [5])
    (seqS (ifS (tstB (prim2 (primN (aCons (varB 3) aNil) lenD) (cst (.int 4)) gtD)) (fun _ => none) nilS)
    (seqS (setS 6 (callS f_ascending (aCons (varS 2) aNil)))
    (seqS (ifS (tstB (prim2 (primN (aCons (varB 6) aNil) lenD) (cst (.int 600)) gtD)) (fun _ => none) nilS)
    (seqS (setS 7 (newD false))
    (seqS (forS (srcS (varS 3)) (nameT 5) (putS 7 (varS 5) (cst (.bl true))) [5])
    (seqS (forS (srcS (varS 6)) (nameT 4) (forS (srcS (slS (varB 4) (oSome (cst (.int 1))) oNone)) (nameT 5) (putS 7 (varS 5) (cst (.bl true))) [5]) [4, 5])
    (seqS (ifS (tstB (prim2 (primN (aCons (varB 7) aNil) lenD) (cst (.int 300)) gtD)) (fun _ => none) nilS)
    (seqS (forS (rngS rng1D (aCons (primN (aCons (varB 7) aNil) lenD) aNil)) (nameT 5) (ifS (tstB (prim2 (varB 5) (varB 7) ninO)) (fun _ => none) nilS) [5])
    (seqS (fldS 0 "Pattern" "schema" (varS 1))
    (seqS (fldS 0 "Pattern" "rows" (primN (aCons (varS 6) aNil) tupleD))
    (seqS (fldS 0 "Pattern" "head" (primN (aCons (varS 3) aNil) tupleD))
    (fldS 0 "Pattern" "size" (primN (aCons (varB 7) aNil) lenD)))))))))))))))
noncomputable abbrev f_Pattern_init : SF := funS [0] 8 b_Pattern_init
noncomputable def b_law_same (f_ : SF) : SS :=
  (seqS (ifS (tOrr (tstU (prim1 (varB 0) (isiD "bool"))) (tstU (prim1 (varB 1) (isiD "bool")))) (retS (vAnd (prim1 (varB 0) (isiD "bool")) (vAnd (prim1 (varB 1) (isiD "bool")) (prim2 (varB 0) (varB 1) eqD)))) nilS)
    (seqS (ifS (tOrr (tstU (prim1 (varB 0) (isiD "int"))) (tstU (prim1 (varB 1) (isiD "int")))) (retS (vAnd (prim1 (varB 0) (isiD "int")) (vAnd (prim1 (varB 1) (isiD "int")) (prim2 (varB 0) (varB 1) eqD)))) nilS)
    (seqS (ifS (tOrr (tstU (prim1 (varB 0) (isiD "str"))) (tstU (prim1 (varB 1) (isiD "str")))) (retS (vAnd (prim1 (varB 0) (isiD "str")) (vAnd (prim1 (varB 1) (isiD "str")) (prim2 (varB 0) (varB 1) eqD)))) nilS)
    (seqS (ifS (tOrr (tstB (prim1 (varB 0) isND)) (tstB (prim1 (varB 1) isND))) (retS (vAnd (prim1 (varB 0) isND) (prim1 (varB 1) isND))) nilS)
    (seqS (ifS (tOrr (tstB (prim2 (prim1 (varB 0) (isiD "tuple")) (prim1 (varB 1) (isiD "tuple")) neD)) (tstB (prim2 (prim1 (varB 0) (isiD "list")) (prim1 (varB 1) (isiD "list")) neD))) (retS (cst (.bl false))) nilS)
    (seqS (ifS (tOrr (tNt (tstU (prim1 (varB 0) (isi2D "list" "tuple")))) (tstB (prim2 (primN (aCons (varB 0) aNil) lenD) (primN (aCons (varB 1) aNil) lenD) neD))) (retS (cst (.bl false))) nilS)
    (seqS (forS (rngS rng1D (aCons (primN (aCons (varB 1) aNil) lenD) aNil)) (nameT 2) (ifS (tNt (tstU (callS f_ (aCons (prim2 (varB 0) (varB 2) idxD) (aCons (prim2 (varB 1) (varB 2) idxD) aNil))))) (retS (cst (.bl false))) nilS) [2])
    (retS (cst (.bl true))))))))))
noncomputable def f_law_same : Nat → SF
  | 0 => funS [] 3 (fun _ => none)
  | n + 1 => funS [] 3 (b_law_same (f_law_same n))
noncomputable def b_law_is : SS :=
  (seqS (ifS (tOrr (tNt (tstU (callS (f_law_same 4) (aCons (prim1 (varB 0) (fldD "rows")) (aCons (primN (aCons (prim2 (varB 1) (cst (.int 0)) idxD) aNil) tupleD) aNil))))) (tNt (tstU (callS (f_law_same 4) (aCons (prim1 (varB 0) (fldD "head")) (aCons (primN (aCons (prim2 (varB 1) (cst (.int 1)) idxD) aNil) tupleD) aNil)))))) (retS (cst (.bl false))) nilS)
    (retS (callS (f_law_same 4) (aCons (prim1 (varB 0) (fldD "size")) (aCons (prim2 (varB 1) (cst (.int 2)) idxD) aNil)))))
noncomputable abbrev f_law_is : SF := funS [] 2 b_law_is
noncomputable def b_law_loop : SS :=
  (seqS (setS 4 (lcS (srcS (varS 1)) (nameT 5) (tstB (prim2 (prim2 (varB 5) (cst (.int 1)) idxD) (cst (.int 1)) gtD)) (varS 5) [5]))
    (seqS (setS 6 (lstS aNil))
    (seqS (ifS (tstB (prim2 (primN (aCons (varB 4) aNil) lenD) (cst (.int 0)) gtD)) (seqS (setS 5 (prim2 (varB 4) (callS f_law_draw (aCons (varB 0) (aCons (primN (aCons (varB 4) aNil) lenD) aNil))) idxD))
    (forS (rngS rng1D (aCons (varB 3) aNil)) (nameT 7) (seqS (setS 8 (lcS (rngS rng1D (aCons (prim2 (varB 5) (cst (.int 1)) idxD) aNil)) (nameT 9) tYesS (varS 3) [9]))
    (seqS (putS 8 (cst (.int 0)) (varS 7))
    (seqS (putS 8 (cst (.int 1)) (prim2 (primN (aCons (prim2 (varB 7) (cst (.int 1)) addD) aNil) intD) (varB 3) modD))
    (exprS (mutL appD 6 (aCons (prim2 (tupS (aCons (prim2 (varB 5) (cst (.int 0)) idxD) aNil)) (primN (aCons (varS 8) aNil) tupleD) addD) aNil)))))) [7, 8, 9])) nilS)
    (retS (callS f_law_close (aCons (varS 6) (aCons (lcS (rngS rng1D (aCons (varB 2) aNil)) (nameT 9) tYesS (varS 3) [9]) (aCons (lcS (rngS rng1D (aCons (prim2 (varB 3) (cst (.int 1)) addD) aNil)) (nameT 10) tYesS (varS 10) [10]) aNil))))))))
noncomputable abbrev f_law_loop : SF := funS [0] 11 b_law_loop
noncomputable def b_law_forest : SS :=
  (seqS (setS 2 (lcS (rngS rng1D (aCons (cst (.int 4)) aNil)) (nameT 3) (tstB (prim2 (varB 3) (varB 1) ninO)) (lstS (aCons (varS 3) aNil)) [3]))
    (seqS (forS (srcS (varS 0)) (nameT 4) (seqS (setS 5 (lstS aNil))
    (seqS (setS 6 (lstS aNil))
    (seqS (setS 7 (lstS aNil))
    (seqS (forS (srcS (slS (varB 4) (oSome (cst (.int 1))) oNone)) (nameT 3) (seqS (ifS (tAn (tstB (prim2 (varB 3) (varB 5) inO)) (tstB (prim2 (varB 3) (varB 1) ninO))) (retS (cst (.bl false))) nilS)
    (exprS (mutL appD 5 (aCons (varS 3) aNil)))) [3])
    (seqS (forS (srcS (varS 2)) (nameT 8) (seqS (setS 9 (primN (aCons (lcS (srcS (varS 8)) (nameT 3) (tstB (prim2 (varB 3) (slS (varB 4) (oSome (cst (.int 1))) oNone) inO)) (varS 3) [3]) aNil) lenD))
    (seqS (ifS (tstB (prim2 (varB 9) (cst (.int 1)) gtD)) (retS (cst (.bl false))) nilS)
    (ifS (tstB (prim2 (varB 9) (cst (.int 1)) eqD)) (setS 7 (prim2 (varB 7) (varB 8) addD)) (exprS (mutL appD 6 (aCons (varS 8) aNil)))))) [3, 8, 9])
    (setS 2 (prim2 (varB 6) (lstS (aCons (varS 7) aNil)) addD))))))) [3, 4, 5, 6, 7, 8, 9])
    (retS (cst (.bl true)))))
noncomputable abbrev f_law_forest : SF := funS [] 10 b_law_forest
noncomputable def b_law_tree : SS :=
  (seqS (setS 4 (lcS (rngS rng1D (aCons (varB 2) aNil)) (nameT 5) tYesS (callS f_law_draw (aCons (varB 0) (aCons (prim2 (cst (.int 1)) (callS f_law_draw (aCons (varB 0) (aCons (cst (.int 4)) aNil))) addD) aNil))) [5]))
    (seqS (setS 6 (lstS aNil))
    (seqS (forS (rngS rng1D (aCons (varB 3) aNil)) (nameT 7) (seqS (setS 8 (callS f_law_row (aCons (varB 0) (aCons (varS 1) (aCons (cst (.int 4)) aNil)))))
    (ifS (tAn (tstB (prim2 (varB 8) (varB 6) ninO)) (tstU (callS f_law_forest (aCons (prim2 (varB 6) (lstS (aCons (varS 8) aNil)) addD) (aCons (varS 4) aNil))))) (exprS (mutL appD 6 (aCons (varS 8) aNil))) nilS)) [7, 8])
    (retS (callS f_law_close (aCons (varS 6) (aCons (varS 4) (aCons (lstS (aCons (cst (.int 0)) (aCons (cst (.int 1)) (aCons (cst (.int 2)) (aCons (cst (.int 3)) aNil))))) aNil))))))))
noncomputable abbrev f_law_tree : SF := funS [0] 9 b_law_tree
noncomputable def b_law_drawn : SS :=
  (seqS (setS 3 (callS f_law_draw (aCons (varB 0) (aCons (cst (.int 4)) aNil))))
    (seqS (ifS (tstB (prim2 (varB 3) (cst (.int 0)) eqD)) (retS (callS f_law_loop (aCons (varB 0) (aCons (varS 1) (aCons (varS 2) (aCons (prim2 (cst (.int 1)) (callS f_law_draw (aCons (varB 0) (aCons (cst (.int 3)) aNil))) addD) aNil)))))) nilS)
    (seqS (ifS (tstB (prim2 (varB 3) (cst (.int 1)) eqD)) (retS (callS f_law_random (aCons (varB 0) (aCons (varS 1) (aCons (varS 2) (aCons (prim2 (cst (.int 1)) (callS f_law_draw (aCons (varB 0) (aCons (cst (.int 4)) aNil))) addD) (aCons (callS f_law_draw (aCons (varB 0) (aCons (cst (.int 5)) aNil))) aNil))))))) nilS)
    (retS (callS f_law_tree (aCons (varB 0) (aCons (varS 1) (aCons (varS 2) (aCons (prim2 (cst (.int 1)) (callS f_law_draw (aCons (varB 0) (aCons (cst (.int 4)) aNil))) addD) aNil)))))))))
noncomputable abbrev f_law_drawn : SF := funS [0] 4 b_law_drawn
noncomputable def b_law_links : SS :=
  (seqS (setS 1 (lstS aNil))
    (seqS (forS (rngS rng1D (aCons (primN (aCons (prim2 (varB 0) (cst (.int 0)) idxD) aNil) lenD) aNil)) (nameT 2) (seqS (setS 3 (prim2 (prim2 (varB 0) (cst (.int 0)) idxD) (varB 2) idxD))
    (forS (rngS rng1D (aCons (prim2 (primN (aCons (varB 3) aNil) lenD) (cst (.int 1)) subD) aNil)) (nameT 4) (ifS (tstB (prim2 (prim2 (varB 3) (prim2 (varB 4) (cst (.int 1)) addD) idxD) (prim2 (varB 0) (cst (.int 1)) idxD) ninO)) (exprS (mutL appD 1 (aCons (tupS (aCons (varS 2) (aCons (varS 4) aNil))) aNil))) nilS) [4])) [2, 3, 4])
    (retS (varM 1))))
noncomputable abbrev f_law_links : SF := funS [] 5 b_law_links
noncomputable def b_law_is_ring_link : SS :=
  (seqS (setS 2 (lcS (srcS (callS f_law_links (aCons (varS 0) aNil))) (nameT 3) (tstB (prim2 (varB 3) (varB 1) neD)) (varS 3) [3]))
    (seqS (setS 4 (lstS (aCons (prim2 (varB 1) (cst (.int 0)) idxD) aNil)))
    (seqS (setS 5 (lstS aNil))
    (seqS (forS (rngS rng1D (aCons (primN (aCons (varB 2) aNil) lenD) aNil)) (nameT 6) (forS (srcS (varS 2)) (nameT 3) (seqS (setS 7 (prim2 (prim2 (prim2 (varB 0) (cst (.int 0)) idxD) (prim2 (varB 3) (cst (.int 0)) idxD) idxD) (prim2 (prim2 (varB 3) (cst (.int 1)) idxD) (cst (.int 1)) addD) idxD))
    (ifS (tAn (tstB (prim2 (prim2 (varB 3) (cst (.int 0)) idxD) (varB 4) inO)) (tstB (prim2 (varB 7) (varB 5) ninO))) (exprS (mutL appD 5 (aCons (varS 7) aNil))) (ifS (tAn (tstB (prim2 (varB 7) (varB 5) inO)) (tstB (prim2 (prim2 (varB 3) (cst (.int 0)) idxD) (varB 4) ninO))) (exprS (mutL appD 4 (aCons (prim2 (varB 3) (cst (.int 0)) idxD) aNil))) nilS))) [3, 7]) [3, 6, 7])
    (retS (prim2 (prim2 (prim2 (prim2 (varB 0) (cst (.int 0)) idxD) (prim2 (varB 1) (cst (.int 0)) idxD) idxD) (prim2 (prim2 (varB 1) (cst (.int 1)) idxD) (cst (.int 1)) addD) idxD) (varB 5) inO))))))
noncomputable abbrev f_law_is_ring_link : SF := funS [] 8 b_law_is_ring_link
noncomputable def b_links : SS :=
  (seqS (setS 1 (lstS aNil))
    (seqS (forS (srcN enumD (aCons (prim1 (varB 0) (fldD "rows")) aNil)) (tupT 2 (consT (nameT 2) (consT (nameT 3) nilT))) (forS (srcN enumD (aCons (slS (varB 3) (oSome (cst (.int 1))) oNone) aNil)) (tupT 2 (consT (nameT 4) (consT (nameT 5) nilT))) (ifS (tstB (prim2 (varB 5) (prim1 (varB 0) (fldD "head")) ninO)) (exprS (mutL appD 1 (aCons (tupS (aCons (varS 2) (aCons (varS 4) aNil))) aNil))) nilS) [4, 5]) [2, 3, 4, 5])
    (retS (varM 1))))
noncomputable abbrev f_links : SF := funS [] 6 b_links
noncomputable def b_link_value : SS :=
  (retS (prim2 (prim2 (prim1 (varB 0) (fldD "rows")) (prim2 (varB 1) (cst (.int 0)) idxD) idxD) (prim2 (prim2 (varB 1) (cst (.int 1)) idxD) (cst (.int 1)) addD) idxD))
noncomputable abbrev f_link_value : SF := funS [] 2 b_link_value
noncomputable def b_paths_without : SS :=
  (seqS (setS 2 (lcS (srcS (callS f_links (aCons (varS 0) aNil))) (nameT 3) (tstB (prim2 (varB 3) (varB 1) neD)) (varS 3) [3]))
    (seqS (setS 4 (disp1S true (tupS (aCons (cst (.int 0)) (aCons (prim2 (varB 1) (cst (.int 0)) idxD) aNil))) (lstS aNil)))
    (seqS (setS 5 (cst (.bl true)))
    (seqS (whileS (tstU (varB 5)) (seqS (setS 5 (cst (.bl false)))
    (forS (srcS (varS 2)) (nameT 3) (seqS (setS 6 (tupS (aCons (cst (.int 0)) (aCons (prim2 (varB 3) (cst (.int 0)) idxD) aNil))))
    (seqS (setS 7 (tupS (aCons (cst (.int 1)) (aCons (callS f_link_value (aCons (varS 0) (aCons (varS 3) aNil))) aNil))))
    (ifS (tAn (tstB (prim2 (varB 6) (varB 4) inO)) (tstB (prim2 (varB 7) (varB 4) ninO))) (seqS (putS 4 (varS 7) (prim2 (prim2 (varB 4) (varB 6) idxD) (lstS (aCons (varS 3) aNil)) addD))
    (setS 5 (cst (.bl true)))) (ifS (tAn (tstB (prim2 (varB 7) (varB 4) inO)) (tstB (prim2 (varB 6) (varB 4) ninO))) (seqS (putS 4 (varS 6) (prim2 (prim2 (varB 4) (varB 7) idxD) (lstS (aCons (varS 3) aNil)) addD))
    (setS 5 (cst (.bl true)))) nilS)))) [3, 6, 7])))
    (retS (varM 4))))))
noncomputable abbrev f_paths_without : SF := funS [] 8 b_paths_without
noncomputable def b_is_ring_link : SS :=
  (retS (prim2 (tupS (aCons (cst (.int 1)) (aCons (callS f_link_value (aCons (varS 0) (aCons (varS 1) aNil))) aNil))) (callS f_paths_without (aCons (varS 0) (aCons (varS 1) aNil))) inO))
noncomputable abbrev f_is_ring_link : SF := funS [] 2 b_is_ring_link
noncomputable def b_ring_links : SS :=
  (retS (lcS (srcS (callS f_links (aCons (varS 0) aNil))) (nameT 1) (tstU (callS f_is_ring_link (aCons (varS 0) (aCons (varS 1) aNil)))) (varS 1) [1]))
noncomputable abbrev f_ring_links : SF := funS [] 2 b_ring_links
end Ev
-- S_k19
set_option Elab.async false
set_option linter.all false
set_option maxRecDepth 100000
namespace Ev
open PySem L2

noncomputable def b_law_ringed : SS :=
  (seqS (setS 3 (callS f_law_loop (aCons (varB 0) (aCons (varS 1) (aCons (varS 2) (aCons (prim2 (cst (.int 1)) (callS f_law_draw (aCons (varB 0) (aCons (cst (.int 4)) aNil))) addD) aNil))))))
    (seqS (setS 4 (primN (aCons (prim2 (varB 3) (cst (.int 0)) idxD) aNil) listD))
    (seqS (forS (rngS rng1D (aCons (callS f_law_draw (aCons (varB 0) (aCons (cst (.int 4)) aNil))) aNil)) (nameT 5) (exprS (mutL appD 4 (aCons (callS f_law_row (aCons (varB 0) (aCons (varS 1) (aCons (prim2 (prim2 (varB 3) (cst (.int 2)) idxD) (cst (.int 1)) addD) aNil)))) aNil))) [5])
    (seqS (setS 6 (prim2 (varB 3) (cst (.int 1)) idxD))
    (seqS (ifS (tstB (prim2 (callS f_law_draw (aCons (varB 0) (aCons (cst (.int 2)) aNil))) (cst (.int 1)) eqD)) (setS 6 (lcS (rngS rng1D (aCons (varB 2) aNil)) (nameT 7) tYesS (callS f_law_draw (aCons (varB 0) (aCons (prim2 (prim2 (varB 3) (cst (.int 2)) idxD) (cst (.int 1)) addD) aNil))) [7])) nilS)
    (retS (callS f_law_close (aCons (varS 4) (aCons (varS 6) (aCons (lcS (rngS rng1D (aCons (prim2 (prim2 (varB 3) (cst (.int 2)) idxD) (cst (.int 1)) addD) aNil)) (nameT 8) tYesS (varS 8) [8]) aNil))))))))))
noncomputable abbrev f_law_ringed : SF := funS [0] 9 b_law_ringed
-- 0 state, 1 tables, 2 columns, 3 loop, 4 rows, 5 k, 6 head, 7 column, 8 value
noncomputable def b_law_right : SS :=
  (seqS (setS 2 (makeS "Pattern" f_Pattern_init (aCons (varS 0) (aCons (primN (aCons (prim2 (varB 1) (cst (.int 0)) idxD) aNil) listD) (aCons (prim2 (varB 1) (cst (.int 1)) idxD) aNil)))))
    (seqS (setS 3 (lcS (srcS (callS f_law_links (aCons (varS 1) aNil))) (nameT 4) (tstU (callS f_law_is_ring_link (aCons (varS 1) (aCons (varS 4) aNil)))) (varS 4) [4]))
    (seqS (setS 5 (callS f_ring_links (aCons (varS 2) aNil)))
    (seqS (ifS (tNt (tstU (callR (f_law_same 4) (aCons (varB 5) (aCons (varS 3) aNil))))) (retS (cst (.bl false))) nilS)
    (seqS (exprS (mutL appD 5 (aCons (tupS (aCons (cst (.int 0)) (aCons (cst (.int 0)) aNil))) aNil)))
    (retS (vAnd (callS (f_law_same 4) (aCons (callS f_ring_links (aCons (varS 2) aNil)) (aCons (varS 3) aNil))) (callS f_law_is (aCons (varS 2) (aCons (varS 1) aNil))))))))))
noncomputable abbrev f_law_right : SF := funS [] 6 b_law_right
-- 0 schema, 1 plain, 2 pattern, 3 due, 4 link, 5 told
noncomputable def b_law : SS :=
  (seqS (setS 1 (callS f_law_start (aCons (varS 0) aNil)))
    (seqS (setS 2 (prim2 (lstS (aCons (cst (.int 0)) (aCons (cst (.int 1)) (aCons (cst (.int 2)) (aCons (cst (.int 0)) (aCons (cst (.int 1)) (aCons (cst (.int 2)) (aCons (cst (.int 3)) (aCons (cst (.int 4)) aNil))))))))) (callS f_law_draw (aCons (varB 1) (aCons (cst (.int 8)) aNil))) idxD))
    (seqS (setS 3 (callS f_law_draw (aCons (varB 1) (aCons (cst (.int 3)) aNil))))
    (seqS (setS 4 (prim2 (cst (.int 1)) (callS f_law_draw (aCons (varB 1) (aCons (cst (.int 6)) aNil))) addD))
    (seqS (setS 5 (callS f_law_draw (aCons (varB 1) (aCons (cst (.int 7)) aNil))))
    (seqS (setS 6 (callS f_law_tables (aCons (varB 1) (aCons (cst (.int 3)) (aCons (cst (.int 4)) aNil)))))
    (seqS (ifS (tstB (prim2 (varB 3) (cst (.int 0)) eqD)) (setS 7 (callS f_law_random (aCons (varB 1) (aCons (varS 6) (aCons (varS 2) (aCons (varS 4) (aCons (varS 5) aNil))))))) (ifS (tstB (prim2 (varB 3) (cst (.int 1)) eqD)) (setS 7 (callS f_law_ringed (aCons (varB 1) (aCons (varS 6) (aCons (varS 2) aNil))))) (setS 7 (callS f_law_drawn (aCons (varB 1) (aCons (varS 6) (aCons (varS 2) aNil)))))))
    (seqS (ifS (tNt (tstU (callS f_law_right (aCons (makeS "Schema" f_Schema_init (aCons (primN (aCons (varB 6) aNil) listD) aNil)) (aCons (varS 7) aNil))))) (retS (cst (.bl false))) nilS)
    (seqS (setS 8 (makeS "Schema" f_Schema_init (aCons (lstS (aCons (tupS (aCons (cst (.str "S")) (aCons (cst (.int 2)) aNil))) (aCons (tupS (aCons (cst (.str "R")) (aCons (cst (.int 1)) aNil))) (aCons (tupS (aCons (cst (.str "T")) (aCons (cst (.int 3)) aNil))) aNil)))) aNil)))
    (seqS (setS 9 (lstS (aCons (tupS (aCons (cst (.str "S")) (aCons (cst (.int 0)) (aCons (cst (.int 1)) aNil)))) (aCons (tupS (aCons (cst (.str "S")) (aCons (cst (.int 1)) (aCons (cst (.int 2)) aNil)))) (aCons (tupS (aCons (cst (.str "S")) (aCons (cst (.int 2)) (aCons (cst (.int 0)) aNil)))) aNil)))))
    (seqS (setS 10 (lstS (aCons (tupS (aCons (cst (.str "S")) (aCons (cst (.int 0)) (aCons (cst (.int 1)) aNil)))) (aCons (tupS (aCons (cst (.str "S")) (aCons (cst (.int 1)) (aCons (cst (.int 0)) aNil)))) (aCons (tupS (aCons (cst (.str "S")) (aCons (cst (.int 1)) (aCons (cst (.int 2)) aNil)))) (aCons (tupS (aCons (cst (.str "S")) (aCons (cst (.int 2)) (aCons (cst (.int 2)) aNil)))) (aCons (tupS (aCons (cst (.str "S")) (aCons (cst (.int 2)) (aCons (cst (.int 3)) aNil)))) aNil)))))))
    (seqS (setS 11 (lstS (aCons (tupS (aCons (cst (.str "R")) (aCons (cst (.int 1)) aNil))) (aCons (tupS (aCons (cst (.str "S")) (aCons (cst (.int 1)) (aCons (cst (.int 2)) aNil)))) (aCons (tupS (aCons (cst (.str "T")) (aCons (cst (.int 0)) (aCons (cst (.int 1)) (aCons (cst (.int 0)) aNil))))) (aCons (tupS (aCons (cst (.str "T")) (aCons (cst (.int 2)) (aCons (cst (.int 3)) (aCons (cst (.int 4)) aNil))))) aNil))))))
    (seqS (forS (srcS (lstS (aCons (tupS (aCons (varS 9) (aCons (cst (.int 3)) aNil))) (aCons (tupS (aCons (varS 10) (aCons (cst (.int 4)) aNil))) (aCons (tupS (aCons (varS 11) (aCons (cst (.int 5)) aNil))) aNil))))) (nameT 12) (forS (srcS (lstS (aCons (tupS aNil) (aCons (tupS (aCons (cst (.int 0)) aNil)) (aCons (prim2 (lstS (aCons (tupS (aCons (cst (.int 1)) (aCons (cst (.int 1)) aNil))) (aCons (tupS (aCons (cst (.int 2)) (aCons (cst (.int 0)) aNil))) aNil))) (prim2 (primN (aCons (varB 4) aNil) intD) (cst (.int 2)) modD) idxD) aNil))))) (nameT 13) (ifS (tNt (tstU (callS f_law_right (aCons (varS 8) (aCons (tupS (aCons (prim2 (varB 12) (cst (.int 0)) idxD) (aCons (varS 13) (aCons (prim2 (varB 12) (cst (.int 1)) idxD) aNil)))) aNil))))) (retS (cst (.bl false))) nilS) [13]) [12, 13])
    (retS (vAnd (callS f_law_right (aCons (varS 8) (aCons (tupS (aCons (lstS (aCons (tupS (aCons (cst (.str "R")) (aCons (cst (.int 0)) aNil))) (aCons (tupS (aCons (cst (.str "R")) (aCons (cst (.int 1)) aNil))) aNil))) (aCons (tupS (aCons (cst (.int 1)) aNil)) (aCons (cst (.int 2)) aNil)))) aNil))) (callS f_law_right (aCons (varS 8) (aCons (tupS (aCons (lstS aNil) (aCons (tupS (aCons (cst (.int 0)) aNil)) (aCons (cst (.int 1)) aNil)))) aNil))))))))))))))))))
noncomputable abbrev f_law : SF := funS [] 14 b_law
-- 0 script, 1 state, 2 columns, 3 way, 4 size, 5 many, 6 tables, 7 plain, 8 plan, 9 circle, 10 both, 11 wide, 12 pair, 13 head
end Ev
-- D_k19
set_option Elab.async false
set_option linter.all false
set_option maxRecDepth 100000
set_option maxHeartbeats 0
namespace Ev.K19
open PySem PySem.Spec L2 HT ClX Ev
open PyProof.Rows hiding St
def top (i : Nat) : Stmt := PySem.Challenge.pw_pinnedbycounts_k19_ring_links.main.body.getD i (.Pass ⟨0, 0, 0, 0⟩)
structure Lw (Γ : Gm) (mg : Str → Option Value) : Prop where
  bn : Bn mg
  gi_Schema : GetI Γ.K (Γ.cls "Schema")
  cc_Pattern_MAX_HEAD : CcAt Γ mg "Pattern" "MAX_HEAD" 4
  cc_Pattern_MAX_ROWS : CcAt Γ mg "Pattern" "MAX_ROWS" 600
  cc_Pattern_MAX_VALUES : CcAt Γ mg "Pattern" "MAX_VALUES" 300
  na_Pattern_schema : NoAttr Γ.K (Γ.cls "Pattern") "schema"
  na_Pattern_rows : NoAttr Γ.K (Γ.cls "Pattern") "rows"
  na_Pattern_head : NoAttr Γ.K (Γ.cls "Pattern") "head"
  na_Pattern_size : NoAttr Γ.K (Γ.cls "Pattern") "size"
  g_MAX_WORD : ∃ t, mg "MAX_WORD" = some (.int 20 t)
  g_WORD_CHARACTERS : ∃ t, mg "WORD_CHARACTERS" = some (.str "ABCDEFGHIJKLMNOPQRSTUVWXYZabcdefghijklmnopqrstuvwxyz0123456789_" t)
  cc_Schema_MAX_TABLES : CcAt Γ mg "Schema" "MAX_TABLES" 8
  cc_Schema_MAX_WIDTH : CcAt Γ mg "Schema" "MAX_WIDTH" 4
  na_Schema_names : NoAttr Γ.K (Γ.cls "Schema") "names"
  na_Schema_widths : NoAttr Γ.K (Γ.cls "Schema") "widths"
  d_law_start : DefAt Γ.K mg "_law_start" (top 42)
  d_law_draw : DefAt Γ.K mg "_law_draw" (top 43)
  d_law_word : DefAt Γ.K mg "_law_word" (top 48)
  d_law_pool : DefAt Γ.K mg "_law_pool" (top 49)
  d_law_tables : DefAt Γ.K mg "_law_tables" (top 50)
  d_law_row : DefAt Γ.K mg "_law_row" (top 51)
  d_law_sorted : DefAt Γ.K mg "_law_sorted" (top 45)
  d_law_close : DefAt Γ.K mg "_law_close" (top 46)
  d_law_random : DefAt Γ.K mg "_law_random" (top 52)
  d_law_loop : DefAt Γ.K mg "_law_loop" (top 55)
  d_law_ringed : DefAt Γ.K mg "_law_ringed" (top 59)
  d_law_forest : DefAt Γ.K mg "_law_forest" (top 53)
  d_law_tree : DefAt Γ.K mg "_law_tree" (top 54)
  d_law_drawn : DefAt Γ.K mg "_law_drawn" (top 56)
  c_Schema : ClsAt Γ mg "Schema"
  m_Schema_contains : MethAt Γ.K (Γ.cls "Schema") "__contains__" "Schema.__contains__" (inClass (top 28) 6)
  m_Schema_getitem : MethAt Γ.K (Γ.cls "Schema") "__getitem__" "Schema.__getitem__" (inClass (top 28) 7)
  d_is_natural : DefAt Γ.K mg "is_natural" (top 23)
  d_check_row : DefAt Γ.K mg "check_row" (top 38)
  d_merged : DefAt Γ.K mg "merged" (top 20)
  d_ascending : DefAt Γ.K mg "ascending" (top 21)
  c_Pattern : ClsAt Γ mg "Pattern"
  k_Pattern : MkAt Γ "Pattern" "Pattern.__init__" (inClass (top 40) 3)
  d_law_links : DefAt Γ.K mg "_law_links" (top 57)
  d_law_is_ring_link : DefAt Γ.K mg "_law_is_ring_link" (top 58)
  d_links : DefAt Γ.K mg "links" (top 2)
  d_link_value : DefAt Γ.K mg "link_value" (top 3)
  d_paths_without : DefAt Γ.K mg "paths_without" (top 4)
  d_is_ring_link : DefAt Γ.K mg "is_ring_link" (top 5)
  d_ring_links : DefAt Γ.K mg "ring_links" (top 6)
  d_law_same : DefAt Γ.K mg "_law_same" (top 44)
  d_law_is : DefAt Γ.K mg "_law_is" (top 47)
  d_law_right : DefAt Γ.K mg "_law_right" (top 60)
  d_is_word : DefAt Γ.K mg "is_word" (top 27)
  d_is_integer : DefAt Γ.K mg "is_integer" (top 22)
  k_Schema : MkAt Γ "Schema" "Schema.__init__" (inClass (top 28) 2)
  d_law : DefAt Γ.K mg "law" (top 61)
section
variable {P : Program} {w : World} {Γ : Gm} {mg : Str → Option Value} {base : Heap}
theorem ok_law_start (h : Lw Γ mg) : Cal P w Γ.K mg base Γ (L2.CX P w) 1 "_law_start" 1 f_law_start :=
  cal_of (st := (top 42)) ["script", "cell"] ["script"] [] [] h.d_law_start ⟨rfl, rfl, rfl, by decide +kernel, rfl, by decide +kernel, by decide +kernel⟩ 2 rfl rfl (by decide) (fun _ _ _ _ _ _ us hl => match us, hl with | [_], _ => rfl) (fun _ _ _ _ _ _ _ c => (ess_one (es_ret (ee_lst (ea_cons (ee_lc c [("cell", 1)] (ei_src c (ee_v 0)) (fun _ _ _ _ _ c => (eg_name c 1)) (fun _ _ _ _ _ c => ets_nil) (fun _ _ _ _ _ c => (ee_toInt rfl h.bn.int (ea_cons (ee_b 1) ea_nil)))) (ea_cons (ee_int) (ea_cons (ee_int) (ea_cons (ee_int) (ea_cons (ee_int) ea_nil)))))))))
theorem ok_law_draw (h : Lw Γ mg) : Cal P w Γ.K mg base Γ (L2.CX P w) 1 "_law_draw" 2 f_law_draw :=
  cal_of (st := (top 43)) ["state", "limit", "cell", "number", "mixed"] ["state", "limit"] [0] [0] h.d_law_draw ⟨rfl, rfl, rfl, by decide +kernel, rfl, by decide +kernel, by decide +kernel⟩ 5 rfl rfl (by decide) (fun _ _ _ _ _ _ us hl => match us, hl with | [_, _], _ => rfl) (fun _ _ _ _ _ _ _ c => (ess_cons (es_if (et_lt c (ee_b 1) (ee_int)) (ess_one (es_ret (ee_int))) ess_nil)
    (ess_cons (es_if (et_eq c (ee_idx c (ee_b 0) (ee_int)) (ee_int)) (ess_cons (es_if (et_ge (ee_idx c (ee_b 0) (ee_int)) (ee_len c rfl h.bn.len (ea_cons (ee_idx c (ee_b 0) (ee_int)) ea_nil))) (ess_one (es_ret (ee_int))) ess_nil)
    (ess_cons (es_set c 2 (ee_toInt rfl h.bn.int (ea_cons (ee_idx c (ee_idx c (ee_b 0) (ee_int)) (ee_idx c (ee_b 0) (ee_int))) ea_nil)))
    (ess_cons (es_if (et_lt c (ee_b 2) (ee_int)) (ess_one (es_set c 2 (ee_sub (ee_int) (ee_b 2)))) ess_nil)
    (ess_cons (es_put c 0 (ee_int) (ee_add c (ee_idx c (ee_b 0) (ee_int)) (ee_int)))
    (ess_cons (es_put c 0 (ee_int) (ee_v 2))
    (ess_cons (es_put c 0 (ee_int) (ee_int))
    (ess_cons (es_put c 0 (ee_int) (ee_int))
    (ess_one (es_if (et_ge (ee_b 2) (ee_pow (ee_int) (ee_int))) (ess_cons (es_put c 0 (ee_int) (ee_int))
    (ess_one (es_put c 0 (ee_int) (ee_int)))) ess_nil))))))))) ess_nil)
    (ess_cons (es_put c 0 (ee_int) (ee_sub (ee_idx c (ee_b 0) (ee_int)) (ee_int)))
    (ess_cons (es_if (et_eq c (ee_idx c (ee_b 0) (ee_int)) (ee_int)) (ess_cons (es_set c 3 (ee_mod (ee_toInt rfl h.bn.int (ea_cons (ee_idx c (ee_b 0) (ee_int)) ea_nil)) (ee_b 1)))
    (ess_cons (es_put c 0 (ee_int) (ee_fdiv (ee_toInt rfl h.bn.int (ea_cons (ee_idx c (ee_b 0) (ee_int)) ea_nil)) (ee_b 1)))
    (ess_cons (es_if (et_eq c (ee_idx c (ee_b 0) (ee_int)) (ee_int)) (ess_one (es_put c 0 (ee_int) (ee_int))) ess_nil)
    (ess_one (es_ret (ee_m 3)))))) ess_nil)
    (ess_cons (es_set c 4 (ee_mod (ee_toInt rfl h.bn.int (ea_cons (ee_add c (ee_add c (ee_mul (ee_idx c (ee_b 0) (ee_int)) (ee_int)) (ee_mul (ee_idx c (ee_b 0) (ee_int)) (ee_int))) (ee_int)) ea_nil)) (ee_int)))
    (ess_one (es_ret (ee_mod (ee_toInt rfl h.bn.int (ea_cons (ee_mod (ee_toInt rfl h.bn.int (ea_cons (ee_add c (ee_add c (ee_mul (ee_b 4) (ee_int)) (ee_mul (ee_idx c (ee_b 0) (ee_int)) (ee_int))) (ee_int)) ea_nil)) (ee_int)) ea_nil)) (ee_b 1))))))))))
theorem ok_law_word (h : Lw Γ mg) : Cal P w Γ.K mg base Γ (L2.CX P w) 2 "_law_word" 1 f_law_word :=
  cal_of (st := (top 48)) ["state", "signs", "size", "k"] ["state"] [0] [0] h.d_law_word ⟨rfl, rfl, rfl, by decide +kernel, rfl, by decide +kernel, by decide +kernel⟩ 4 rfl rfl (by decide) (fun _ _ _ _ _ _ us hl => match us, hl with | [_], _ => rfl) (fun _ _ _ _ _ _ _ c => (ess_cons (es_set c 1 (ee_str))
    (ess_cons (es_set c 2 (ee_add c (ee_int) (ee_call c (ok_law_draw h) (ea_cons (ee_b 0) (ea_cons (ee_int) ea_nil)) (argN_cons (argN_cons argN_nil)))))
    (ess_cons (es_if (et_eq c (ee_call c (ok_law_draw h) (ea_cons (ee_b 0) (ea_cons (ee_int) ea_nil)) (argN_cons (argN_cons argN_nil))) (ee_int)) (ess_one (es_set c 2 (ee_add c (ee_int) (ee_call c (ok_law_draw h) (ea_cons (ee_b 0) (ea_cons (ee_int) ea_nil)) (argN_cons (argN_cons argN_nil)))))) ess_nil)
    (ess_one (es_ret (ee_join c (ee_str) (ea_cons (ee_lc c [("k", 3)] (ei_range1 rfl h.bn.range (ea_cons (ee_b 2) ea_nil)) (fun _ _ _ _ _ c => (eg_name c 3)) (fun _ _ _ _ _ c => ets_nil) (fun _ _ _ _ _ c => (ee_idx c (ee_b 1) (ee_call c (ok_law_draw h) (ea_cons (ee_b 0) (ea_cons (ee_int) ea_nil)) (argN_cons (argN_cons argN_nil)))))) ea_nil))))))))
theorem ok_law_pool (h : Lw Γ mg) : Cal P w Γ.K mg base Γ (L2.CX P w) 3 "_law_pool" 2 f_law_pool :=
  cal_of (st := (top 49)) ["state", "count", "pool", "k", "plain", "back", "word", "mark"] ["state", "count"] [0] [0] h.d_law_pool ⟨rfl, rfl, rfl, by decide +kernel, rfl, by decide +kernel, by decide +kernel⟩ 8 rfl rfl (by decide) (fun _ _ _ _ _ _ us hl => match us, hl with | [_, _], _ => rfl) (fun _ _ _ _ _ _ _ c => (ess_cons (es_set c 2 (ee_lst ea_nil))
    (ess_cons (es_for c [3, 4, 5, 6, 7] (ei_range1 rfl h.bn.range (ea_cons (ee_b 1) ea_nil)) (eg_name c 3) (ess_cons (es_set c 4 (ee_call c (ok_law_word h) (ea_cons (ee_b 0) ea_nil) (argN_cons argN_nil)))
    (ess_cons (es_set c 5 (ee_call c (ok_law_draw h) (ea_cons (ee_b 0) (ea_cons (ee_int) ea_nil)) (argN_cons (argN_cons argN_nil))))
    (ess_cons (es_set c 6 (ee_v 4))
    (ess_cons (es_for c [7] (ei_src c (ee_str)) (eg_name c 7) (ess_one (es_if (et_in c (ee_b 6) (ee_b 2)) (ess_cons (es_set c 6 (ee_add c (ee_b 7) (ee_sl c (ee_b 4) eo_none (eo_some (ee_int)))))
    (ess_one (es_if (et_eq c (ee_b 5) (ee_int)) (ess_one (es_set c 6 (ee_add c (ee_sl c (ee_b 4) eo_none (eo_some (ee_int))) (ee_b 7)))) ess_nil))) ess_nil)))
    (ess_one (es_expr (ee_app c 2 (ea_cons (ee_v 6) ea_nil)))))))))
    (ess_one (es_ret (ee_m 2))))))
theorem ok_law_tables (h : Lw Γ mg) : Cal P w Γ.K mg base Γ (L2.CX P w) 4 "_law_tables" 3 f_law_tables :=
  cal_of (st := (top 50)) ["state", "most", "widest", "names", "name"] ["state", "most", "widest"] [0] [0] h.d_law_tables ⟨rfl, rfl, rfl, by decide +kernel, rfl, by decide +kernel, by decide +kernel⟩ 5 rfl rfl (by decide) (fun _ _ _ _ _ _ us hl => match us, hl with | [_, _, _], _ => rfl) (fun _ _ _ _ _ _ _ c => (ess_cons (es_set c 3 (ee_call c (ok_law_pool h) (ea_cons (ee_b 0) (ea_cons (ee_add c (ee_int) (ee_call c (ok_law_draw h) (ea_cons (ee_b 0) (ea_cons (ee_v 1) ea_nil)) (argN_cons (argN_cons argN_nil)))) ea_nil)) (argN_cons (argN_cons argN_nil))))
    (ess_one (es_ret (ee_lc c [("name", 4)] (ei_src c (ee_v 3)) (fun _ _ _ _ _ c => (eg_name c 4)) (fun _ _ _ _ _ c => ets_nil) (fun _ _ _ _ _ c => (ee_tup (ea_cons (ee_v 4) (ea_cons (ee_add c (ee_int) (ee_call c (ok_law_draw h) (ea_cons (ee_b 0) (ea_cons (ee_v 2) ea_nil)) (argN_cons (argN_cons argN_nil)))) ea_nil)))))))))
theorem ok_law_row (h : Lw Γ mg) : Cal P w Γ.K mg base Γ (L2.CX P w) 2 "_law_row" 3 f_law_row :=
  cal_of (st := (top 51)) ["state", "tables", "size", "table", "column"] ["state", "tables", "size"] [0] [0] h.d_law_row ⟨rfl, rfl, rfl, by decide +kernel, rfl, by decide +kernel, by decide +kernel⟩ 5 rfl rfl (by decide) (fun _ _ _ _ _ _ us hl => match us, hl with | [_, _, _], _ => rfl) (fun _ _ _ _ _ _ _ c => (ess_cons (es_set c 3 (ee_idx c (ee_b 1) (ee_call c (ok_law_draw h) (ea_cons (ee_b 0) (ea_cons (ee_len c rfl h.bn.len (ea_cons (ee_b 1) ea_nil)) ea_nil)) (argN_cons (argN_cons argN_nil)))))
    (ess_one (es_ret (ee_add c (ee_tup (ea_cons (ee_idx c (ee_b 3) (ee_int)) ea_nil)) (ee_toTup c rfl h.bn.tuple (ea_cons (ee_lc c [("column", 4)] (ei_range1 rfl h.bn.range (ea_cons (ee_idx c (ee_b 3) (ee_int)) ea_nil)) (fun _ _ _ _ _ c => (eg_name c 4)) (fun _ _ _ _ _ c => ets_nil) (fun _ _ _ _ _ c => (ee_call c (ok_law_draw h) (ea_cons (ee_b 0) (ea_cons (ee_v 2) ea_nil)) (argN_cons (argN_cons argN_nil))))) ea_nil)))))))
theorem ok_law_sorted (h : Lw Γ mg) : Cal P w Γ.K mg base Γ (L2.CX P w) 1 "_law_sorted" 1 f_law_sorted :=
  cal_of (st := (top 45)) ["things", "result", "thing", "place", "k"] ["things"] [] [] h.d_law_sorted ⟨rfl, rfl, rfl, by decide +kernel, rfl, by decide +kernel, by decide +kernel⟩ 5 rfl rfl (by decide) (fun _ _ _ _ _ _ us hl => match us, hl with | [_], _ => rfl) (fun _ _ _ _ _ _ _ c => (ess_cons (es_set c 1 (ee_lst ea_nil))
    (ess_cons (es_for c [2, 3, 4] (ei_src c (ee_v 0)) (eg_name c 2) (ess_cons (es_set c 3 (ee_int))
    (ess_cons (es_for c [4] (ei_range1 rfl h.bn.range (ea_cons (ee_len c rfl h.bn.len (ea_cons (ee_b 1) ea_nil)) ea_nil)) (eg_name c 4) (ess_one (es_if (et_lt c (ee_idx c (ee_b 1) (ee_b 4)) (ee_b 2)) (ess_one (es_set c 3 (ee_add c (ee_b 4) (ee_int)))) ess_nil)))
    (ess_one (es_if (EW.et (ew_or (et_eq c (ee_b 3) (ee_len c rfl h.bn.len (ea_cons (ee_b 1) ea_nil))) (ew_or1 (et_ne c (ee_idx c (ee_b 1) (ee_b 3)) (ee_b 2))))) (ess_one (es_set c 1 (ee_add c (ee_add c (ee_sl c (ee_b 1) eo_none (eo_some (ee_b 3))) (ee_lst (ea_cons (ee_v 2) ea_nil))) (ee_sl c (ee_b 1) (eo_some (ee_b 3)) eo_none)))) ess_nil)))))
    (ess_one (es_ret (ee_m 1))))))
theorem ok_law_close (h : Lw Γ mg) : Cal P w Γ.K mg base Γ (L2.CX P w) 2 "_law_close" 3 f_law_close :=
  cal_of (st := (top 46)) ["rows", "head", "listed", "used", "row", "kept", "label", "result"] ["rows", "head", "listed"] [] [] h.d_law_close ⟨rfl, rfl, rfl, by decide +kernel, rfl, by decide +kernel, by decide +kernel⟩ 8 rfl rfl (by decide) (fun _ _ _ _ _ _ us hl => match us, hl with | [_, _, _], _ => rfl) (fun _ _ _ _ _ _ _ c => (ess_cons (es_set c 3 (ee_toLst c rfl h.bn.list (ea_cons (ee_b 1) ea_nil)))
    (ess_cons (es_for c [4] (ei_src c (ee_v 0)) (eg_name c 4) (ess_one (es_set c 3 (ee_add c (ee_b 3) (ee_toLst c rfl h.bn.list (ea_cons (ee_sl c (ee_b 4) (eo_some (ee_int)) eo_none) ea_nil))))))
    (ess_cons (es_set c 5 (ee_lst ea_nil))
    (ess_cons (es_for c [6] (ei_src c (ee_v 2)) (eg_name c 6) (ess_one (es_if (EW.et (ew_and (et_in c (ee_b 6) (ee_b 3)) (ew_and1 (et_nin c (ee_b 6) (ee_b 5))))) (ess_one (es_expr (ee_app c 5 (ea_cons (ee_v 6) ea_nil)))) ess_nil)))
    (ess_cons (es_set c 7 (ee_lst ea_nil))
    (ess_cons (es_for c [4, 6] (ei_src c (ee_v 0)) (eg_name c 4) (ess_one (es_expr (ee_app c 7 (ea_cons (ee_add c (ee_tup (ea_cons (ee_idx c (ee_b 4) (ee_int)) ea_nil)) (ee_toTup c rfl h.bn.tuple (ea_cons (ee_lc c [("label", 6)] (ei_src c (ee_sl c (ee_b 4) (eo_some (ee_int)) eo_none)) (fun _ _ _ _ _ c => (eg_name c 6)) (fun _ _ _ _ _ c => ets_nil) (fun _ _ _ _ _ c => (ee_index c (ee_b 5) (ea_cons (ee_b 6) ea_nil)))) ea_nil))) ea_nil)))))
    (ess_one (es_ret (ee_tup (ea_cons (ee_call c (ok_law_sorted h) (ea_cons (ee_v 7) ea_nil) (argN_cons argN_nil)) (ea_cons (ee_toTup c rfl h.bn.tuple (ea_cons (ee_lc c [("label", 6)] (ei_src c (ee_v 1)) (fun _ _ _ _ _ c => (eg_name c 6)) (fun _ _ _ _ _ c => ets_nil) (fun _ _ _ _ _ c => (ee_index c (ee_b 5) (ea_cons (ee_b 6) ea_nil)))) ea_nil)) (ea_cons (ee_len c rfl h.bn.len (ea_cons (ee_b 5) ea_nil)) ea_nil)))))))))))))
theorem ok_law_random (h : Lw Γ mg) : Cal P w Γ.K mg base Γ (L2.CX P w) 3 "_law_random" 5 f_law_random :=
  cal_of (st := (top 52)) ["state", "tables", "columns", "size", "count", "head", "column", "rows", "k", "value"] ["state", "tables", "columns", "size", "count"] [0] [0] h.d_law_random ⟨rfl, rfl, rfl, by decide +kernel, rfl, by decide +kernel, by decide +kernel⟩ 10 rfl rfl (by decide) (fun _ _ _ _ _ _ us hl => match us, hl with | [_, _, _, _, _], _ => rfl) (fun _ _ _ _ _ _ _ c => (ess_cons (es_setLc c 5 [("column", 6)] (ei_range1 rfl h.bn.range (ea_cons (ee_b 2) ea_nil)) (fun _ _ _ _ _ c => (eg_name c 6)) (fun _ _ _ _ _ c => ets_nil) (fun _ _ _ _ _ c => (ee_call c (ok_law_draw h) (ea_cons (ee_b 0) (ea_cons (ee_v 3) ea_nil)) (argN_cons (argN_cons argN_nil)))))
    (ess_cons (es_setLc c 7 [("k", 8)] (ei_range1 rfl h.bn.range (ea_cons (ee_b 4) ea_nil)) (fun _ _ _ _ _ c => (eg_name c 8)) (fun _ _ _ _ _ c => ets_nil) (fun _ _ _ _ _ c => (ee_call c (ok_law_row h) (ea_cons (ee_b 0) (ea_cons (ee_v 1) (ea_cons (ee_v 3) ea_nil))) (argN_cons (argN_cons (argN_cons argN_nil))))))
    (ess_one (es_ret (ee_call c (ok_law_close h) (ea_cons (ee_v 7) (ea_cons (ee_v 5) (ea_cons (ee_lc c [("value", 9)] (ei_range1 rfl h.bn.range (ea_cons (ee_b 3) ea_nil)) (fun _ _ _ _ _ c => (eg_name c 9)) (fun _ _ _ _ _ c => ets_nil) (fun _ _ _ _ _ c => (ee_v 9))) ea_nil))) (argN_cons (argN_cons (argN_cons argN_nil)))))))))
theorem ok_law_loop (h : Lw Γ mg) : Cal P w Γ.K mg base Γ (L2.CX P w) 3 "_law_loop" 4 f_law_loop :=
  cal_of (st := (top 55)) ["state", "tables", "columns", "length", "wide", "table", "rows", "k", "values", "column", "value"] ["state", "tables", "columns", "length"] [0] [0] h.d_law_loop ⟨rfl, rfl, rfl, by decide +kernel, rfl, by decide +kernel, by decide +kernel⟩ 11 rfl rfl (by decide) (fun _ _ _ _ _ _ us hl => match us, hl with | [_, _, _, _], _ => rfl) (fun _ _ _ _ _ _ _ c => (ess_cons (es_setLc c 4 [("table", 5)] (ei_src c (ee_v 1)) (fun _ _ _ _ _ c => (eg_name c 5)) (fun _ _ _ _ _ c => (ets_one (et_gt (ee_idx c (ee_b 5) (ee_int)) (ee_int)))) (fun _ _ _ _ _ c => (ee_v 5)))
    (ess_cons (es_set c 6 (ee_lst ea_nil))
    (ess_cons (es_if (et_gt (ee_len c rfl h.bn.len (ea_cons (ee_b 4) ea_nil)) (ee_int)) (ess_cons (es_set c 5 (ee_idx c (ee_b 4) (ee_call c (ok_law_draw h) (ea_cons (ee_b 0) (ea_cons (ee_len c rfl h.bn.len (ea_cons (ee_b 4) ea_nil)) ea_nil)) (argN_cons (argN_cons argN_nil)))))
    (ess_one (es_for c [7, 8, 9] (ei_range1 rfl h.bn.range (ea_cons (ee_b 3) ea_nil)) (eg_name c 7) (ess_cons (es_setLc c 8 [("column", 9)] (ei_range1 rfl h.bn.range (ea_cons (ee_idx c (ee_b 5) (ee_int)) ea_nil)) (fun _ _ _ _ _ c => (eg_name c 9)) (fun _ _ _ _ _ c => ets_nil) (fun _ _ _ _ _ c => (ee_v 3)))
    (ess_cons (es_put c 8 (ee_int) (ee_v 7))
    (ess_cons (es_put c 8 (ee_int) (ee_mod (ee_toInt rfl h.bn.int (ea_cons (ee_add c (ee_b 7) (ee_int)) ea_nil)) (ee_b 3)))
    (ess_one (es_expr (ee_app c 6 (ea_cons (ee_add c (ee_tup (ea_cons (ee_idx c (ee_b 5) (ee_int)) ea_nil)) (ee_toTup c rfl h.bn.tuple (ea_cons (ee_v 8) ea_nil))) ea_nil)))))))))) ess_nil)
    (ess_one (es_ret (ee_call c (ok_law_close h) (ea_cons (ee_v 6) (ea_cons (ee_lc c [("column", 9)] (ei_range1 rfl h.bn.range (ea_cons (ee_b 2) ea_nil)) (fun _ _ _ _ _ c => (eg_name c 9)) (fun _ _ _ _ _ c => ets_nil) (fun _ _ _ _ _ c => (ee_v 3))) (ea_cons (ee_lc c [("value", 10)] (ei_range1 rfl h.bn.range (ea_cons (ee_add c (ee_b 3) (ee_int)) ea_nil)) (fun _ _ _ _ _ c => (eg_name c 10)) (fun _ _ _ _ _ c => ets_nil) (fun _ _ _ _ _ c => (ee_v 10))) ea_nil))) (argN_cons (argN_cons (argN_cons argN_nil))))))))))
theorem ok_law_ringed (h : Lw Γ mg) : Cal P w Γ.K mg base Γ (L2.CX P w) 4 "_law_ringed" 3 f_law_ringed :=
  cal_of (st := (top 59)) ["state", "tables", "columns", "loop", "rows", "k", "head", "column", "value"] ["state", "tables", "columns"] [0] [0] h.d_law_ringed ⟨rfl, rfl, rfl, by decide +kernel, rfl, by decide +kernel, by decide +kernel⟩ 9 rfl rfl (by decide) (fun _ _ _ _ _ _ us hl => match us, hl with | [_, _, _], _ => rfl) (fun _ _ _ _ _ _ _ c => (ess_cons (es_set c 3 (ee_call c (ok_law_loop h) (ea_cons (ee_b 0) (ea_cons (ee_v 1) (ea_cons (ee_v 2) (ea_cons (ee_add c (ee_int) (ee_call c (ok_law_draw h) (ea_cons (ee_b 0) (ea_cons (ee_int) ea_nil)) (argN_cons (argN_cons argN_nil)))) ea_nil)))) (argN_cons (argN_cons (argN_cons (argN_cons argN_nil))))))
    (ess_cons (es_set c 4 (ee_toLst c rfl h.bn.list (ea_cons (ee_idx c (ee_b 3) (ee_int)) ea_nil)))
    (ess_cons (es_for c [5] (ei_range1 rfl h.bn.range (ea_cons (ee_call c (ok_law_draw h) (ea_cons (ee_b 0) (ea_cons (ee_int) ea_nil)) (argN_cons (argN_cons argN_nil))) ea_nil)) (eg_name c 5) (ess_one (es_expr (ee_app c 4 (ea_cons (ee_call c (ok_law_row h) (ea_cons (ee_b 0) (ea_cons (ee_v 1) (ea_cons (ee_add c (ee_idx c (ee_b 3) (ee_int)) (ee_int)) ea_nil))) (argN_cons (argN_cons (argN_cons argN_nil)))) ea_nil)))))
    (ess_cons (es_set c 6 (ee_idx c (ee_b 3) (ee_int)))
    (ess_cons (es_if (et_eq c (ee_call c (ok_law_draw h) (ea_cons (ee_b 0) (ea_cons (ee_int) ea_nil)) (argN_cons (argN_cons argN_nil))) (ee_int)) (ess_one (es_setLc c 6 [("column", 7)] (ei_range1 rfl h.bn.range (ea_cons (ee_b 2) ea_nil)) (fun _ _ _ _ _ c => (eg_name c 7)) (fun _ _ _ _ _ c => ets_nil) (fun _ _ _ _ _ c => (ee_call c (ok_law_draw h) (ea_cons (ee_b 0) (ea_cons (ee_add c (ee_idx c (ee_b 3) (ee_int)) (ee_int)) ea_nil)) (argN_cons (argN_cons argN_nil)))))) ess_nil)
    (ess_one (es_ret (ee_call c (ok_law_close h) (ea_cons (ee_v 4) (ea_cons (ee_v 6) (ea_cons (ee_lc c [("value", 8)] (ei_range1 rfl h.bn.range (ea_cons (ee_add c (ee_idx c (ee_b 3) (ee_int)) (ee_int)) ea_nil)) (fun _ _ _ _ _ c => (eg_name c 8)) (fun _ _ _ _ _ c => ets_nil) (fun _ _ _ _ _ c => (ee_v 8))) ea_nil))) (argN_cons (argN_cons (argN_cons argN_nil))))))))))))
theorem ok_law_forest (h : Lw Γ mg) : Cal P w Γ.K mg base Γ (L2.CX P w) 1 "_law_forest" 2 f_law_forest :=
  cal_of (st := (top 53)) ["rows", "head", "groups", "value", "row", "touched", "kept", "joined", "group", "count"] ["rows", "head"] [] [] h.d_law_forest ⟨rfl, rfl, rfl, by decide +kernel, rfl, by decide +kernel, by decide +kernel⟩ 10 rfl rfl (by decide) (fun _ _ _ _ _ _ us hl => match us, hl with | [_, _], _ => rfl) (fun _ _ _ _ _ _ _ c => (ess_cons (es_setLc c 2 [("value", 3)] (ei_range1 rfl h.bn.range (ea_cons (ee_int) ea_nil)) (fun _ _ _ _ _ c => (eg_name c 3)) (fun _ _ _ _ _ c => (ets_one (et_nin c (ee_b 3) (ee_b 1)))) (fun _ _ _ _ _ c => (ee_lst (ea_cons (ee_v 3) ea_nil))))
    (ess_cons (es_for c [3, 4, 5, 6, 7, 8, 9] (ei_src c (ee_v 0)) (eg_name c 4) (ess_cons (es_set c 5 (ee_lst ea_nil))
    (ess_cons (es_set c 6 (ee_lst ea_nil))
    (ess_cons (es_set c 7 (ee_lst ea_nil))
    (ess_cons (es_for c [3] (ei_src c (ee_sl c (ee_b 4) (eo_some (ee_int)) eo_none)) (eg_name c 3) (ess_cons (es_if (EW.et (ew_and (et_in c (ee_b 3) (ee_b 5)) (ew_and1 (et_nin c (ee_b 3) (ee_b 1))))) (ess_one (es_ret (ee_bl))) ess_nil)
    (ess_one (es_expr (ee_app c 5 (ea_cons (ee_v 3) ea_nil))))))
    (ess_cons (es_for c [3, 8, 9] (ei_src c (ee_v 2)) (eg_name c 8) (ess_cons (es_set c 9 (ee_len c rfl h.bn.len (ea_cons (ee_lc c [("value", 3)] (ei_src c (ee_v 8)) (fun _ _ _ _ _ c => (eg_name c 3)) (fun _ _ _ _ _ c => (ets_one (et_in c (ee_b 3) (ee_sl c (ee_b 4) (eo_some (ee_int)) eo_none)))) (fun _ _ _ _ _ c => (ee_v 3))) ea_nil)))
    (ess_cons (es_if (et_gt (ee_b 9) (ee_int)) (ess_one (es_ret (ee_bl))) ess_nil)
    (ess_one (es_if (et_eq c (ee_b 9) (ee_int)) (ess_one (es_set c 7 (ee_add c (ee_b 7) (ee_b 8)))) (ess_one (es_expr (ee_app c 6 (ea_cons (ee_v 8) ea_nil)))))))))
    (ess_one (es_set c 2 (ee_add c (ee_b 6) (ee_lst (ea_cons (ee_v 7) ea_nil)))))))))))
    (ess_one (es_ret (ee_bl))))))
theorem ok_law_tree (h : Lw Γ mg) : Cal P w Γ.K mg base Γ (L2.CX P w) 3 "_law_tree" 4 f_law_tree :=
  cal_of (st := (top 54)) ["state", "tables", "columns", "count", "head", "column", "rows", "k", "row"] ["state", "tables", "columns", "count"] [0] [0] h.d_law_tree ⟨rfl, rfl, rfl, by decide +kernel, rfl, by decide +kernel, by decide +kernel⟩ 9 rfl rfl (by decide) (fun _ _ _ _ _ _ us hl => match us, hl with | [_, _, _, _], _ => rfl) (fun _ _ _ _ _ _ _ c => (ess_cons (es_setLc c 4 [("column", 5)] (ei_range1 rfl h.bn.range (ea_cons (ee_b 2) ea_nil)) (fun _ _ _ _ _ c => (eg_name c 5)) (fun _ _ _ _ _ c => ets_nil) (fun _ _ _ _ _ c => (ee_call c (ok_law_draw h) (ea_cons (ee_b 0) (ea_cons (ee_add c (ee_int) (ee_call c (ok_law_draw h) (ea_cons (ee_b 0) (ea_cons (ee_int) ea_nil)) (argN_cons (argN_cons argN_nil)))) ea_nil)) (argN_cons (argN_cons argN_nil)))))
    (ess_cons (es_set c 6 (ee_lst ea_nil))
    (ess_cons (es_for c [7, 8] (ei_range1 rfl h.bn.range (ea_cons (ee_b 3) ea_nil)) (eg_name c 7) (ess_cons (es_set c 8 (ee_call c (ok_law_row h) (ea_cons (ee_b 0) (ea_cons (ee_v 1) (ea_cons (ee_int) ea_nil))) (argN_cons (argN_cons (argN_cons argN_nil)))))
    (ess_one (es_if (EW.et (ew_and (et_nin c (ee_b 8) (ee_b 6)) (ew_and1 (et_tru c (ee_call c (ok_law_forest h) (ea_cons (ee_add c (ee_b 6) (ee_lst (ea_cons (ee_v 8) ea_nil))) (ea_cons (ee_v 4) ea_nil)) (argN_cons (argN_cons argN_nil))))))) (ess_one (es_expr (ee_app c 6 (ea_cons (ee_v 8) ea_nil)))) ess_nil))))
    (ess_one (es_ret (ee_call c (ok_law_close h) (ea_cons (ee_v 6) (ea_cons (ee_v 4) (ea_cons (ee_lst (ea_cons (ee_int) (ea_cons (ee_int) (ea_cons (ee_int) (ea_cons (ee_int) ea_nil))))) ea_nil))) (argN_cons (argN_cons (argN_cons argN_nil))))))))))
theorem ok_law_drawn (h : Lw Γ mg) : Cal P w Γ.K mg base Γ (L2.CX P w) 4 "_law_drawn" 3 f_law_drawn :=
  cal_of (st := (top 56)) ["state", "tables", "columns", "shape"] ["state", "tables", "columns"] [0] [0] h.d_law_drawn ⟨rfl, rfl, rfl, by decide +kernel, rfl, by decide +kernel, by decide +kernel⟩ 4 rfl rfl (by decide) (fun _ _ _ _ _ _ us hl => match us, hl with | [_, _, _], _ => rfl) (fun _ _ _ _ _ _ _ c => (ess_cons (es_set c 3 (ee_call c (ok_law_draw h) (ea_cons (ee_b 0) (ea_cons (ee_int) ea_nil)) (argN_cons (argN_cons argN_nil))))
    (ess_cons (es_if (et_eq c (ee_b 3) (ee_int)) (ess_one (es_ret (ee_call c (ok_law_loop h) (ea_cons (ee_b 0) (ea_cons (ee_v 1) (ea_cons (ee_v 2) (ea_cons (ee_add c (ee_int) (ee_call c (ok_law_draw h) (ea_cons (ee_b 0) (ea_cons (ee_int) ea_nil)) (argN_cons (argN_cons argN_nil)))) ea_nil)))) (argN_cons (argN_cons (argN_cons (argN_cons argN_nil))))))) ess_nil)
    (ess_cons (es_if (et_eq c (ee_b 3) (ee_int)) (ess_one (es_ret (ee_call c (ok_law_random h) (ea_cons (ee_b 0) (ea_cons (ee_v 1) (ea_cons (ee_v 2) (ea_cons (ee_add c (ee_int) (ee_call c (ok_law_draw h) (ea_cons (ee_b 0) (ea_cons (ee_int) ea_nil)) (argN_cons (argN_cons argN_nil)))) (ea_cons (ee_call c (ok_law_draw h) (ea_cons (ee_b 0) (ea_cons (ee_int) ea_nil)) (argN_cons (argN_cons argN_nil))) ea_nil))))) (argN_cons (argN_cons (argN_cons (argN_cons (argN_cons argN_nil)))))))) ess_nil)
    (ess_one (es_ret (ee_call c (ok_law_tree h) (ea_cons (ee_b 0) (ea_cons (ee_v 1) (ea_cons (ee_v 2) (ea_cons (ee_add c (ee_int) (ee_call c (ok_law_draw h) (ea_cons (ee_b 0) (ea_cons (ee_int) ea_nil)) (argN_cons (argN_cons argN_nil)))) ea_nil)))) (argN_cons (argN_cons (argN_cons (argN_cons argN_nil)))))))))))
theorem ok_Schema_contains (h : Lw Γ mg) : CalM P w Γ.K mg base Γ (L2.CX P w) 1 "Schema" "__contains__" 2 f_Schema_contains :=
  calM_of (st := (inClass (top 28) 6)) (qual := "Schema.__contains__") ["self", "name"] ["self", "name"] [] [] "__contains__" h.c_Schema h.m_Schema_contains ⟨rfl, rfl, rfl, by decide +kernel, rfl, by decide +kernel, by decide +kernel⟩ 2 rfl rfl (by decide) (fun _ _ _ _ _ _ us hl => match us, hl with | [_, _], _ => rfl) (fun _ _ _ _ _ _ _ c => (ess_one (es_ret (ee_in c (ee_b 1) (ee_fld c (ee_b 0))))))
theorem ok_Schema_getitem (h : Lw Γ mg) : CalM P w Γ.K mg base Γ (L2.CX P w) 1 "Schema" "__getitem__" 2 f_Schema_getitem :=
  calM_of (st := (inClass (top 28) 7)) (qual := "Schema.__getitem__") ["self", "name"] ["self", "name"] [] [] "__getitem__" h.c_Schema h.m_Schema_getitem ⟨rfl, rfl, rfl, by decide +kernel, rfl, by decide +kernel, by decide +kernel⟩ 2 rfl rfl (by decide) (fun _ _ _ _ _ _ us hl => match us, hl with | [_, _], _ => rfl) (fun _ _ _ _ _ _ _ c => (ess_cons (es_if (et_nin c (ee_b 1) (ee_fld c (ee_b 0))) (ess_one es_never) ess_nil)
    (ess_one (es_ret (ee_idx c (ee_fld c (ee_b 0)) (ee_b 1))))))
theorem ok_is_natural (h : Lw Γ mg) : Cal P w Γ.K mg base Γ (L2.CX P w) 1 "is_natural" 1 f_is_natural :=
  cal_of (st := (top 23)) ["value"] ["value"] [] [] h.d_is_natural ⟨rfl, rfl, rfl, by decide +kernel, rfl, by decide +kernel, by decide +kernel⟩ 1 rfl rfl (by decide) (fun _ _ _ _ _ _ us hl => match us, hl with | [_], _ => rfl) (fun _ _ _ _ _ _ _ c => (ess_one (es_ret (ee_and (ee_isi c rfl h.bn.isinstance rfl h.bn.int (by decide +kernel) (ee_b 0)) (ee_and (ee_not (ee_isi c rfl h.bn.isinstance rfl h.bn.bool (by decide +kernel) (ee_b 0))) (ee_one (ee_ge (ee_b 0) (ee_int))))))))
theorem ok_check_row (h : Lw Γ mg) : Cal P w Γ.K mg base Γ (L2.CX P w) 3 "check_row" 2 f_check_row :=
  cal_of (st := (top 38)) ["schema", "row", "value"] ["schema", "row"] [] [] h.d_check_row ⟨rfl, rfl, rfl, by decide +kernel, rfl, by decide +kernel, by decide +kernel⟩ 3 rfl rfl (by decide) (fun _ _ _ _ _ _ us hl => match us, hl with | [_, _], _ => rfl) (fun _ _ _ _ _ _ _ c => (ess_cons (es_if (et_ninOwn c (ok_Schema_contains h) (ee_idx c (ee_b 1) (ee_int)) (ee_b 0)) (ess_one es_never) ess_nil)
    (ess_cons (es_if (et_ne c (ee_sub (ee_len c rfl h.bn.len (ea_cons (ee_b 1) ea_nil)) (ee_int)) (ee_getOwn c (ok_Schema_getitem h) h.gi_Schema (ee_b 0) (ee_idx c (ee_b 1) (ee_int)))) (ess_one es_never) ess_nil)
    (ess_one (es_for c [2] (ei_src c (ee_sl c (ee_b 1) (eo_some (ee_int)) eo_none)) (eg_name c 2) (ess_one (es_if (et_not (et_tru c (ee_call c (ok_is_natural h) (ea_cons (ee_v 2) ea_nil) (argN_cons argN_nil)))) (ess_one es_never) ess_nil)))))))
theorem ok_merged (h : Lw Γ mg) : Cal P w Γ.K mg base Γ (L2.CX P w) 1 "merged" 2 f_merged :=
  cal_of (st := (top 20)) ["first", "second", "result", "place", "item"] ["first", "second"] [] [] h.d_merged ⟨rfl, rfl, rfl, by decide +kernel, rfl, by decide +kernel, by decide +kernel⟩ 5 rfl rfl (by decide) (fun _ _ _ _ _ _ us hl => match us, hl with | [_, _], _ => rfl) (fun _ _ _ _ _ _ _ c => (ess_cons (es_set c 2 (ee_lst ea_nil))
    (ess_cons (es_set c 3 (ee_int))
    (ess_cons (es_for c [4] (ei_src c (ee_v 0)) (eg_name c 4) (ess_cons (es_while c (EW.et (ew_and (et_lt c (ee_b 3) (ee_len c rfl h.bn.len (ea_cons (ee_b 1) ea_nil))) (ew_and1 (et_lt c (ee_idx c (ee_b 1) (ee_b 3)) (ee_b 4))))) (ess_cons (es_expr (ee_app c 2 (ea_cons (ee_idx c (ee_b 1) (ee_b 3)) ea_nil)))
    (ess_one (es_set c 3 (ee_add c (ee_b 3) (ee_int))))))
    (ess_one (es_expr (ee_app c 2 (ea_cons (ee_v 4) ea_nil))))))
    (ess_one (es_ret (ee_add c (ee_b 2) (ee_sl c (ee_b 1) (eo_some (ee_b 3)) eo_none))))))))
theorem ok_ascending (h : Lw Γ mg) : Cal P w Γ.K mg base Γ (L2.CX P w) 2 "ascending" 1 f_ascending :=
  cal_of (st := (top 21)) ["things", "runs", "thing", "joined", "at", "result", "run"] ["things"] [] [] h.d_ascending ⟨rfl, rfl, rfl, by decide +kernel, rfl, by decide +kernel, by decide +kernel⟩ 7 rfl rfl (by decide) (fun _ _ _ _ _ _ us hl => match us, hl with | [_], _ => rfl) (fun _ _ _ _ _ _ _ c => (ess_cons (es_set c 1 (ee_lc c [("thing", 2)] (ei_src c (ee_v 0)) (fun _ _ _ _ _ c => (eg_name c 2)) (fun _ _ _ _ _ c => ets_nil) (fun _ _ _ _ _ c => (ee_lst (ea_cons (ee_v 2) ea_nil)))))
    (ess_cons (es_while c (et_gt (ee_len c rfl h.bn.len (ea_cons (ee_b 1) ea_nil)) (ee_int)) (ess_cons (es_setLc c 3 [("at", 4)] (ei_range3 rfl h.bn.range (ea_cons (ee_int) (ea_cons (ee_sub (ee_len c rfl h.bn.len (ea_cons (ee_b 1) ea_nil)) (ee_int)) (ea_cons (ee_int) ea_nil)))) (fun _ _ _ _ _ c => (eg_name c 4)) (fun _ _ _ _ _ c => ets_nil) (fun _ _ _ _ _ c => (ee_call c (ok_merged h) (ea_cons (ee_idx c (ee_b 1) (ee_b 4)) (ea_cons (ee_idx c (ee_b 1) (ee_add c (ee_b 4) (ee_int))) ea_nil)) (argN_cons (argN_cons argN_nil)))))
    (ess_cons (es_if (et_eq c (ee_mod (ee_len c rfl h.bn.len (ea_cons (ee_b 1) ea_nil)) (ee_int)) (ee_int)) (ess_one (es_expr (ee_app c 3 (ea_cons (ee_idx c (ee_b 1) (ee_neg (ee_int))) ea_nil)))) ess_nil)
    (ess_one (es_set c 1 (ee_m 3))))))
    (ess_cons (es_set c 5 (ee_lst ea_nil))
    (ess_cons (es_for c [2, 6] (ei_src c (ee_v 1)) (eg_name c 6) (ess_one (es_for c [2] (ei_src c (ee_v 6)) (eg_name c 2) (ess_one (es_if (EW.et (ew_or (et_eq c (ee_len c rfl h.bn.len (ea_cons (ee_b 5) ea_nil)) (ee_int)) (ew_or1 (et_ne c (ee_idx c (ee_b 5) (ee_neg (ee_int))) (ee_b 2))))) (ess_one (es_expr (ee_app c 5 (ea_cons (ee_v 2) ea_nil)))) ess_nil)))))
    (ess_one (es_ret (ee_m 5))))))))
theorem ok_Pattern_init (h : Lw Γ mg) : CalC P w Γ.K mg base Γ (L2.CX P w) 4 "Pattern" 4 f_Pattern_init :=
  calC_of (st := (inClass (top 40) 3)) (qual := "Pattern.__init__") ["self", "schema", "rows", "head", "row", "value", "ordered", "used"] ["self", "schema", "rows", "head"] [0] [0] h.c_Pattern h.k_Pattern ⟨rfl, rfl, rfl, by decide +kernel, rfl, by decide +kernel, by decide +kernel⟩ 8 rfl rfl (by decide) (fun _ _ _ _ _ _ us hl => match us, hl with | [_, _, _, _], _ => rfl) (fun _ _ _ _ _ _ _ c => (ess_cons (es_for c [4] (ei_src c (ee_v 2)) (eg_name c 4) (ess_one (es_expr (ee_call c (ok_check_row h) (ea_cons (ee_v 1) (ea_cons (ee_v 4) ea_nil)) (argN_cons (argN_cons argN_nil))))))
    (ess_cons (es_for c [5] (ei_src c (ee_v 3)) (eg_name c 5) (ess_one (es_if (et_not (et_tru c (ee_call c (ok_is_natural h) (ea_cons (ee_v 5) ea_nil) (argN_cons argN_nil)))) (ess_one es_never) ess_nil)))
    (ess_cons (es_if (et_gt (ee_len c rfl h.bn.len (ea_cons (ee_b 3) ea_nil)) (ee_cc c h.cc_Pattern_MAX_HEAD)) (ess_one es_never) ess_nil)
    (ess_cons (es_set c 6 (ee_call c (ok_ascending h) (ea_cons (ee_v 2) ea_nil) (argN_cons argN_nil)))
    (ess_cons (es_if (et_gt (ee_len c rfl h.bn.len (ea_cons (ee_b 6) ea_nil)) (ee_cc c h.cc_Pattern_MAX_ROWS)) (ess_one es_never) ess_nil)
    (ess_cons (es_set c 7 (ee_newK))
    (ess_cons (es_for c [5] (ei_src c (ee_v 3)) (eg_name c 5) (ess_one (es_put c 7 (ee_v 5) (ee_bl))))
    (ess_cons (es_for c [4, 5] (ei_src c (ee_v 6)) (eg_name c 4) (ess_one (es_for c [5] (ei_src c (ee_sl c (ee_b 4) (eo_some (ee_int)) eo_none)) (eg_name c 5) (ess_one (es_put c 7 (ee_v 5) (ee_bl))))))
    (ess_cons (es_if (et_gt (ee_len c rfl h.bn.len (ea_cons (ee_b 7) ea_nil)) (ee_cc c h.cc_Pattern_MAX_VALUES)) (ess_one es_never) ess_nil)
    (ess_cons (es_for c [5] (ei_range1 rfl h.bn.range (ea_cons (ee_len c rfl h.bn.len (ea_cons (ee_b 7) ea_nil)) ea_nil)) (eg_name c 5) (ess_one (es_if (et_nin c (ee_b 5) (ee_b 7)) (ess_one es_never) ess_nil)))
    (ess_cons (es_fld c 0 "Pattern" "schema" h.na_Pattern_schema (ee_v 1))
    (ess_cons (es_fld c 0 "Pattern" "rows" h.na_Pattern_rows (ee_toTup c rfl h.bn.tuple (ea_cons (ee_v 6) ea_nil)))
    (ess_cons (es_fld c 0 "Pattern" "head" h.na_Pattern_head (ee_toTup c rfl h.bn.tuple (ea_cons (ee_v 3) ea_nil)))
    (ess_one (es_fld c 0 "Pattern" "size" h.na_Pattern_size (ee_len c rfl h.bn.len (ea_cons (ee_b 7) ea_nil))))))))))))))))))
theorem ok_law_links (h : Lw Γ mg) : Cal P w Γ.K mg base Γ (L2.CX P w) 1 "_law_links" 1 f_law_links :=
  cal_of (st := (top 57)) ["plain", "result", "index", "row", "column"] ["plain"] [] [] h.d_law_links ⟨rfl, rfl, rfl, by decide +kernel, rfl, by decide +kernel, by decide +kernel⟩ 5 rfl rfl (by decide) (fun _ _ _ _ _ _ us hl => match us, hl with | [_], _ => rfl) (fun _ _ _ _ _ _ _ c => (ess_cons (es_set c 1 (ee_lst ea_nil))
    (ess_cons (es_for c [2, 3, 4] (ei_range1 rfl h.bn.range (ea_cons (ee_len c rfl h.bn.len (ea_cons (ee_idx c (ee_b 0) (ee_int)) ea_nil)) ea_nil)) (eg_name c 2) (ess_cons (es_set c 3 (ee_idx c (ee_idx c (ee_b 0) (ee_int)) (ee_b 2)))
    (ess_one (es_for c [4] (ei_range1 rfl h.bn.range (ea_cons (ee_sub (ee_len c rfl h.bn.len (ea_cons (ee_b 3) ea_nil)) (ee_int)) ea_nil)) (eg_name c 4) (ess_one (es_if (et_nin c (ee_idx c (ee_b 3) (ee_add c (ee_b 4) (ee_int))) (ee_idx c (ee_b 0) (ee_int))) (ess_one (es_expr (ee_app c 1 (ea_cons (ee_tup (ea_cons (ee_v 2) (ea_cons (ee_v 4) ea_nil))) ea_nil)))) ess_nil))))))
    (ess_one (es_ret (ee_m 1))))))
theorem ok_law_is_ring_link (h : Lw Γ mg) : Cal P w Γ.K mg base Γ (L2.CX P w) 2 "_law_is_ring_link" 2 f_law_is_ring_link :=
  cal_of (st := (top 58)) ["plain", "link", "others", "other", "rows", "values", "turn", "value"] ["plain", "link"] [] [] h.d_law_is_ring_link ⟨rfl, rfl, rfl, by decide +kernel, rfl, by decide +kernel, by decide +kernel⟩ 8 rfl rfl (by decide) (fun _ _ _ _ _ _ us hl => match us, hl with | [_, _], _ => rfl) (fun _ _ _ _ _ _ _ c => (ess_cons (es_setLc c 2 [("other", 3)] (ei_src c (ee_call c (ok_law_links h) (ea_cons (ee_v 0) ea_nil) (argN_cons argN_nil))) (fun _ _ _ _ _ c => (eg_name c 3)) (fun _ _ _ _ _ c => (ets_one (et_ne c (ee_b 3) (ee_b 1)))) (fun _ _ _ _ _ c => (ee_v 3)))
    (ess_cons (es_set c 4 (ee_lst (ea_cons (ee_idx c (ee_b 1) (ee_int)) ea_nil)))
    (ess_cons (es_set c 5 (ee_lst ea_nil))
    (ess_cons (es_for c [3, 6, 7] (ei_range1 rfl h.bn.range (ea_cons (ee_len c rfl h.bn.len (ea_cons (ee_b 2) ea_nil)) ea_nil)) (eg_name c 6) (ess_one (es_for c [3, 7] (ei_src c (ee_v 2)) (eg_name c 3) (ess_cons (es_set c 7 (ee_idx c (ee_idx c (ee_idx c (ee_b 0) (ee_int)) (ee_idx c (ee_b 3) (ee_int))) (ee_add c (ee_idx c (ee_b 3) (ee_int)) (ee_int))))
    (ess_one (es_if (EW.et (ew_and (et_in c (ee_idx c (ee_b 3) (ee_int)) (ee_b 4)) (ew_and1 (et_nin c (ee_b 7) (ee_b 5))))) (ess_one (es_expr (ee_app c 5 (ea_cons (ee_v 7) ea_nil)))) (ess_one (es_if (EW.et (ew_and (et_in c (ee_b 7) (ee_b 5)) (ew_and1 (et_nin c (ee_idx c (ee_b 3) (ee_int)) (ee_b 4))))) (ess_one (es_expr (ee_app c 4 (ea_cons (ee_idx c (ee_b 3) (ee_int)) ea_nil)))) ess_nil))))))))
    (ess_one (es_ret (ee_in c (ee_idx c (ee_idx c (ee_idx c (ee_b 0) (ee_int)) (ee_idx c (ee_b 1) (ee_int))) (ee_add c (ee_idx c (ee_b 1) (ee_int)) (ee_int))) (ee_b 5)))))))))
theorem ok_links (h : Lw Γ mg) : Cal P w Γ.K mg base Γ (L2.CX P w) 1 "links" 1 f_links :=
  cal_of (st := (top 2)) ["pattern", "result", "index", "row", "column", "value"] ["pattern"] [] [] h.d_links ⟨rfl, rfl, rfl, by decide +kernel, rfl, by decide +kernel, by decide +kernel⟩ 6 rfl rfl (by decide) (fun _ _ _ _ _ _ us hl => match us, hl with | [_], _ => rfl) (fun _ _ _ _ _ _ _ c => (ess_cons (es_set c 1 (ee_lst ea_nil))
    (ess_cons (es_for c [2, 3, 4, 5] (ei_enum c rfl h.bn.enumerate (ea_cons (ee_fld c (ee_b 0)) ea_nil)) (eg_tup c (egs_cons (eg_name c 2) (egs_cons (eg_name c 3) egs_nil))) (ess_one (es_for c [4, 5] (ei_enum c rfl h.bn.enumerate (ea_cons (ee_sl c (ee_b 3) (eo_some (ee_int)) eo_none) ea_nil)) (eg_tup c (egs_cons (eg_name c 4) (egs_cons (eg_name c 5) egs_nil))) (ess_one (es_if (et_nin c (ee_b 5) (ee_fld c (ee_b 0))) (ess_one (es_expr (ee_app c 1 (ea_cons (ee_tup (ea_cons (ee_v 2) (ea_cons (ee_v 4) ea_nil))) ea_nil)))) ess_nil)))))
    (ess_one (es_ret (ee_m 1))))))
theorem ok_link_value (h : Lw Γ mg) : Cal P w Γ.K mg base Γ (L2.CX P w) 1 "link_value" 2 f_link_value :=
  cal_of (st := (top 3)) ["pattern", "link"] ["pattern", "link"] [] [] h.d_link_value ⟨rfl, rfl, rfl, by decide +kernel, rfl, by decide +kernel, by decide +kernel⟩ 2 rfl rfl (by decide) (fun _ _ _ _ _ _ us hl => match us, hl with | [_, _], _ => rfl) (fun _ _ _ _ _ _ _ c => (ess_one (es_ret (ee_idx c (ee_idx c (ee_fld c (ee_b 0)) (ee_idx c (ee_b 1) (ee_int))) (ee_add c (ee_idx c (ee_b 1) (ee_int)) (ee_int))))))
theorem ok_paths_without (h : Lw Γ mg) : Cal P w Γ.K mg base Γ (L2.CX P w) 2 "paths_without" 2 f_paths_without :=
  cal_of (st := (top 4)) ["pattern", "link", "remaining", "other", "paths", "growing", "row", "value"] ["pattern", "link"] [] [] h.d_paths_without ⟨rfl, rfl, rfl, by decide +kernel, rfl, by decide +kernel, by decide +kernel⟩ 8 rfl rfl (by decide) (fun _ _ _ _ _ _ us hl => match us, hl with | [_, _], _ => rfl) (fun _ _ _ _ _ _ _ c => (ess_cons (es_setLc c 2 [("other", 3)] (ei_src c (ee_call c (ok_links h) (ea_cons (ee_v 0) ea_nil) (argN_cons argN_nil))) (fun _ _ _ _ _ c => (eg_name c 3)) (fun _ _ _ _ _ c => (ets_one (et_ne c (ee_b 3) (ee_b 1)))) (fun _ _ _ _ _ c => (ee_v 3)))
    (ess_cons (es_set c 4 (ee_disp1T c (ee_tup (ea_cons (ee_int) (ea_cons (ee_idx c (ee_b 1) (ee_int)) ea_nil))) (ee_lst ea_nil)))
    (ess_cons (es_set c 5 (ee_bl))
    (ess_cons (es_while c (et_tru c (ee_b 5)) (ess_cons (es_set c 5 (ee_bl))
    (ess_one (es_for c [3, 6, 7] (ei_src c (ee_v 2)) (eg_name c 3) (ess_cons (es_set c 6 (ee_tup (ea_cons (ee_int) (ea_cons (ee_idx c (ee_b 3) (ee_int)) ea_nil))))
    (ess_cons (es_set c 7 (ee_tup (ea_cons (ee_int) (ea_cons (ee_call c (ok_link_value h) (ea_cons (ee_v 0) (ea_cons (ee_v 3) ea_nil)) (argN_cons (argN_cons argN_nil))) ea_nil))))
    (ess_one (es_if (EW.et (ew_and (et_in c (ee_b 6) (ee_b 4)) (ew_and1 (et_nin c (ee_b 7) (ee_b 4))))) (ess_cons (es_put c 4 (ee_v 7) (ee_add c (ee_idx c (ee_b 4) (ee_b 6)) (ee_lst (ea_cons (ee_v 3) ea_nil))))
    (ess_one (es_set c 5 (ee_bl)))) (ess_one (es_if (EW.et (ew_and (et_in c (ee_b 7) (ee_b 4)) (ew_and1 (et_nin c (ee_b 6) (ee_b 4))))) (ess_cons (es_put c 4 (ee_v 6) (ee_add c (ee_idx c (ee_b 4) (ee_b 7)) (ee_lst (ea_cons (ee_v 3) ea_nil))))
    (ess_one (es_set c 5 (ee_bl)))) ess_nil))))))))))
    (ess_one (es_ret (ee_m 4))))))))
theorem ok_is_ring_link (h : Lw Γ mg) : Cal P w Γ.K mg base Γ (L2.CX P w) 3 "is_ring_link" 2 f_is_ring_link :=
  cal_of (st := (top 5)) ["pattern", "link"] ["pattern", "link"] [] [] h.d_is_ring_link ⟨rfl, rfl, rfl, by decide +kernel, rfl, by decide +kernel, by decide +kernel⟩ 2 rfl rfl (by decide) (fun _ _ _ _ _ _ us hl => match us, hl with | [_, _], _ => rfl) (fun _ _ _ _ _ _ _ c => (ess_one (es_ret (ee_in c (ee_tup (ea_cons (ee_int) (ea_cons (ee_call c (ok_link_value h) (ea_cons (ee_v 0) (ea_cons (ee_v 1) ea_nil)) (argN_cons (argN_cons argN_nil))) ea_nil))) (ee_call c (ok_paths_without h) (ea_cons (ee_v 0) (ea_cons (ee_v 1) ea_nil)) (argN_cons (argN_cons argN_nil)))))))
theorem ok_ring_links (h : Lw Γ mg) : Cal P w Γ.K mg base Γ (L2.CX P w) 4 "ring_links" 1 f_ring_links :=
  cal_of (st := (top 6)) ["pattern", "link"] ["pattern"] [] [] h.d_ring_links ⟨rfl, rfl, rfl, by decide +kernel, rfl, by decide +kernel, by decide +kernel⟩ 2 rfl rfl (by decide) (fun _ _ _ _ _ _ us hl => match us, hl with | [_], _ => rfl) (fun _ _ _ _ _ _ _ c => (ess_one (es_ret (ee_lc c [("link", 1)] (ei_src c (ee_call c (ok_links h) (ea_cons (ee_v 0) ea_nil) (argN_cons argN_nil))) (fun _ _ _ _ _ c => (eg_name c 1)) (fun _ _ _ _ _ c => (ets_one (et_tru c (ee_call c (ok_is_ring_link h) (ea_cons (ee_v 0) (ea_cons (ee_v 1) ea_nil)) (argN_cons (argN_cons argN_nil)))))) (fun _ _ _ _ _ c => (ee_v 1))))))
theorem ok_law_same (h : Lw Γ mg) : ∀ n : Nat, Cal P w Γ.K mg base Γ (L2.CX P w) (1 + n) "_law_same" 2 (f_law_same n)
  | 0 => cal_of (st := (top 44)) ["a", "b", "k"] ["a", "b"] [] [] h.d_law_same ⟨rfl, rfl, rfl, by decide +kernel, rfl, by decide +kernel, by decide +kernel⟩ 3 rfl rfl (by decide) (fun _ _ _ _ _ _ us hl => match us, hl with | [_, _], _ => rfl) (fun _ _ _ _ _ _ _ c => ess_never)
  | n + 1 => by
    have hf := ok_law_same h n
    exact cal_of (st := (top 44)) ["a", "b", "k"] ["a", "b"] [] [] h.d_law_same ⟨rfl, rfl, rfl, by decide +kernel, rfl, by decide +kernel, by decide +kernel⟩ 3 rfl rfl (by decide) (fun _ _ _ _ _ _ us hl => match us, hl with | [_, _], _ => rfl) (fun _ _ _ _ _ _ _ c => (ess_cons (es_if (EW.et (ew_or (et_tru c (ee_isi c rfl h.bn.isinstance rfl h.bn.bool (by decide +kernel) (ee_b 0))) (ew_or1 (et_tru c (ee_isi c rfl h.bn.isinstance rfl h.bn.bool (by decide +kernel) (ee_b 1)))))) (ess_one (es_ret (ee_and (ee_isi c rfl h.bn.isinstance rfl h.bn.bool (by decide +kernel) (ee_b 0)) (ee_and (ee_isi c rfl h.bn.isinstance rfl h.bn.bool (by decide +kernel) (ee_b 1)) (ee_one (ee_eq c (ee_b 0) (ee_b 1))))))) ess_nil)
    (ess_cons (es_if (EW.et (ew_or (et_tru c (ee_isi c rfl h.bn.isinstance rfl h.bn.int (by decide +kernel) (ee_b 0))) (ew_or1 (et_tru c (ee_isi c rfl h.bn.isinstance rfl h.bn.int (by decide +kernel) (ee_b 1)))))) (ess_one (es_ret (ee_and (ee_isi c rfl h.bn.isinstance rfl h.bn.int (by decide +kernel) (ee_b 0)) (ee_and (ee_isi c rfl h.bn.isinstance rfl h.bn.int (by decide +kernel) (ee_b 1)) (ee_one (ee_eq c (ee_b 0) (ee_b 1))))))) ess_nil)
    (ess_cons (es_if (EW.et (ew_or (et_tru c (ee_isi c rfl h.bn.isinstance rfl h.bn.str (by decide +kernel) (ee_b 0))) (ew_or1 (et_tru c (ee_isi c rfl h.bn.isinstance rfl h.bn.str (by decide +kernel) (ee_b 1)))))) (ess_one (es_ret (ee_and (ee_isi c rfl h.bn.isinstance rfl h.bn.str (by decide +kernel) (ee_b 0)) (ee_and (ee_isi c rfl h.bn.isinstance rfl h.bn.str (by decide +kernel) (ee_b 1)) (ee_one (ee_eq c (ee_b 0) (ee_b 1))))))) ess_nil)
    (ess_cons (es_if (EW.et (ew_or (et_isN (ee_b 0)) (ew_or1 (et_isN (ee_b 1))))) (ess_one (es_ret (ee_and (ee_isN (ee_b 0)) (ee_one (ee_isN (ee_b 1)))))) ess_nil)
    (ess_cons (es_if (EW.et (ew_or (et_ne c (ee_isi c rfl h.bn.isinstance rfl h.bn.tuple (by decide +kernel) (ee_b 0)) (ee_isi c rfl h.bn.isinstance rfl h.bn.tuple (by decide +kernel) (ee_b 1))) (ew_or1 (et_ne c (ee_isi c rfl h.bn.isinstance rfl h.bn.list (by decide +kernel) (ee_b 0)) (ee_isi c rfl h.bn.isinstance rfl h.bn.list (by decide +kernel) (ee_b 1)))))) (ess_one (es_ret (ee_bl))) ess_nil)
    (ess_cons (es_if (EW.et (ew_or (et_not (et_tru c (ee_isi2 c rfl h.bn.isinstance rfl h.bn.list (by decide +kernel) rfl h.bn.tuple (by decide +kernel) (ee_b 0)))) (ew_or1 (et_ne c (ee_len c rfl h.bn.len (ea_cons (ee_b 0) ea_nil)) (ee_len c rfl h.bn.len (ea_cons (ee_b 1) ea_nil)))))) (ess_one (es_ret (ee_bl))) ess_nil)
    (ess_cons (es_for c [2] (ei_range1 rfl h.bn.range (ea_cons (ee_len c rfl h.bn.len (ea_cons (ee_b 1) ea_nil)) ea_nil)) (eg_name c 2) (ess_one (es_if (et_not (et_tru c (ee_call c hf (ea_cons (ee_idx c (ee_b 0) (ee_b 2)) (ea_cons (ee_idx c (ee_b 1) (ee_b 2)) ea_nil)) (argN_cons (argN_cons argN_nil)) (Nat.le_refl _)))) (ess_one (es_ret (ee_bl))) ess_nil)))
    (ess_one (es_ret (ee_bl)))))))))))
theorem ok_law_is (h : Lw Γ mg) : Cal P w Γ.K mg base Γ (L2.CX P w) 6 "_law_is" 2 f_law_is :=
  cal_of (st := (top 47)) ["p", "plain"] ["p", "plain"] [] [] h.d_law_is ⟨rfl, rfl, rfl, by decide +kernel, rfl, by decide +kernel, by decide +kernel⟩ 2 rfl rfl (by decide) (fun _ _ _ _ _ _ us hl => match us, hl with | [_, _], _ => rfl) (fun _ _ _ _ _ _ _ c => (ess_cons (es_if (EW.et (ew_or (et_not (et_tru c (ee_call c (ok_law_same h 4) (ea_cons (ee_fld c (ee_b 0)) (ea_cons (ee_toTup c rfl h.bn.tuple (ea_cons (ee_idx c (ee_b 1) (ee_int)) ea_nil)) ea_nil)) (argN_cons (argN_cons argN_nil))))) (ew_or1 (et_not (et_tru c (ee_call c (ok_law_same h 4) (ea_cons (ee_fld c (ee_b 0)) (ea_cons (ee_toTup c rfl h.bn.tuple (ea_cons (ee_idx c (ee_b 1) (ee_int)) ea_nil)) ea_nil)) (argN_cons (argN_cons argN_nil)))))))) (ess_one (es_ret (ee_bl))) ess_nil)
    (ess_one (es_ret (ee_call c (ok_law_same h 4) (ea_cons (ee_fld c (ee_b 0)) (ea_cons (ee_idx c (ee_b 1) (ee_int)) ea_nil)) (argN_cons (argN_cons argN_nil)))))))
theorem ok_law_right (h : Lw Γ mg) : Cal P w Γ.K mg base Γ (L2.CX P w) 7 "_law_right" 2 f_law_right :=
  cal_of (st := (top 60)) ["schema", "plain", "pattern", "due", "link", "told"] ["schema", "plain"] [] [] h.d_law_right ⟨rfl, rfl, rfl, by decide +kernel, rfl, by decide +kernel, by decide +kernel⟩ 6 rfl rfl (by decide) (fun _ _ _ _ _ _ us hl => match us, hl with | [_, _], _ => rfl) (fun _ _ _ _ _ _ _ c => (ess_cons (es_set c 2 (ee_make c (ok_Pattern_init h) (ea_cons (ee_v 0) (ea_cons (ee_toLst c rfl h.bn.list (ea_cons (ee_idx c (ee_b 1) (ee_int)) ea_nil)) (ea_cons (ee_idx c (ee_b 1) (ee_int)) ea_nil))) (argN_cons (argN_cons (argN_cons argN_nil)))))
    (ess_cons (es_setLc c 3 [("link", 4)] (ei_src c (ee_call c (ok_law_links h) (ea_cons (ee_v 1) ea_nil) (argN_cons argN_nil))) (fun _ _ _ _ _ c => (eg_name c 4)) (fun _ _ _ _ _ c => (ets_one (et_tru c (ee_call c (ok_law_is_ring_link h) (ea_cons (ee_v 1) (ea_cons (ee_v 4) ea_nil)) (argN_cons (argN_cons argN_nil)))))) (fun _ _ _ _ _ c => (ee_v 4)))
    (ess_cons (es_set c 5 (ee_call c (ok_ring_links h) (ea_cons (ee_v 2) ea_nil) (argN_cons argN_nil)))
    (ess_cons (es_if (et_not (et_tru c (ee_callR c (ok_law_same h 4) (ea_cons (ee_b 5) (ea_cons (ee_v 3) ea_nil)) (argN_cons (argN_cons argN_nil))))) (ess_one (es_ret (ee_bl))) ess_nil)
    (ess_cons (es_expr (ee_app c 5 (ea_cons (ee_tup (ea_cons (ee_int) (ea_cons (ee_int) ea_nil))) ea_nil)))
    (ess_one (es_ret (ee_and (ee_call c (ok_law_same h 4) (ea_cons (ee_call c (ok_ring_links h) (ea_cons (ee_v 2) ea_nil) (argN_cons argN_nil)) (ea_cons (ee_v 3) ea_nil)) (argN_cons (argN_cons argN_nil))) (ee_one (ee_call c (ok_law_is h) (ea_cons (ee_v 2) (ea_cons (ee_v 1) ea_nil)) (argN_cons (argN_cons argN_nil)))))))))))))
theorem ok_is_word (h : Lw Γ mg) : Cal P w Γ.K mg base Γ (L2.CX P w) 1 "is_word" 1 f_is_word :=
  cal_of (st := (top 27)) ["text", "char"] ["text"] [] [] h.d_is_word ⟨rfl, rfl, rfl, by decide +kernel, rfl, by decide +kernel, by decide +kernel⟩ 2 rfl rfl (by decide) (fun _ _ _ _ _ _ us hl => match us, hl with | [_], _ => rfl) (fun _ _ _ _ _ _ _ c => (ess_cons (es_if (et_not (et_chain op_le op_le p_le p_le (ee_int) (ee_len c rfl h.bn.len (ea_cons (ee_b 0) ea_nil)) (ee_gint rfl h.g_MAX_WORD))) (ess_one (es_ret (ee_bl))) ess_nil)
    (ess_cons (es_for c [1] (ei_src c (ee_v 0)) (eg_name c 1) (ess_one (es_if (et_nin c (ee_b 1) (ee_gstr rfl h.g_WORD_CHARACTERS)) (ess_one (es_ret (ee_bl))) ess_nil)))
    (ess_one (es_ret (ee_bl))))))
theorem ok_is_integer (h : Lw Γ mg) : Cal P w Γ.K mg base Γ (L2.CX P w) 1 "is_integer" 3 f_is_integer :=
  cal_of (st := (top 22)) ["value", "least", "most"] ["value", "least", "most"] [] [] h.d_is_integer ⟨rfl, rfl, rfl, by decide +kernel, rfl, by decide +kernel, by decide +kernel⟩ 3 rfl rfl (by decide) (fun _ _ _ _ _ _ us hl => match us, hl with | [_, _, _], _ => rfl) (fun _ _ _ _ _ _ _ c => (ess_one (es_ret (ee_and (ee_isi c rfl h.bn.isinstance rfl h.bn.int (by decide +kernel) (ee_b 0)) (ee_and (ee_not (ee_isi c rfl h.bn.isinstance rfl h.bn.bool (by decide +kernel) (ee_b 0))) (ee_one (ee_chain op_le op_le p_le p_le (ee_b 1) (ee_b 0) (ee_b 2))))))))
theorem ok_Schema_init (h : Lw Γ mg) : CalC P w Γ.K mg base Γ (L2.CX P w) 3 "Schema" 2 f_Schema_init :=
  calC_of (st := (inClass (top 28) 2)) (qual := "Schema.__init__") ["self", "tables", "known", "name", "width"] ["self", "tables"] [0] [0] h.c_Schema h.k_Schema ⟨rfl, rfl, rfl, by decide +kernel, rfl, by decide +kernel, by decide +kernel⟩ 5 rfl rfl (by decide) (fun _ _ _ _ _ _ us hl => match us, hl with | [_, _], _ => rfl) (fun _ _ _ _ _ _ _ c => (ess_cons (es_if (et_gt (ee_len c rfl h.bn.len (ea_cons (ee_b 1) ea_nil)) (ee_cc c h.cc_Schema_MAX_TABLES)) (ess_one es_never) ess_nil)
    (ess_cons (es_set c 2 (ee_newK))
    (ess_cons (es_for c [3, 4] (ei_src c (ee_v 1)) (eg_tup c (egs_cons (eg_name c 3) (egs_cons (eg_name c 4) egs_nil))) (ess_cons (es_if (et_not (et_tru c (ee_call c (ok_is_word h) (ea_cons (ee_v 3) ea_nil) (argN_cons argN_nil)))) (ess_one es_never) ess_nil)
    (ess_cons (es_if (et_not (et_tru c (ee_call c (ok_is_integer h) (ea_cons (ee_v 4) (ea_cons (ee_int) (ea_cons (ee_cc c h.cc_Schema_MAX_WIDTH) ea_nil))) (argN_cons (argN_cons (argN_cons argN_nil)))))) (ess_one es_never) ess_nil)
    (ess_cons (es_if (et_in c (ee_b 3) (ee_b 2)) (ess_one es_never) ess_nil)
    (ess_one (es_put c 2 (ee_v 3) (ee_v 4)))))))
    (ess_cons (es_fld c 0 "Schema" "names" h.na_Schema_names (ee_toTup c rfl h.bn.tuple (ea_cons (ee_call c (ok_ascending h) (ea_cons (ee_toLst c rfl h.bn.list (ea_cons (ee_b 2) ea_nil)) ea_nil) (argN_cons argN_nil)) ea_nil)))
    (ess_one (es_fld c 0 "Schema" "widths" h.na_Schema_widths (ee_v 2))))))))
theorem ok_law (h : Lw Γ mg) {f : Addr} {fd : FuncData} (F : FunD Γ.K "law" "law" (defArgs (top 61)) (defBody (top 61)) (defScope (top 61)) [] [] f fd) : FnOk P w Γ.K mg base (L2.CX P w) 8 f fd ["script"] (spF Γ 1 f_law) :=
  fn_ev (N := ["script", "state", "columns", "way", "size", "many", "tables", "plain", "plan", "circle", "both", "wide", "pair", "head"]) (b := b_law) [] [] F ⟨rfl, rfl, rfl, by decide +kernel, rfl, by decide +kernel, by decide +kernel⟩ rfl (by decide) (fun _ _ _ _ _ _ c => (ess_cons (es_set c 1 (ee_call c (ok_law_start h) (ea_cons (ee_v 0) ea_nil) (argN_cons argN_nil)))
    (ess_cons (es_set c 2 (ee_idx c (ee_lst (ea_cons (ee_int) (ea_cons (ee_int) (ea_cons (ee_int) (ea_cons (ee_int) (ea_cons (ee_int) (ea_cons (ee_int) (ea_cons (ee_int) (ea_cons (ee_int) ea_nil))))))))) (ee_call c (ok_law_draw h) (ea_cons (ee_b 1) (ea_cons (ee_int) ea_nil)) (argN_cons (argN_cons argN_nil)))))
    (ess_cons (es_set c 3 (ee_call c (ok_law_draw h) (ea_cons (ee_b 1) (ea_cons (ee_int) ea_nil)) (argN_cons (argN_cons argN_nil))))
    (ess_cons (es_set c 4 (ee_add c (ee_int) (ee_call c (ok_law_draw h) (ea_cons (ee_b 1) (ea_cons (ee_int) ea_nil)) (argN_cons (argN_cons argN_nil)))))
    (ess_cons (es_set c 5 (ee_call c (ok_law_draw h) (ea_cons (ee_b 1) (ea_cons (ee_int) ea_nil)) (argN_cons (argN_cons argN_nil))))
    (ess_cons (es_set c 6 (ee_call c (ok_law_tables h) (ea_cons (ee_b 1) (ea_cons (ee_int) (ea_cons (ee_int) ea_nil))) (argN_cons (argN_cons (argN_cons argN_nil)))))
    (ess_cons (es_if (et_eq c (ee_b 3) (ee_int)) (ess_one (es_set c 7 (ee_call c (ok_law_random h) (ea_cons (ee_b 1) (ea_cons (ee_v 6) (ea_cons (ee_v 2) (ea_cons (ee_v 4) (ea_cons (ee_v 5) ea_nil))))) (argN_cons (argN_cons (argN_cons (argN_cons (argN_cons argN_nil)))))))) (ess_one (es_if (et_eq c (ee_b 3) (ee_int)) (ess_one (es_set c 7 (ee_call c (ok_law_ringed h) (ea_cons (ee_b 1) (ea_cons (ee_v 6) (ea_cons (ee_v 2) ea_nil))) (argN_cons (argN_cons (argN_cons argN_nil)))))) (ess_one (es_set c 7 (ee_call c (ok_law_drawn h) (ea_cons (ee_b 1) (ea_cons (ee_v 6) (ea_cons (ee_v 2) ea_nil))) (argN_cons (argN_cons (argN_cons argN_nil)))))))))
    (ess_cons (es_if (et_not (et_tru c (ee_call c (ok_law_right h) (ea_cons (ee_make c (ok_Schema_init h) (ea_cons (ee_toLst c rfl h.bn.list (ea_cons (ee_b 6) ea_nil)) ea_nil) (argN_cons argN_nil)) (ea_cons (ee_v 7) ea_nil)) (argN_cons (argN_cons argN_nil))))) (ess_one (es_ret (ee_bl))) ess_nil)
    (ess_cons (es_set c 8 (ee_make c (ok_Schema_init h) (ea_cons (ee_lst (ea_cons (ee_tup (ea_cons (ee_str) (ea_cons (ee_int) ea_nil))) (ea_cons (ee_tup (ea_cons (ee_str) (ea_cons (ee_int) ea_nil))) (ea_cons (ee_tup (ea_cons (ee_str) (ea_cons (ee_int) ea_nil))) ea_nil)))) ea_nil) (argN_cons argN_nil)))
    (ess_cons (es_set c 9 (ee_lst (ea_cons (ee_tup (ea_cons (ee_str) (ea_cons (ee_int) (ea_cons (ee_int) ea_nil)))) (ea_cons (ee_tup (ea_cons (ee_str) (ea_cons (ee_int) (ea_cons (ee_int) ea_nil)))) (ea_cons (ee_tup (ea_cons (ee_str) (ea_cons (ee_int) (ea_cons (ee_int) ea_nil)))) ea_nil)))))
    (ess_cons (es_set c 10 (ee_lst (ea_cons (ee_tup (ea_cons (ee_str) (ea_cons (ee_int) (ea_cons (ee_int) ea_nil)))) (ea_cons (ee_tup (ea_cons (ee_str) (ea_cons (ee_int) (ea_cons (ee_int) ea_nil)))) (ea_cons (ee_tup (ea_cons (ee_str) (ea_cons (ee_int) (ea_cons (ee_int) ea_nil)))) (ea_cons (ee_tup (ea_cons (ee_str) (ea_cons (ee_int) (ea_cons (ee_int) ea_nil)))) (ea_cons (ee_tup (ea_cons (ee_str) (ea_cons (ee_int) (ea_cons (ee_int) ea_nil)))) ea_nil)))))))
    (ess_cons (es_set c 11 (ee_lst (ea_cons (ee_tup (ea_cons (ee_str) (ea_cons (ee_int) ea_nil))) (ea_cons (ee_tup (ea_cons (ee_str) (ea_cons (ee_int) (ea_cons (ee_int) ea_nil)))) (ea_cons (ee_tup (ea_cons (ee_str) (ea_cons (ee_int) (ea_cons (ee_int) (ea_cons (ee_int) ea_nil))))) (ea_cons (ee_tup (ea_cons (ee_str) (ea_cons (ee_int) (ea_cons (ee_int) (ea_cons (ee_int) ea_nil))))) ea_nil))))))
    (ess_cons (es_for c [12, 13] (ei_src c (ee_lst (ea_cons (ee_tup (ea_cons (ee_v 9) (ea_cons (ee_int) ea_nil))) (ea_cons (ee_tup (ea_cons (ee_v 10) (ea_cons (ee_int) ea_nil))) (ea_cons (ee_tup (ea_cons (ee_v 11) (ea_cons (ee_int) ea_nil))) ea_nil))))) (eg_name c 12) (ess_one (es_for c [13] (ei_src c (ee_lst (ea_cons (ee_tup ea_nil) (ea_cons (ee_tup (ea_cons (ee_int) ea_nil)) (ea_cons (ee_idx c (ee_lst (ea_cons (ee_tup (ea_cons (ee_int) (ea_cons (ee_int) ea_nil))) (ea_cons (ee_tup (ea_cons (ee_int) (ea_cons (ee_int) ea_nil))) ea_nil))) (ee_mod (ee_toInt rfl h.bn.int (ea_cons (ee_b 4) ea_nil)) (ee_int))) ea_nil))))) (eg_name c 13) (ess_one (es_if (et_not (et_tru c (ee_call c (ok_law_right h) (ea_cons (ee_v 8) (ea_cons (ee_tup (ea_cons (ee_idx c (ee_b 12) (ee_int)) (ea_cons (ee_v 13) (ea_cons (ee_idx c (ee_b 12) (ee_int)) ea_nil)))) ea_nil)) (argN_cons (argN_cons argN_nil))))) (ess_one (es_ret (ee_bl))) ess_nil)))))
    (ess_one (es_ret (ee_and (ee_call c (ok_law_right h) (ea_cons (ee_v 8) (ea_cons (ee_tup (ea_cons (ee_lst (ea_cons (ee_tup (ea_cons (ee_str) (ea_cons (ee_int) ea_nil))) (ea_cons (ee_tup (ea_cons (ee_str) (ea_cons (ee_int) ea_nil))) ea_nil))) (ea_cons (ee_tup (ea_cons (ee_int) ea_nil)) (ea_cons (ee_int) ea_nil)))) ea_nil)) (argN_cons (argN_cons argN_nil))) (ee_one (ee_call c (ok_law_right h) (ea_cons (ee_v 8) (ea_cons (ee_tup (ea_cons (ee_lst ea_nil) (ea_cons (ee_tup (ea_cons (ee_int) ea_nil)) (ea_cons (ee_int) ea_nil)))) ea_nil)) (argN_cons (argN_cons argN_nil)))))))))))))))))))))
end
end Ev.K19
-- EvU
set_option Elab.async false
set_option linter.all false
set_option maxRecDepth 100000
set_option maxHeartbeats 2000000
namespace Ev
open PySem PySem.Spec L2 HT ClX
open PyProof.Rows hiding St

/-! ## the head's facts, some more -/
inductive Xf where
  | cc (c g : Str) (i : Int)
  | gi (c : Str)
def Xf.ok (K : PySem.W.Frag) : Xf → Bool
  | .cc c g i => PySem.W.readsIn K (He.ga K c) (.type "type") && (He.eqO (PySem.W.specialIn K (.ref (He.ga K c)) "__getattribute__") (some (some (.builtin "type.__getattribute__"))) && (match PySem.W.findCls K (.ref (He.ga K c)) (.type "type") g with
    | some (.val (.int j _)) => decide (j = i)
    | _ => false))
  | .gi c => PySem.W.fnIn K (He.ma K (He.ga K c) "__getitem__")
theorem Xf.cc_ok {K : PySem.W.Frag} {c g : Str} {i : Int} (h : (Xf.cc c g i).ok K = true) : CRead K (He.ga K c) (.type "type") ∧ ∃ t, CVal K (He.ga K c) (.type "type") g (.int i) (.int i t) := by
  obtain ⟨h1, h2⟩ := He.ba h
  obtain ⟨h2, h3⟩ := He.ba h2
  refine ⟨⟨h1, He.eqO_ok h2⟩, ?_⟩
  split at h3
  · rename_i j t e
    have ej : j = i := of_decide_eq_true h3
    subst ej
    exact ⟨t, e, ⟨t, rfl⟩⟩
  · cases h3
theorem Xf.gi_ok {K : PySem.W.Frag} {c : Str} (h : (Xf.gi c).ok K = true) : GetI K (He.ga K c) := by
  intro f m
  have h : PySem.W.fnIn K (He.ma K (He.ga K c) "__getitem__") = true := h
  have e : He.ma K (He.ga K c) "__getitem__" = f := by
    unfold He.ma
    rw [m.at_]
  rw [e] at h
  exact h
def obsX (fa : List He.Fa) (xf : List Xf) (fn : List He.DefD) (K : PySem.W.Frag) : Bool × He.AlD := (xf.all fun x => x.ok K, He.obsD fa fn K)
def SaysX (fa : List He.Fa) (xf : List Xf) (fn : List He.DefD) (K : PySem.W.Frag) : Prop := obsX fa xf fn K = (true, He.valD fn)
def obsXG (n : Nat) (fa : List He.Fa) (xf : List Xf) (fn : List He.DefD) (g : Addr → Option Obj) : Bool × He.AlD := obsX fa xf fn (He.frG g (cStatics :: He.asD g n))
def hookX (n : Nat) (fa : List He.Fa) (xf : List Xf) (fn : List He.DefD) : PySem.W.Hook where
  α := Bool × He.AlD
  obs := fun s => obsXG n fa xf fn s.heap.get?
  val := fun _ => (true, He.valD fn)
  says := fun _ h => ∃ K : PySem.W.Frag, K.In h ∧ SaysX fa xf fn K
  of := fun _ _ e => ⟨_, He.frG_in, e⟩
  keeps := fun _ _ _ ⟨K, hK, c⟩ k => ⟨K, PySem.W.Frag.In.keeps hK k, c⟩
theorem obsXG_eq {n : Nat} {fa : List He.Fa} {xf : List Xf} {fn : List He.DefD} {g : Addr → Option Obj} {s : Shared} (h : ∀ a, g a = s.heap.get? a) : obsXG n fa xf fn g = (hookX n fa xf fn).obs s := by
  have e : g = s.heap.get? := funext h
  rw [e] <;> rfl
section
variable {fa : List He.Fa} {xf : List Xf} {fn : List He.DefD} {K : PySem.W.Frag}
theorem SaysX.d (c : SaysX fa xf fn K) : He.SaysD fa fn K := congrArg (fun z : Bool × He.AlD => z.2) c
theorem SaysX.x (c : SaysX fa xf fn K) (i : Nat) {f : Xf} (h : xf[i]? = some f := by rfl) : f.ok K = true := by
  have c1 : (xf.all fun x => x.ok K) = true := congrArg (fun z : Bool × He.AlD => z.1) c
  exact List.all_eq_true.mp c1 f (List.mem_of_getElem? h)
end
/-- the written part, the classes by their names -/
def gmOf (K : PySem.W.Frag) : Gm := ⟨K, fun c => He.ga K (c : Str)⟩
section
variable {K : PySem.W.Frag} {h : Heap} {mg : Str → Option Value} {fa : List He.Fa} {xf : List Xf} {fn : List He.DefD}
theorem defAt_of (X : K.In h) (G : h.Ns mainGlobals mg) (c : SaysX fa xf fn K) {x : Str} {st : Stmt} (i j : Nat) (hi : fa[i]? = some (.glo x)) (hj : fn[j]? = some ⟨(x, none), x, x, defArgs st, defBody st, defScope st, [], []⟩) : DefAt (gmOf K).K mg x st := by
  obtain ⟨fd, F⟩ := c.d.def_ j hj
  exact ⟨_, fd, He.glo_ok X G (c.d.fact i hi), F⟩
theorem clsAt_of (X : K.In h) (G : h.Ns mainGlobals mg) (c : SaysX fa xf fn K) {x : String} (i j : Nat) (hi : fa[i]? = some (.glo (x : Str))) (hj : fa[j]? = some (.cls (x : Str))) : ClsAt (gmOf K) mg x :=
  ⟨He.glo_ok X G (c.d.fact i hi), He.cls_ok (c.d.fact j hj)⟩
theorem methAt_of (c : SaysX fa xf fn K) {x : String} {m qual : Str} {st : Stmt} (i j : Nat) (hi : fa[i]? = some (.meth (x : Str) m)) (hj : fn[j]? = some ⟨((x : Str), some m), m, qual, defArgs st, defBody st, defScope st, [], []⟩) : MethAt (gmOf K).K ((gmOf K).cls x) m qual st := by
  obtain ⟨fd, F⟩ := c.d.def_ j hj
  exact ⟨_, fd, He.meth_ok (c.d.fact i hi), F⟩
theorem mkAt_of (c : SaysX fa xf fn K) {x : String} {qual : Str} {st : Stmt} (i j : Nat) (hi : fa[i]? = some (.mkr (x : Str))) (hj : fn[j]? = some ⟨((x : Str), some "__init__"), "__init__", qual, defArgs st, defBody st, defScope st, [], []⟩) : MkAt (gmOf K) x qual st := by
  obtain ⟨fd, F⟩ := c.d.def_ j hj
  exact ⟨_, fd, He.mkr_ok (c.d.fact i hi), F⟩
theorem ccAt_of (X : K.In h) (G : h.Ns mainGlobals mg) (c : SaysX fa xf fn K) {x g : String} {v : Int} (i j : Nat) (hi : fa[i]? = some (.glo (x : Str))) (hj : xf[j]? = some (.cc (x : Str) (g : Str) v)) : CcAt (gmOf K) mg x g v :=
  ⟨_, He.glo_ok X G (c.d.fact i hi), Xf.cc_ok (c.x j hj)⟩
theorem noAt_of (c : SaysX fa xf fn K) {x g : String} (i : Nat) (hi : fa[i]? = some (.noat (x : Str) (g : Str))) : NoAttr (gmOf K).K ((gmOf K).cls x) (g : Str) := He.noat_ok (c.d.fact i hi)
theorem getI_of (c : SaysX fa xf fn K) {x : String} (j : Nat) (hj : xf[j]? = some (.gi (x : Str))) : GetI (gmOf K).K ((gmOf K).cls x) := Xf.gi_ok (c.x j hj)
end
/-! ## the end -/
theorem FnOk.noex {P : Program} {w : World} {K : PySem.W.Frag} {mg : Str → Option Value} {base : Heap} {k : Nat} {f : Addr} {fd : FuncData} {ps : List Str} {sp : Sp} (F : FnOk P w K mg base (L2.CX P w) k f fd ps sp) :
    FnOk P w K mg base CX0 k f fd ps (fun vs H Q E => sp vs H Q fun _ _ _ => False) :=
  ⟨fun vs H Q E h => F.len vs H Q _ h, fun A outer s H args us vs Q E hr he hb hv hs => codeAny_mono (F.run A outer s H args us vs Q _ hr he hb hv hs) fun r s' q => by
    cases r with
    | error e =>
      obtain ⟨_, _, _, _, _, _, _, _, _, _, _, _, z⟩ := q
      exact z
    | ok fl => cases fl <;> exact q⟩
/-- the law's def answers True -/
def Good (φ : SF) : Prop := ∀ ns : List Int, ns.length ≤ 63 → ∃ os', φ [.fz (.scr ns)] = some (.ok (.fz (.bl true)) os')
theorem law_sp {Γ : Gm} {φ : SF} (g : Good φ) (H : Hp) (a : Addr) (ns : List Int) (hl : ns.length ≤ 63) (hS : SqL Γ.K H a (ns.map V.int)) : spF Γ 1 φ [.ref a] H (fun v _ => v = .bl true) (fun _ _ _ => False) := by
  obtain ⟨os', e⟩ := g ns hl
  refine ⟨rfl, H, [.fz (.scr ns)], _, ⟨.refl, rfl, fun i v o h1 h2 => ?_, fun i j b h1 h2 => ?_⟩, e, fun v F' H' w' rv st => ?_⟩
  · cases i with
    | zero => simp at h1 h2; subst h1 h2; exact .fz (.scr hS (Nat.le_trans hl (by decide)))
    | succ i => simp at h1
  · obtain ⟨_, o, h2, h3⟩ := h1
    cases i with
    | zero => simp at h2; subst h2; cases h3
    | succ i => simp at h2
  · have rv : Rv Γ F' v (.bl true) := rv
    cases rv; rfl
end Ev
-- H_k19
set_option Elab.async false
set_option linter.all false
set_option maxRecDepth 100000
set_option maxHeartbeats 0
namespace Ev.K19
open PySem PySem.Spec L2 HT ClX Ev
open PyProof.Rows hiding St
def fn0 : List He.DefD := [⟨("_law_start", none), "_law_start", "_law_start", defArgs (top 42), defBody (top 42), defScope (top 42), [], []⟩, ⟨("_law_draw", none), "_law_draw", "_law_draw", defArgs (top 43), defBody (top 43), defScope (top 43), [], []⟩, ⟨("_law_word", none), "_law_word", "_law_word", defArgs (top 48), defBody (top 48), defScope (top 48), [], []⟩, ⟨("_law_pool", none), "_law_pool", "_law_pool", defArgs (top 49), defBody (top 49), defScope (top 49), [], []⟩, ⟨("_law_tables", none), "_law_tables", "_law_tables", defArgs (top 50), defBody (top 50), defScope (top 50), [], []⟩, ⟨("_law_row", none), "_law_row", "_law_row", defArgs (top 51), defBody (top 51), defScope (top 51), [], []⟩, ⟨("_law_sorted", none), "_law_sorted", "_law_sorted", defArgs (top 45), defBody (top 45), defScope (top 45), [], []⟩, ⟨("_law_close", none), "_law_close", "_law_close", defArgs (top 46), defBody (top 46), defScope (top 46), [], []⟩]
def fn1 : List He.DefD := [⟨("_law_random", none), "_law_random", "_law_random", defArgs (top 52), defBody (top 52), defScope (top 52), [], []⟩, ⟨("_law_loop", none), "_law_loop", "_law_loop", defArgs (top 55), defBody (top 55), defScope (top 55), [], []⟩, ⟨("_law_ringed", none), "_law_ringed", "_law_ringed", defArgs (top 59), defBody (top 59), defScope (top 59), [], []⟩, ⟨("_law_forest", none), "_law_forest", "_law_forest", defArgs (top 53), defBody (top 53), defScope (top 53), [], []⟩, ⟨("_law_tree", none), "_law_tree", "_law_tree", defArgs (top 54), defBody (top 54), defScope (top 54), [], []⟩, ⟨("_law_drawn", none), "_law_drawn", "_law_drawn", defArgs (top 56), defBody (top 56), defScope (top 56), [], []⟩, ⟨("Schema", some "__contains__"), "__contains__", "Schema.__contains__", defArgs (inClass (top 28) 6), defBody (inClass (top 28) 6), defScope (inClass (top 28) 6), [], []⟩, ⟨("Schema", some "__getitem__"), "__getitem__", "Schema.__getitem__", defArgs (inClass (top 28) 7), defBody (inClass (top 28) 7), defScope (inClass (top 28) 7), [], []⟩]
def fn2 : List He.DefD := [⟨("is_natural", none), "is_natural", "is_natural", defArgs (top 23), defBody (top 23), defScope (top 23), [], []⟩, ⟨("check_row", none), "check_row", "check_row", defArgs (top 38), defBody (top 38), defScope (top 38), [], []⟩, ⟨("merged", none), "merged", "merged", defArgs (top 20), defBody (top 20), defScope (top 20), [], []⟩, ⟨("ascending", none), "ascending", "ascending", defArgs (top 21), defBody (top 21), defScope (top 21), [], []⟩, ⟨("Pattern", some "__init__"), "__init__", "Pattern.__init__", defArgs (inClass (top 40) 3), defBody (inClass (top 40) 3), defScope (inClass (top 40) 3), [], []⟩, ⟨("_law_links", none), "_law_links", "_law_links", defArgs (top 57), defBody (top 57), defScope (top 57), [], []⟩, ⟨("_law_is_ring_link", none), "_law_is_ring_link", "_law_is_ring_link", defArgs (top 58), defBody (top 58), defScope (top 58), [], []⟩, ⟨("links", none), "links", "links", defArgs (top 2), defBody (top 2), defScope (top 2), [], []⟩]
def fn3 : List He.DefD := [⟨("link_value", none), "link_value", "link_value", defArgs (top 3), defBody (top 3), defScope (top 3), [], []⟩, ⟨("paths_without", none), "paths_without", "paths_without", defArgs (top 4), defBody (top 4), defScope (top 4), [], []⟩, ⟨("is_ring_link", none), "is_ring_link", "is_ring_link", defArgs (top 5), defBody (top 5), defScope (top 5), [], []⟩, ⟨("ring_links", none), "ring_links", "ring_links", defArgs (top 6), defBody (top 6), defScope (top 6), [], []⟩, ⟨("_law_same", none), "_law_same", "_law_same", defArgs (top 44), defBody (top 44), defScope (top 44), [], []⟩, ⟨("_law_is", none), "_law_is", "_law_is", defArgs (top 47), defBody (top 47), defScope (top 47), [], []⟩, ⟨("_law_right", none), "_law_right", "_law_right", defArgs (top 60), defBody (top 60), defScope (top 60), [], []⟩, ⟨("is_word", none), "is_word", "is_word", defArgs (top 27), defBody (top 27), defScope (top 27), [], []⟩]
def fn4 : List He.DefD := [⟨("is_integer", none), "is_integer", "is_integer", defArgs (top 22), defBody (top 22), defScope (top 22), [], []⟩, ⟨("Schema", some "__init__"), "__init__", "Schema.__init__", defArgs (inClass (top 28) 2), defBody (inClass (top 28) 2), defScope (inClass (top 28) 2), [], []⟩, ⟨("law", none), "law", "law", defArgs (top 61), defBody (top 61), defScope (top 61), [], []⟩]
def fn : List He.DefD := fn0 ++ (fn1 ++ (fn2 ++ (fn3 ++ (fn4))))
def fa0 : List He.Fa := [.free "len", .free "int", .free "tuple", .free "list", .free "isinstance", .free "bool", .free "range", .free "enumerate", .free "reversed", .free "str", .free "iter", .free "any", .free "all", .glo "Pattern", .noat "Pattern" "schema", .noat "Pattern" "rows", .noat "Pattern" "head", .noat "Pattern" "size", .int "MAX_WORD" 20, .str "WORD_CHARACTERS" "ABCDEFGHIJKLMNOPQRSTUVWXYZabcdefghijklmnopqrstuvwxyz0123456789_"]
def fa1 : List He.Fa := [.glo "Schema", .noat "Schema" "names", .noat "Schema" "widths", .glo "_law_start", .glo "_law_draw", .glo "_law_word", .glo "_law_pool", .glo "_law_tables", .glo "_law_row", .glo "_law_sorted", .glo "_law_close", .glo "_law_random", .glo "_law_loop", .glo "_law_ringed", .glo "_law_forest", .glo "_law_tree", .glo "_law_drawn", .cls "Schema", .meth "Schema" "__contains__", .meth "Schema" "__getitem__"]
def fa2 : List He.Fa := [.glo "is_natural", .glo "check_row", .glo "merged", .glo "ascending", .cls "Pattern", .mkr "Pattern", .glo "_law_links", .glo "_law_is_ring_link", .glo "links", .glo "link_value", .glo "paths_without", .glo "is_ring_link", .glo "ring_links", .glo "_law_same", .glo "_law_is", .glo "_law_right", .glo "is_word", .glo "is_integer", .mkr "Schema", .glo "law"]
def fa : List He.Fa := fa0 ++ (fa1 ++ (fa2))
def xf0 : List Xf := [.gi "Schema", .cc "Pattern" "MAX_HEAD" 4, .cc "Pattern" "MAX_ROWS" 600, .cc "Pattern" "MAX_VALUES" 300, .cc "Schema" "MAX_TABLES" 8, .cc "Schema" "MAX_WIDTH" 4]
def xf : List Xf := xf0
def lo0 : List Str := ["_wall", "links", "link_value", "paths_without", "is_ring_link", "ring_links", "PinError", "InputError", "TooLarge", "Mismatch", "BadWord", "BadWidth", "DuplicateTable", "UnknownTable", "WrongWidth", "BadValue", "Gap", "merged", "ascending", "is_integer", "is_natural", "WORD_CHARACTERS", "MAX_WORD", "is_word", "Schema", "closed_up", "paired_rows", "paired_values", "column_classes", "sum_labels"]
def lo1 : List Str := ["relabelled", "summed", "check_row", "require_match", "Pattern", "_law_start", "_law_draw", "_law_same", "_law_sorted", "_law_close", "_law_is", "_law_word", "_law_pool", "_law_tables", "_law_row", "_law_random", "_law_forest", "_law_tree", "_law_loop", "_law_drawn", "_law_links", "_law_is_ring_link", "_law_ringed", "_law_right"]
def lo : List Str := lo0 ++ (lo1)
abbrev R : PySem.W.OpenRow := PySem.W.OpenLaw.row PySem.Challenge.rw_pinnedbycounts_k19_ring_links
abbrev hk : PySem.W.Hook := hookX 5 fa xf fn
def ob (s : PySem.W.SharedT) : Bool × He.AlD := obsXG 5 fa xf fn (HandSHeadRun.getT s)
theorem ob_eq (s : PySem.W.SharedT) : ob s = hk.obs s.abs := obsXG_eq (HandSHeadRun.getT_eq s)
theorem run (w : World) : HandSHeadRun.RunEq R (PySem.W.view R.prog [61]) hk ob 6000 lo w := by
  intro os
  kernel_rfl
theorem lw_of {K : PySem.W.Frag} {h : Heap} {mg : Str → Option Value} (X : K.In h) (G : h.Ns mainGlobals mg) (c : SaysX fa xf fn K) : Lw (gmOf K) mg where
  bn := ⟨He.free_ok X G (c.d.fact 0 rfl), He.free_ok X G (c.d.fact 1 rfl), He.free_ok X G (c.d.fact 2 rfl), He.free_ok X G (c.d.fact 3 rfl), He.free_ok X G (c.d.fact 4 rfl), He.free_ok X G (c.d.fact 5 rfl), He.free_ok X G (c.d.fact 6 rfl), He.free_ok X G (c.d.fact 7 rfl), He.free_ok X G (c.d.fact 8 rfl), He.free_ok X G (c.d.fact 9 rfl), He.free_ok X G (c.d.fact 10 rfl), He.free_ok X G (c.d.fact 11 rfl), He.free_ok X G (c.d.fact 12 rfl)⟩
  gi_Schema := getI_of c 0 rfl
  cc_Pattern_MAX_HEAD := ccAt_of X G c 13 1 rfl rfl
  cc_Pattern_MAX_ROWS := ccAt_of X G c 13 2 rfl rfl
  cc_Pattern_MAX_VALUES := ccAt_of X G c 13 3 rfl rfl
  na_Pattern_schema := noAt_of c 14 rfl
  na_Pattern_rows := noAt_of c 15 rfl
  na_Pattern_head := noAt_of c 16 rfl
  na_Pattern_size := noAt_of c 17 rfl
  g_MAX_WORD := He.int_ok X G (c.d.fact 18 rfl)
  g_WORD_CHARACTERS := He.str_ok X G (c.d.fact 19 rfl)
  cc_Schema_MAX_TABLES := ccAt_of X G c 20 4 rfl rfl
  cc_Schema_MAX_WIDTH := ccAt_of X G c 20 5 rfl rfl
  na_Schema_names := noAt_of c 21 rfl
  na_Schema_widths := noAt_of c 22 rfl
  d_law_start := defAt_of X G c 23 0 rfl rfl
  d_law_draw := defAt_of X G c 24 1 rfl rfl
  d_law_word := defAt_of X G c 25 2 rfl rfl
  d_law_pool := defAt_of X G c 26 3 rfl rfl
  d_law_tables := defAt_of X G c 27 4 rfl rfl
  d_law_row := defAt_of X G c 28 5 rfl rfl
  d_law_sorted := defAt_of X G c 29 6 rfl rfl
  d_law_close := defAt_of X G c 30 7 rfl rfl
  d_law_random := defAt_of X G c 31 8 rfl rfl
  d_law_loop := defAt_of X G c 32 9 rfl rfl
  d_law_ringed := defAt_of X G c 33 10 rfl rfl
  d_law_forest := defAt_of X G c 34 11 rfl rfl
  d_law_tree := defAt_of X G c 35 12 rfl rfl
  d_law_drawn := defAt_of X G c 36 13 rfl rfl
  c_Schema := clsAt_of X G c 20 37 rfl rfl
  m_Schema_contains := methAt_of c 38 14 rfl rfl
  m_Schema_getitem := methAt_of c 39 15 rfl rfl
  d_is_natural := defAt_of X G c 40 16 rfl rfl
  d_check_row := defAt_of X G c 41 17 rfl rfl
  d_merged := defAt_of X G c 42 18 rfl rfl
  d_ascending := defAt_of X G c 43 19 rfl rfl
  c_Pattern := clsAt_of X G c 13 44 rfl rfl
  k_Pattern := mkAt_of c 45 20 rfl rfl
  d_law_links := defAt_of X G c 46 21 rfl rfl
  d_law_is_ring_link := defAt_of X G c 47 22 rfl rfl
  d_links := defAt_of X G c 48 23 rfl rfl
  d_link_value := defAt_of X G c 49 24 rfl rfl
  d_paths_without := defAt_of X G c 50 25 rfl rfl
  d_is_ring_link := defAt_of X G c 51 26 rfl rfl
  d_ring_links := defAt_of X G c 52 27 rfl rfl
  d_law_same := defAt_of X G c 53 28 rfl rfl
  d_law_is := defAt_of X G c 54 29 rfl rfl
  d_law_right := defAt_of X G c 55 30 rfl rfl
  d_is_word := defAt_of X G c 56 31 rfl rfl
  d_is_integer := defAt_of X G c 57 32 rfl rfl
  k_Schema := mkAt_of c 58 33 rfl rfl
  d_law := defAt_of X G c 59 34 rfl rfl
theorem facts {P : Program} {w : World} {K : PySem.W.Frag} {h : Heap} {mg : Str → Option Value} {f : Addr} (X : K.In h) (G : h.Ns mainGlobals mg) (hfa : mg ("law" : Str) = some (.ref f)) (c : SaysX fa xf fn K) :
    ∃ fd : FuncData, (∀ (s : Shared) (v : Value), BindsTo s fd ⟨[v], []⟩ [("script", v)]) ∧ ∀ base : Heap, K.In base → base.Ns mainGlobals mg → FnOk P w K mg base CX0 8 f fd ["script"] (fun vs H Q E => spF (gmOf K) 1 f_law vs H Q fun _ _ _ => False) := by
  obtain ⟨g, fd, hg, F⟩ := (lw_of X G c).d_law
  have e := hfa.symm.trans hg
  cases e
  have b := FunD.bindsA (ps := ["script"]) F fun _ _ _ _ _ _ us hl => match us, hl with | [_], _ => rfl
  exact ⟨fd, fun s v => b s [v] rfl, fun base _ _ => FnOk.noex (ok_law (lw_of X G c) F)⟩
end Ev.K19
open PySem PySem.W PySem.Calls PyProof.Rows
theorem Ev.K19.holds (good : Ev.Good Ev.f_law) : PySem.Challenge.rw_pinnedbycounts_k19_ring_links.Holds := by
  w_on; o_law
  refine HandSHeadRun.head_any (r := OpenLaw.row PySem.Challenge.rw_pinnedbycounts_k19_ring_links) (q := view (OpenLaw.row PySem.Challenge.rw_pinnedbycounts_k19_ring_links).prog [61]) (H := Ev.K19.hk) (ob := Ev.K19.ob) (M := 6000) (loose := Ev.K19.lo) (d := HandSHeadRun.topDef (OpenLaw.row PySem.Challenge.rw_pinnedbycounts_k19_ring_links).prog 61) (kwd := []) Ev.K19.ob_eq
    (by kernel_rfl) (fun s => by kernel_rfl) Ev.K19.run (by kernel_rfl) (by kernel_rfl) (by kernel_rfl) (by rfl) (by first | assumption | decide +kernel) (by decide +kernel) ⟨rfl, rfl, rfl, rfl, rfl, by decide +kernel⟩ ?hw ?hc
  case hw => w_witness2
  case hc =>
    refine L2.walk_ofE (l := PySem.Challenge.rw_pinnedbycounts_k19_ring_links) (n := 63) (k := 8) (x := "script") (CX := L2.CX0) rfl (by decide) (by kernel_rfl) ⟨rfl, by decide, by decide⟩ ?F (fun _ _ _ _ z => z)
    intro w mg fa h Y G hmg0
    obtain ⟨K, KX, c⟩ := Y
    have hmg : mg ("law" : PySem.Str) = some (.ref fa) := by
      have e : (HandSHeadRun.topDef (OpenLaw.row PySem.Challenge.rw_pinnedbycounts_k19_ring_links).prog 61).name = ("law" : PySem.Str) := by kernel_rfl
      rw [← e]
      exact hmg0
    obtain ⟨fd, hb, hF⟩ := Ev.K19.facts (P := (PySem.Challenge.rw_pinnedbycounts_k19_ring_links).prog) (w := w) KX G hmg c
    exact ⟨K, fd, fun vs H Q E => Ev.spF (Ev.gmOf K) 1 Ev.f_law vs H Q fun _ _ _ => False, KX, hb, fun H a ns hl _ hS => Ev.law_sp (Γ := Ev.gmOf K) good H a ns hl hS, hF⟩
-- EvV
set_option Elab.async false
set_option linter.all false
set_option maxRecDepth 100000
set_option maxHeartbeats 2000000
namespace Ev
open PySem L2

/-! ## reasoning about meanings: no program here -/
/-- not by unfolding -/
theorem nr {α : Sort _} {a b : α} (h : a = b) : a = b := h
@[irreducible] def wpM {α : Type} (m : M α) (s : List O) (Q : α → List O → Prop) : Prop := match m s with
  | some (.ok r s') => Q r s'
  | _ => False
@[irreducible] def wpF (φ : SF) (os : List O) (Q : O → List O → Prop) : Prop := match φ os with
  | some (.ok r s') => Q r s'
  | _ => False
def oP {α : Type} : Option α → (α → Prop) → Prop
  | some a, Q => Q a
  | none, _ => False
theorem oP_some {α : Type} (a : α) (Q : α → Prop) : oP (some a) Q = Q a := nr rfl
theorem oP_none {α : Type} (Q : α → Prop) : oP none Q = False := nr rfl
theorem oP_of {α : Type} {o : Option α} {a : α} {Q : α → Prop} (h : o = some a) (q : Q a) : oP o Q := by subst h; exact q
theorem wpM.ex {α : Type} {m : M α} {s : List O} {Q : α → List O → Prop} (h : wpM m s Q) : ∃ r s', m s = some (.ok r s') ∧ Q r s' := by
  unfold wpM at h
  split at h
  · exact ⟨_, _, by assumption, h⟩
  · exact h.elim
theorem wpM.of {α : Type} {m : M α} {s : List O} {Q : α → List O → Prop} {r : α} {s' : List O} (e : m s = some (.ok r s')) (h : Q r s') : wpM m s Q := by
  unfold wpM; rw [e]; exact h
theorem wpF.ex {φ : SF} {s : List O} {Q : O → List O → Prop} (h : wpF φ s Q) : ∃ r s', φ s = some (.ok r s') ∧ Q r s' := by
  unfold wpF at h
  split at h
  · exact ⟨_, _, by assumption, h⟩
  · exact h.elim
theorem wpF.of {φ : SF} {s : List O} {Q : O → List O → Prop} {r : O} {s' : List O} (e : φ s = some (.ok r s')) (h : Q r s') : wpF φ s Q := by
  unfold wpF; rw [e]; exact h
theorem wpM.mono {α : Type} {m : M α} {s : List O} {Q Q' : α → List O → Prop} (h : wpM m s Q) (q : ∀ r s', Q r s' → Q' r s') : wpM m s Q' := by
  obtain ⟨r, s', e, h⟩ := h.ex; exact .of e (q _ _ h)
theorem wpF.mono {φ : SF} {os : List O} {Q Q' : O → List O → Prop} (h : wpF φ os Q) (q : ∀ r s', Q r s' → Q' r s') : wpF φ os Q' := by
  obtain ⟨r, s', e, h⟩ := h.ex; exact .of e (q _ _ h)
theorem wp_pure {α : Type} (a : α) (s : List O) (Q : α → List O → Prop) : wpM (M.pure a) s Q = Q a s := by unfold wpM; rfl
theorem wp_bind {α β : Type} (m : M α) (f : α → M β) (s : List O) (Q : β → List O → Prop) : wpM (M.bind m f) s Q = wpM m s fun a s1 => wpM (f a) s1 Q := by
  unfold wpM M.bind
  cases m s with
  | none => rfl
  | some r => cases r <;> first | rfl | (unfold wpM; rfl) | (unfold wpF; rfl)
/-! ### expressions -/
theorem wp_cst (d : D) (s : List O) (Q : Rs → List O → Prop) : wpM (cst d) s Q = Q (.fz d) s := by unfold wpM; rfl
def getB : Option O → Nat → (Rs → Prop) → Prop
  | some (.fz d), _, Q => Q (.fz d)
  | some .no, _, _ => False
  | some _, i, Q => Q (.bor i)
  | none, _, _ => False
theorem wp_varB (i : Nat) (s : List O) (Q : Rs → List O → Prop) : wpM (varB i) s Q = getB (s[i]?) i fun r => Q r s := by
  unfold wpM varB
  cases s[i]? with
  | none => rfl
  | some o => cases o <;> rfl
theorem wp_varS (i : Nat) (s : List O) (Q : Rs → List O → Prop) : wpM (varS i) s Q = oP ((s[i]?).bind O.view) fun d => Q (.fz d) (s.set i (.fz d)) := by
  unfold wpM varS
  cases (s[i]?).bind O.view <;> rfl
def getM : Option O → (Rs → Prop) → (O → Prop) → Prop
  | some (.fz d), Q, _ => Q (.fz d)
  | some .no, _, _ => False
  | some o, _, Q => Q o
  | none, _, _ => False
theorem wp_varM (i : Nat) (s : List O) (Q : Rs → List O → Prop) : wpM (varM i) s Q = getM (s[i]?) (fun r => Q r s) (fun o => Q (.ow o) (s.set i .no)) := by
  unfold wpM varM
  cases s[i]? with
  | none => rfl
  | some o => cases o <;> rfl
/-- what an operand is -/
def opR : Rs → (Rs → Prop) → Prop
  | .fz d, Q => Q (.fz d)
  | .bor i, Q => Q (.bor i)
  | .ow o, Q => oP o.view fun d => Q (.fz d)
theorem wp_opd (f : SE) (s : List O) (Q : Rs → List O → Prop) : wpM (opd f) s Q = wpM f s fun r s' => opR r fun r' => Q r' s' := by
  unfold wpM opd
  cases hf : f s with
  | none => rfl
  | some res =>
    cases res with
    | ex e s' => rfl
    | ok r s' =>
      cases r with
      | fz d => rfl
      | bor i => rfl
      | ow o => cases hv : o.view <;> simp [opR, oP, hv]
/-- a rule's result -/
def resO : Option O → (Rs → Prop) → Prop
  | some .no, _ => False
  | some o, Q => Q (rsO o)
  | none, _ => False
theorem wp_ret (φ : List O → Option O) (s : List O) (Q : Rs → List O → Prop) : wpM (fun s => ret (φ s) s) s Q = resO (φ s) fun r => Q r s := by
  unfold wpM
  dsimp only
  unfold ret
  cases φ s with
  | none => rfl
  | some o => cases o <;> rfl
theorem wp_prim1 (f : SE) (φ : D → Option O) (s : List O) (Q : Rs → List O → Prop) : wpM (prim1 f φ) s Q = wpM f s fun r s1 => opR r fun r => resO ((vw s1 r).bind φ) fun r' => Q r' s1 := by
  unfold prim1
  simp only [wp_bind, wp_opd, wp_ret]
theorem wp_prim2 (f g : SE) (φ : D → D → Option O) (s : List O) (Q : Rs → List O → Prop) :
    wpM (prim2 f g φ) s Q = wpM f s fun r s1 => opR r fun r => wpM g s1 fun q s2 => opR q fun q => resO ((vw s2 r).bind fun d => (vw s2 q).bind fun e => φ d e) fun r' => Q r' s2 := by
  unfold prim2
  simp only [wp_bind, wp_opd, wp_ret]
/-! ### arguments -/
theorem wp_aNil (s : List O) (Q : List Rs → List O → Prop) : wpM aNil s Q = Q [] s := by unfold wpM; rfl
theorem wp_aCons (f : SE) (g : SA) (s : List O) (Q : List Rs → List O → Prop) : wpM (aCons f g) s Q = wpM f s fun r s1 => opR r fun r => wpM g s1 fun rs s2 => Q (r :: rs) s2 := by
  unfold aCons
  simp only [wp_bind, wp_opd, wp_pure]
theorem wp_primN (fa : SA) (φ : List D → Option O) (s : List O) (Q : Rs → List O → Prop) : wpM (primN fa φ) s Q = wpM fa s fun rs s1 => resO ((vws s1 rs).bind φ) fun r => Q r s1 := by
  unfold primN
  simp only [wp_bind, wp_ret]
theorem wp_tupS (fa : SA) (s : List O) (Q : Rs → List O → Prop) : wpM (tupS fa) s Q = wpM fa s fun rs s1 => oP (fzs rs) fun ds => fits ds.length ∧ Q (.fz (.tup ds)) s1 := by
  unfold tupS
  rw [wp_bind]
  congr 1
  funext rs s1
  unfold wpM
  cases h : fzs rs with
  | none => simp [oP, h]
  | some ds => by_cases hz : fits ds.length <;> simp [oP, h, hz]
theorem wp_lstS (fa : SA) (s : List O) (Q : Rs → List O → Prop) : wpM (lstS fa) s Q = wpM fa s fun rs s1 => oP (fzs rs) fun ds => fits ds.length ∧ Q (.ow (.lst ds)) s1 := by
  unfold lstS
  rw [wp_bind]
  congr 1
  funext rs s1
  unfold wpM
  cases h : fzs rs with
  | none => simp [oP, h]
  | some ds => by_cases hz : fits ds.length <;> simp [oP, h, hz]
/-! ### slices, tests -/
def iP : Option D → (Int → Prop) → Prop
  | some (.int i), Q => Q i
  | _, _ => False
def bP : Option D → (Bool → Prop) → Prop
  | some (.bl b), Q => Q b
  | _, _ => False
theorem wp_oNone (s : List O) (Q : Option Int → List O → Prop) : wpM oNone s Q = Q none s := by unfold wpM; rfl
theorem wp_oSome (f : SE) (s : List O) (Q : Option Int → List O → Prop) : wpM (oSome f) s Q = wpM f s fun r s1 => opR r fun r => iP (vw s1 r) fun i => Q (some i) s1 := by
  unfold oSome
  rw [wp_bind, wp_opd]
  congr 1
  funext r s1
  congr 1
  funext r'
  unfold wpM iP
  dsimp only
  cases vw s1 r' with
  | none => rfl
  | some d => cases d <;> rfl
theorem wp_slS (f : SE) (lo hi : SO) (s : List O) (Q : Rs → List O → Prop) : wpM (slS f lo hi) s Q = wpM f s fun r s1 => opR r fun r => wpM lo s1 fun l s2 => wpM hi s2 fun u s3 => resO ((vw s3 r).bind (slD l u)) fun r' => Q r' s3 := by
  unfold slS
  simp only [wp_bind, wp_opd, wp_ret]
theorem wp_tstB (f : SE) (s : List O) (Q : Bool → List O → Prop) : wpM (tstB f) s Q = wpM f s fun r s1 => opR r fun r => bP (vw s1 r) fun b => Q b s1 := by
  unfold tstB
  rw [wp_bind, wp_opd]
  congr 1
  funext r s1
  congr 1
  funext r'
  unfold wpM bP boolOf
  dsimp only
  cases h : vw s1 r' with
  | none => rfl
  | some d => cases d <;> rfl
theorem wp_tstU (f : SE) (s : List O) (Q : Bool → List O → Prop) : wpM (tstU f) s Q = wpM f s fun r s1 => opR r fun r => oP ((vw s1 r).bind truD) fun b => Q b s1 := by
  unfold tstU
  rw [wp_bind, wp_opd]
  congr 1
  funext r s1
  congr 1
  funext r'
  unfold wpM
  dsimp only
  cases (vw s1 r').bind truD <;> rfl
theorem wp_tNt (f : ST) (s : List O) (Q : Bool → List O → Prop) : wpM (tNt f) s Q = wpM f s fun b s1 => Q (!b) s1 := by
  unfold tNt
  simp only [wp_bind, wp_pure]
theorem wp_tAn (f g : ST) (s : List O) (Q : Bool → List O → Prop) : wpM (tAn f g) s Q = wpM f s fun b s1 => bif b then wpM g s1 Q else Q false s1 := by
  unfold tAn
  rw [wp_bind]
  congr 1
  funext b s1
  cases b <;> first | rfl | (unfold wpM; rfl) | (unfold wpF; rfl)
theorem wp_tOrr (f g : ST) (s : List O) (Q : Bool → List O → Prop) : wpM (tOrr f g) s Q = wpM f s fun b s1 => bif b then Q true s1 else wpM g s1 Q := by
  unfold tOrr
  rw [wp_bind]
  congr 1
  funext b s1
  cases b <;> first | rfl | (unfold wpM; rfl) | (unfold wpF; rfl)
theorem wp_vNot (f : SE) (s : List O) (Q : Rs → List O → Prop) : wpM (vNot f) s Q = wpM (tstB f) s fun b s1 => Q (.fz (.bl (!b))) s1 := by
  unfold vNot
  simp only [wp_bind, wp_pure]
theorem wp_vAnd (f g : SE) (s : List O) (Q : Rs → List O → Prop) : wpM (vAnd f g) s Q = wpM (tstB f) s fun b s1 => bif b then wpM g s1 Q else Q (.fz (.bl false)) s1 := by
  unfold vAnd
  rw [wp_bind]
  congr 1
  funext b s1
  cases b <;> first | rfl | (unfold wpM; rfl) | (unfold wpF; rfl)
theorem wp_vOr (f g : SE) (s : List O) (Q : Rs → List O → Prop) : wpM (vOr f g) s Q = wpM (tstB f) s fun b s1 => bif b then Q (.fz (.bl true)) s1 else wpM g s1 Q := by
  unfold vOr
  rw [wp_bind]
  congr 1
  funext b s1
  cases b <;> first | rfl | (unfold wpM; rfl) | (unfold wpF; rfl)
theorem wp_ifE (t : ST) (f g : SE) (s : List O) (Q : Rs → List O → Prop) : wpM (ifE t f g) s Q = wpM t s fun b s1 => bif b then wpM f s1 Q else wpM g s1 Q := by
  unfold ifE
  rw [wp_bind]
  congr 1
  funext b s1
  cases b <;> first | rfl | (unfold wpM; rfl) | (unfold wpF; rfl)
theorem wp_chain (f g h : SE) (φ ψ : D → D → Option O) (s : List O) (Q : Rs → List O → Prop) : wpM (chain f g h φ ψ) s Q = wpM f s fun r s1 => opR r fun r => wpM g s1 fun q s2 => opR q fun q =>
    oP (bl? ((vw s2 r).bind fun d => (vw s2 q).bind fun e => φ d e)) fun b => bif b then wpM h s2 (fun z s3 => opR z fun z => resO ((vw s3 q).bind fun d => (vw s3 z).bind fun e => ψ d e) fun r' => Q r' s3) else Q (.fz (.bl false)) s2 := by
  unfold chain
  simp only [wp_bind, wp_opd]
  congr 1
  funext r s1
  congr 1
  funext r'
  congr 1
  funext q s2
  congr 1
  funext q'
  cases hb : bl? ((vw s2 r').bind fun d => (vw s2 q').bind fun e => φ d e) with
  | none => unfold wpM; simp [hb, oP]
  | some b =>
    cases b with
    | false => unfold wpM; simp [hb, oP]
    | true =>
      have e : wpM (fun s => match bl? ((vw s r').bind fun d => (vw s q').bind fun e => φ d e) with
        | some true => M.bind (opd h) (fun r'' s2 => ret ((vw s2 q').bind fun d => (vw s2 r'').bind fun e => ψ d e) s2) s
        | some false => some (.ok (.fz (.bl false)) s)
        | none => none) s2 Q = wpM (M.bind (opd h) fun r'' s2 => ret ((vw s2 q').bind fun d => (vw s2 r'').bind fun e => ψ d e) s2) s2 Q := by
        unfold wpM
        dsimp only
        rw [hb]
      refine Eq.trans e ?_
      simp only [wp_bind, wp_opd, wp_ret, oP, cond_true]
/-! ### calls -/
theorem wp_callS (φ : SF) (fa : SA) (s : List O) (Q : Rs → List O → Prop) : wpM (callS φ fa) s Q = wpM fa s fun rs s1 => (bors rs).Nodup ∧ wpF φ (rs.map (parO s1)) fun o os' => Q (rsO o) (pb s1 rs os') := by
  unfold callS
  rw [wp_bind]
  congr 1
  funext rs s1
  unfold wpM callK wpF
  by_cases hn : (bors rs).Nodup
  · simp only [if_pos hn, hn, true_and]
    cases φ (rs.map (parO s1)) with
    | none => rfl
    | some r => cases r <;> first | rfl | (unfold wpM; rfl) | (unfold wpF; rfl)
  · simp [hn]
theorem wp_callR (φ : SF) (fa : SA) (s : List O) (Q : Rs → List O → Prop) : wpM (callR φ fa) s Q = wpM fa s fun rs s1 => oP (parRs s1 rs) fun os => wpF φ os fun o _ => ∃ d, o = .fz d ∧ flatD d = true ∧ Q (.fz d) s1 := by
  unfold callR
  rw [wp_bind]
  congr 1
  funext rs s1
  unfold wpM callRK wpF
  cases parRs s1 rs with
  | none => rfl
  | some os =>
    simp only [oP]
    cases φ os with
    | none => rfl
    | some r =>
      cases r with
      | ex e s => rfl
      | ok o s =>
        cases o with
        | fz d => by_cases hd : flatD d = true <;> simp [hd]
        | _ => simp
theorem wp_makeS (cls : String) (φ : SF) (fa : SA) (s : List O) (Q : Rs → List O → Prop) (h : wpM fa s fun rs s1 => (bors rs).Nodup ∧ wpF φ (.ins cls [] :: rs.map (parO s1)) fun o os => o = .fz .non ∧ match os with
    | .ins c fs :: os' => Q (.ow (.ins c fs)) (pb s1 rs os')
    | .fz d :: os' => Q (.fz d) (pb s1 rs os')
    | _ => False) : wpM (makeS cls φ fa) s Q := by
  unfold makeS
  rw [wp_bind]
  refine h.mono fun rs s1 h => ?_
  obtain ⟨hn, h⟩ := h
  obtain ⟨o, os, e, rfl, h⟩ := h.ex
  unfold wpM
  dsimp only
  rw [if_pos hn, e]
  cases os with
  | nil => exact h.elim
  | cons o os => cases o <;> first | exact h | exact h.elim
theorem wp_inOwnS (neg : Bool) (cls : String) (φ : SF) (fi fo : SE) (s : List O) (Q : Rs → List O → Prop) (h : wpM fi s fun r s1 => opR r fun r => wpM fo s1 fun q s2 => opR q fun q => isIns cls (vw s2 q) = true ∧ (bors [q, r]).Nodup ∧
    wpF φ [parO s2 q, parO s2 r] fun o os' => ∃ b, o = .fz (.bl b) ∧ Q (.fz (.bl (if neg then !b else b))) (pb s2 [q, r] os')) : wpM (inOwnS neg cls φ fi fo) s Q := by
  unfold inOwnS
  simp only [wp_bind, wp_opd]
  refine h.mono fun r s1 h => ?_
  have key : ∀ r : Rs, (wpM fo s1 fun q s2 => opR q fun q => isIns cls (vw s2 q) = true ∧ (bors [q, r]).Nodup ∧ wpF φ [parO s2 q, parO s2 r] fun o os' => ∃ b, o = .fz (.bl b) ∧ Q (.fz (.bl (if neg then !b else b))) (pb s2 [q, r] os')) →
      wpM fo s1 fun q s2 => opR q fun q => wpM (fun s => if isIns cls (vw s q) = true then (match callK φ [q, r] s with
        | some (.ok (.fz (.bl b)) s') => some (.ok (.fz (.bl (if neg then !b else b))) s')
        | some (.ex e s') => some (.ex e s')
        | _ => none) else none) s2 Q := fun r h => h.mono fun q s2 h => by
    have k2 : ∀ q : Rs, (isIns cls (vw s2 q) = true ∧ (bors [q, r]).Nodup ∧ wpF φ [parO s2 q, parO s2 r] fun o os' => ∃ b, o = .fz (.bl b) ∧ Q (.fz (.bl (if neg then !b else b))) (pb s2 [q, r] os')) →
        wpM (fun s => if isIns cls (vw s q) = true then (match callK φ [q, r] s with
          | some (.ok (.fz (.bl b)) s') => some (.ok (.fz (.bl (if neg then !b else b))) s')
          | some (.ex e s') => some (.ex e s')
          | _ => none) else none) s2 Q := fun q ⟨h1, h2, h3⟩ => by
      obtain ⟨o, os', e, b, rfl, h4⟩ := h3.ex
      unfold wpM
      dsimp only
      rw [if_pos h1]
      unfold callK
      rw [if_pos h2]
      have e' : φ (List.map (parO s2) [q, r]) = some (.ok (.fz (.bl b)) os') := e
      rw [e']
      exact h4
    cases q with
    | fz d => exact k2 _ h
    | bor i => exact k2 _ h
    | ow o =>
      have h : oP o.view fun d => _ := h
      show oP o.view _
      cases hv : o.view with
      | none => rw [hv] at h; exact h
      | some d => rw [hv] at h; exact k2 _ h
  cases r with
  | fz d => exact key _ h
  | bor i => exact key _ h
  | ow o =>
    have h : oP o.view fun d => _ := h
    show oP o.view _
    cases hv : o.view with
    | none => rw [hv] at h; exact h
    | some d => rw [hv] at h; exact key _ h
theorem wp_getOwnS (cls : String) (φ : SF) (fo fi : SE) (s : List O) (Q : Rs → List O → Prop) : wpM (getOwnS cls φ fo fi) s Q = wpM fo s fun r s1 => opR r fun r => wpM fi s1 fun q s2 => opR q fun q => isIns cls (vw s2 r) = true ∧ (bors [r, q]).Nodup ∧
    wpF φ [parO s2 r, parO s2 q] fun o os' => Q (rsO o) (pb s2 [r, q] os') := by
  unfold getOwnS
  simp only [wp_bind, wp_opd]
  congr 1
  funext r s1
  congr 1
  funext r'
  congr 1
  funext q s2
  congr 1
  funext q'
  unfold wpM wpF callK
  dsimp only
  by_cases h1 : isIns cls (vw s2 r') = true
  · by_cases h2 : (bors [r', q']).Nodup
    · simp only [h1, h2, if_true, true_and]
      have : List.map (parO s2) [r', q'] = [parO s2 r', parO s2 q'] := rfl
      rw [this]
      cases φ [parO s2 r', parO s2 q'] with
      | none => rfl
      | some r => cases r <;> first | rfl | (unfold wpM; rfl) | (unfold wpF; rfl)
    · simp [h1, h2]
  · simp [h1]
theorem wp_metS (T : String) (φ : D → List D → Option O) (f : SE) (fa : SA) (s : List O) (Q : Rs → List O → Prop) : wpM (metS T φ f fa) s Q = wpM f s fun r s1 => opR r fun r => (vw s1 r).bind tyD = some T ∧ wpM fa s1 fun rs s2 => resO ((vw s2 r).bind fun d => (vws s2 rs).bind (φ d)) fun r' => Q r' s2 := by
  unfold metS
  simp only [wp_bind, wp_opd]
  congr 1
  funext r s1
  congr 1
  funext r'
  by_cases h : (vw s1 r').bind tyD = some T
  · have : ∀ k : SE, wpM (fun s1 => if (vw s1 r').bind tyD = some T then k s1 else none) s1 Q = wpM k s1 Q := fun k => by unfold wpM; simp [h]
    rw [this]
    simp only [wp_bind, wp_ret, h, true_and]
  · unfold wpM; simp [h]
theorem wp_newD (t : Bool) (s : List O) (Q : Rs → List O → Prop) : wpM (newD t) s Q = Q (.ow (.dct t [])) s := by unfold wpM; rfl
def fP : Rs → (D → Prop) → Prop
  | .fz d, Q => Q d
  | _, _ => False
theorem wp_disp1S (t : Bool) (fk fv : SE) (s : List O) (Q : Rs → List O → Prop) : wpM (disp1S t fk fv) s Q = wpM fk s fun r s1 => opR r fun r => wpM fv s1 fun q s2 => opR q fun q => fP r fun k => fP q fun v => keyOk t k = true ∧ Q (.ow (.dct t [(k, v)])) s2 := by
  unfold disp1S
  simp only [wp_bind, wp_opd]
  congr 1
  funext r s1
  congr 1
  funext r'
  congr 1
  funext q s2
  congr 1
  funext q'
  unfold wpM
  dsimp only
  cases r' <;> cases q' <;> simp [fP]
  rename_i a b
  by_cases h : keyOk t a = true <;> simp [h]
def lP : Option O → (List D → Prop) → Prop
  | some (.lst ds), Q => Q ds
  | _, _ => False
theorem wp_mutL (φ : List D → List D → Option (List D × D)) (i : Nat) (fa : SA) (s : List O) (Q : Rs → List O → Prop) : wpM (mutL φ i fa) s Q = lP (s[i]?) fun _ => wpM fa s fun rs s1 => oP (fzs rs) fun es => lP (s1[i]?) fun ds => oP (φ ds es) fun p => Q (.fz p.2) (s1.set i (.lst p.1)) := by
  unfold mutL
  cases hs : s[i]? with
  | none => unfold wpM; simp [hs, lP]
  | some o =>
    cases o with
    | lst ds0 =>
      have e : wpM (mutL φ i fa) s Q = wpM (M.bind fa (fun rs s1 => match fzs rs, s1[i]? with
        | some es, some (.lst ds) => (match φ ds es with
          | some (ds', d) => some (.ok (.fz d) (s1.set i (.lst ds')))
          | none => none)
        | _, _ => none)) s Q := by
        unfold wpM mutL
        simp only [hs]
        try rfl
      refine Eq.trans e ?_
      rw [wp_bind]
      simp only [lP]
      congr 1
      funext rs s1
      unfold wpM
      dsimp only
      cases h1 : fzs rs with
      | none => simp [oP]
      | some es =>
        cases h2 : s1[i]? with
        | none => simp [oP, lP]
        | some o =>
          cases o with
          | lst ds =>
            cases h3 : φ ds es with
            | none => simp [oP, lP, h3]
            | some p => simp [oP, lP, h3]
          | _ => simp [oP, lP]
    | _ => unfold wpM; simp [hs, lP]
/-! ### statements -/
theorem wp_nilS (s : List O) (Q : Fl → List O → Prop) : wpM nilS s Q = Q .nx s := by unfold wpM; rfl
theorem wp_brkS (s : List O) (Q : Fl → List O → Prop) : wpM brkS s Q = Q .bk s := by unfold wpM; rfl
theorem wp_cntS (s : List O) (Q : Fl → List O → Prop) : wpM cntS s Q = Q .ct s := by unfold wpM; rfl
def nxP : Fl → Prop → (Fl → Prop) → Prop
  | .nx, p, _ => p
  | x, _, q => q x
theorem wp_seqS (f g : SS) (s : List O) (Q : Fl → List O → Prop) : wpM (seqS f g) s Q = wpM f s fun fl s1 => nxP fl (wpM g s1 Q) fun fl => Q fl s1 := by
  unfold seqS
  rw [wp_bind]
  congr 1
  funext fl s1
  cases fl <;> first | rfl | (unfold wpM; rfl) | (unfold wpF; rfl)
theorem wp_exprS (f : SE) (s : List O) (Q : Fl → List O → Prop) : wpM (exprS f) s Q = wpM f s fun _ s1 => Q .nx s1 := by
  unfold exprS
  simp only [wp_bind, wp_pure]
def rtP : Rs → (Rs → Prop) → Prop
  | .bor _, _ => False
  | r, Q => Q r
theorem wp_retS (f : SE) (s : List O) (Q : Fl → List O → Prop) : wpM (retS f) s Q = wpM f s fun r s1 => rtP r fun r => Q (.rt r) s1 := by
  unfold retS
  rw [wp_bind]
  congr 1
  funext r s1
  cases r <;> first | rfl | (unfold wpM; rfl) | (unfold wpF; rfl)
theorem wp_ifS (c : ST) (f g : SS) (s : List O) (Q : Fl → List O → Prop) : wpM (ifS c f g) s Q = wpM c s fun b s1 => bif b then wpM f s1 Q else wpM g s1 Q := by
  unfold ifS
  rw [wp_bind]
  congr 1
  funext b s1
  cases b <;> first | rfl | (unfold wpM; rfl) | (unfold wpF; rfl)
theorem wp_setS (i : Nat) (f : SE) (s : List O) (Q : Fl → List O → Prop) : wpM (setS i f) s Q = wpM f s fun r s1 => oP r.o fun o => Q .nx (s1.set i o) := by
  unfold setS
  rw [wp_bind]
  congr 1
  funext r s1
  unfold wpM
  dsimp only
  cases r.o <;> rfl
theorem wp_putS (i : Nat) (fx fv : SE) (s : List O) (Q : Fl → List O → Prop) : wpM (putS i fx fv) s Q = wpM fv s fun r s1 => opR r fun r => ownS s1 i = true ∧ wpM fx s1 fun q s2 => opR q fun q => fP r fun v => fP q fun x => oP (s2[i]?) fun o => oP (putD o x v) fun o' => Q .nx (s2.set i o') := by
  unfold putS
  simp only [wp_bind, wp_opd]
  congr 1
  funext r s1
  congr 1
  funext r'
  by_cases h : ownS s1 i = true
  · have : ∀ k : SS, wpM (fun s1 => if ownS s1 i = true then k s1 else none) s1 Q = wpM k s1 Q := fun k => by unfold wpM; simp [h]
    rw [this]
    simp only [wp_bind, wp_opd, h, true_and]
    congr 1
    funext q s2
    congr 1
    funext q'
    unfold wpM
    dsimp only
    cases r' <;> cases q' <;> simp [fP]
    cases h2 : s2[i]? with
    | none => simp [oP]
    | some o =>
      rename_i a b
      cases h3 : putD o b a <;> simp [oP, h3]
  · unfold wpM; simp [h]
def fsP : Option O → String → (List (String × D) → Prop) → Prop
  | some (.ins c fs), c', Q => c = c' ∧ fs.length < 1000 ∧ Q fs
  | _, _, _ => False
theorem wp_fldS (i : Nat) (c f : String) (fe : SE) (s : List O) (Q : Fl → List O → Prop) : wpM (fldS i c f fe) s Q = wpM fe s fun r s1 => opR r fun r => fP r fun v => fsP (s1[i]?) c fun fs => Q .nx (s1.set i (.ins c (fput f v fs))) := by
  unfold fldS
  simp only [wp_bind, wp_opd]
  congr 1
  funext r s1
  congr 1
  funext r'
  unfold wpM
  dsimp only
  cases r' <;> simp [fP]
  cases h2 : s1[i]? with
  | none => simp [fsP]
  | some o =>
    cases o with
    | ins c' fs =>
      by_cases h3 : c' = c
      · by_cases h4 : fs.length < 1000 <;> simp [fsP, h3, h4]
      · simp [fsP, h3]
    | _ => simp [fsP]
theorem wp_tgtS (f : SE) (g : SG) (s : List O) (Q : Fl → List O → Prop) : wpM (tgtS f g) s Q = wpM f s fun r s1 => opR r fun r => fP r fun d => oP (g d s1) fun s' => Q .nx s' := by
  unfold tgtS
  simp only [wp_bind, wp_opd]
  congr 1
  funext r s1
  congr 1
  funext r'
  unfold wpM
  dsimp only
  cases r' <;> simp [fP]
  rename_i d
  cases g d s1 <;> simp [oP]
end Ev
-- EvW
set_option Elab.async false
set_option linter.all false
set_option maxRecDepth 100000
set_option maxHeartbeats 2000000
namespace Ev
open PySem L2

/-! ## loops and defs -/
theorem wp_srcS (f : SE) (s : List O) (Q : List D → List O → Prop) : wpM (srcS f) s Q = wpM f s fun r s1 => opR r fun r => fP r fun d => oP (iterD d) fun ds => Q ds s1 := by
  unfold srcS
  simp only [wp_bind, wp_opd]
  congr 1
  funext r s1
  congr 1
  funext r'
  unfold wpM
  dsimp only
  cases r' <;> simp [fP]
  rename_i d
  cases iterD d <;> simp [oP]
theorem wp_rngS (φ : List D → Option (List D)) (fa : SA) (s : List O) (Q : List D → List O → Prop) : wpM (rngS φ fa) s Q = wpM fa s fun rs s1 => oP ((vws s1 rs).bind φ) fun ds => Q ds s1 := by
  unfold rngS
  rw [wp_bind]
  congr 1
  funext rs s1
  unfold wpM
  dsimp only
  cases (vws s1 rs).bind φ <;> simp [oP]
theorem wp_srcN (φ : List D → Option (List D)) (fa : SA) (s : List O) (Q : List D → List O → Prop) : wpM (srcN φ fa) s Q = wpM fa s fun rs s1 => oP ((fzs rs).bind φ) fun ds => Q ds s1 := by
  unfold srcN
  rw [wp_bind]
  congr 1
  funext rs s1
  unfold wpM
  dsimp only
  cases (fzs rs).bind φ <;> simp [oP]
/-- for: I i s holds ahead of the i-th turn -/
theorem wp_forN {tg : SG} {b : SS} {er : List Nat} {Q : Fl → List O → Prop} (I : Nat → List O → Prop) : ∀ (ds : List D) (i : Nat) (s : List O), I i s →
    (∀ j d s, ds[j]? = some d → I (i + j) s → oP (tg d s) fun s1 => wpM b s1 fun fl s2 => match fl with
      | .nx => I (i + j + 1) (eraseS er s2)
      | .ct => I (i + j + 1) (eraseS er s2)
      | .bk => Q .nx (eraseS er s2)
      | .rt r => Q (.rt r) s2) → (∀ s, I (i + ds.length) s → Q .nx s) → wpM (forN tg b er ds) s Q
  | [], i, s, h, _, fin => by
    unfold wpM
    show Q .nx s
    exact fin s h
  | d :: ds, i, s, h, turn, fin => by
    have t := turn 0 d s rfl h
    unfold wpM forN
    cases ht : tg d s with
    | none => rw [ht] at t; exact t.elim
    | some s1 =>
      rw [ht] at t
      simp only [oP] at t
      obtain ⟨fl, s2, e, k⟩ := t.ex
      simp only [e]
      have rcr : I (i + 1) (eraseS er s2) → wpM (forN tg b er ds) (eraseS er s2) Q := fun h' =>
        wp_forN I ds (i + 1) _ h' (fun j d s hj hi => by
          have := turn (j + 1) d s (by simpa using hj) (by rw [show i + (j + 1) = i + 1 + j by omega]; exact hi)
          rw [show i + (j + 1) + 1 = i + 1 + j + 1 by omega] at this
          exact this) fun s hs => fin s (by rw [List.length_cons, show i + (ds.length + 1) = i + 1 + ds.length by omega]; exact hs)
      cases fl with
      | nx => have z := rcr k; unfold wpM at z; exact z
      | ct => have z := rcr k; unfold wpM at z; exact z
      | bk => exact k
      | rt r => exact k
theorem wp_forS {src : SI} {tg : SG} {b : SS} {er : List Nat} {s : List O} {Q : Fl → List O → Prop} (h : wpM src s fun ds s1 => ∃ I : Nat → List O → Prop, I 0 (eraseS er s1) ∧
    (∀ j d s, ds[j]? = some d → I j s → oP (tg d s) fun s1 => wpM b s1 fun fl s2 => match fl with
      | .nx => I (j + 1) (eraseS er s2)
      | .ct => I (j + 1) (eraseS er s2)
      | .bk => Q .nx (eraseS er s2)
      | .rt r => Q (.rt r) s2) ∧ ∀ s, I ds.length s → Q .nx s) : wpM (forS src tg b er) s Q := by
  unfold forS
  rw [wp_bind]
  refine h.mono fun ds s1 ⟨I, h0, turn, fin⟩ => ?_
  have z : ∀ s, wpM (fun s => forN tg b er ds (eraseS er s)) s Q = wpM (forN tg b er ds) (eraseS er s) Q := fun s => by unfold wpM; rfl
  rw [z]
  exact wp_forN I ds 0 _ h0 (fun j d s hj hi => by simpa using turn j d s hj (by simpa using hi)) fun s hs => fin s (by simpa using hs)
/-- while: I n s, n gets smaller -/
theorem whileN_succ (c : ST) (b : SS) (n : Nat) : whileN c b (n + 1) = M.bind c fun t => if t = true then M.bind b fun fl => match fl with
      | .nx => whileN c b n
      | .ct => whileN c b n
      | .bk => M.pure .nx
      | .rt r => M.pure (.rt r)
    else M.pure .nx := rfl
theorem whileN_step {c : ST} {b : SS} {s s1 s2 : List O} {fl : Fl} (e : c s = some (.ok true s1)) (e2 : b s1 = some (.ok fl s2)) (m : Nat) : whileN c b (m + 1) s = (match fl with
    | .nx => whileN c b m
    | .ct => whileN c b m
    | .bk => M.pure .nx
    | .rt r => M.pure (.rt r)) s2 := by
  rw [whileN_succ, M.bind_eq, e]
  simp only [if_true]
  rw [M.bind_eq, e2]
theorem wp_whileS {c : ST} {b : SS} {s : List O} {Q : Fl → List O → Prop} (I : Nat → List O → Prop) (n : Nat) (h0 : I n s) (turn : ∀ n s, I n s → wpM c s fun t s1 => bif t then wpM b s1 (fun fl s2 => match fl with
      | .nx => ∃ m, m < n ∧ I m s2
      | .ct => ∃ m, m < n ∧ I m s2
      | .bk => Q .nx s2
      | .rt r => Q (.rt r) s2) else Q .nx s1) : wpM (whileS c b) s Q := by
  have main : ∀ n s, I n s → ∃ m fl s', whileN c b m s = some (.ok fl s') ∧ Q fl s' := by
    intro n
    induction n using Nat.strongRecOn with
    | ind n ih =>
      intro s h
      obtain ⟨t, s1, e, k⟩ := (turn n s h).ex
      cases t with
      | false => exact ⟨1, .nx, s1, by rw [whileN_succ, M.bind_eq, e]; rfl, k⟩
      | true =>
        obtain ⟨fl, s2, e2, k⟩ := k.ex
        have fin := whileN_step (c := c) (b := b) e e2
        cases fl with
        | nx =>
          obtain ⟨m, hm, k⟩ := k
          obtain ⟨m', fl', s', q1, q2⟩ := ih m hm s2 k
          exact ⟨m' + 1, fl', s', by rw [fin m']; exact q1, q2⟩
        | ct =>
          obtain ⟨m, hm, k⟩ := k
          obtain ⟨m', fl', s', q1, q2⟩ := ih m hm s2 k
          exact ⟨m' + 1, fl', s', by rw [fin m']; exact q1, q2⟩
        | bk => exact ⟨1, .nx, s2, by rw [fin 0]; rfl, k⟩
        | rt r => exact ⟨1, .rt r, s2, by rw [fin 0]; rfl, k⟩
  obtain ⟨m, fl, s', e, q⟩ := main n s h0
  exact .of (whileS_of e) q
/-- a list comprehension: I i acc s ahead of the i-th turn -/
theorem wp_lcN {tg : SG} {tt : ST} {te : SE} {vs : List Nat} {Q : List D → List O → Prop} (I : Nat → List D → List O → Prop) : ∀ (ds : List D) (i : Nat) (acc : List D) (s : List O), I i acc s →
    (∀ j d acc s, ds[j]? = some d → I (i + j) acc s → oP (tg d s) fun s1 => wpM tt s1 fun b s2 => bif b then wpM te s2 (fun r s3 => opR r fun r => fP r fun y => I (i + j + 1) (acc ++ [y]) (eraseS vs s3)) else I (i + j + 1) acc (eraseS vs s2)) →
    (∀ acc s, I (i + ds.length) acc s → Q acc s) → ∃ l s', lcN tg tt te vs ds s = some (l, s') ∧ Q (acc ++ l) s'
  | [], i, acc, s, h, _, fin => ⟨[], s, rfl, by rw [List.append_nil]; exact fin acc s h⟩
  | d :: ds, i, acc, s, h, turn, fin => by
    have t := turn 0 d acc s rfl h
    unfold lcN
    cases ht : tg d s with
    | none => rw [ht] at t; exact t.elim
    | some s1 =>
      rw [ht] at t
      simp only [oP] at t
      obtain ⟨b, s2, e, k⟩ := t.ex
      simp only [e]
      have rcr : ∀ acc' s', I (i + 1) acc' s' → ∃ l s2, lcN tg tt te vs ds s' = some (l, s2) ∧ Q (acc' ++ l) s2 := fun acc' s' h' =>
        wp_lcN I ds (i + 1) acc' s' h' (fun j d acc s hj hi => by
          have := turn (j + 1) d acc s (by simpa using hj) (by rw [show i + (j + 1) = i + 1 + j by omega]; exact hi)
          rw [show i + (j + 1) + 1 = i + 1 + j + 1 by omega] at this
          exact this) fun acc s hs => fin acc s (by rw [List.length_cons, show i + (ds.length + 1) = i + 1 + ds.length by omega]; exact hs)
      cases b with
      | false => exact rcr acc _ k
      | true =>
        simp only [cond_true] at k
        have k : wpM (opd te) s2 fun r s3 => fP r fun y => I (i + 1) (acc ++ [y]) (eraseS vs s3) := by rw [wp_opd]; exact k
        obtain ⟨r, s3, e3, k⟩ := k.ex
        cases r with
        | fz y =>
          obtain ⟨l, s4, q1, q2⟩ := rcr _ _ k
          refine ⟨y :: l, s4, ?_, by rw [List.append_assoc] at q2; exact q2⟩
          simp only [e3, q1]
        | bor i => exact k.elim
        | ow o => exact k.elim
theorem wp_lcS {src : SI} {tg : SG} {tt : ST} {te : SE} {vs : List Nat} {s : List O} {Q : Rs → List O → Prop} (h : wpM src s fun ds s1 => ds.length ≤ sizeLine ∧ ∃ I : Nat → List D → List O → Prop, I 0 [] (eraseS vs s1) ∧
    (∀ j d acc s, ds[j]? = some d → I j acc s → oP (tg d s) fun s1 => wpM tt s1 fun b s2 => bif b then wpM te s2 (fun r s3 => opR r fun r => fP r fun y => I (j + 1) (acc ++ [y]) (eraseS vs s3)) else I (j + 1) acc (eraseS vs s2)) ∧
    ∀ acc s, I ds.length acc s → Q (.ow (.lst acc)) s) : wpM (lcS src tg tt te vs) s Q := by
  unfold lcS
  rw [wp_bind]
  refine h.mono fun ds s1 ⟨hz, I, h0, turn, fin⟩ => ?_
  obtain ⟨l, s', e, q⟩ := wp_lcN (Q := fun acc s => Q (.ow (.lst acc)) s) I ds 0 [] _ h0 (fun j d acc s hj hi => by simpa using turn j d acc s hj (by simpa using hi)) fun acc s hs => fin acc s (by simpa using hs)
  unfold wpM
  dsimp only
  rw [if_pos hz, e]
  exact q
/-- .. that only looks: the slots stay, the i-th item gives g d -/
theorem wp_lc_map {tg : SG} {te : SE} {vs : List Nat} {src : SI} {s : List O} {Q : Rs → List O → Prop} (h : wpM src s fun ds s1 => ds.length ≤ sizeLine ∧ ∃ g : D → D, (∀ d ∈ ds, oP (tg d (eraseS vs s1)) fun s2 => wpM te s2 fun r s3 => opR r fun r => fP r fun y => y = g d ∧ eraseS vs s3 = eraseS vs s1) ∧
    Q (.ow (.lst (ds.map g))) (eraseS vs s1)) : wpM (lcS src tg tYesS te vs) s Q := by
  refine wp_lcS (h.mono fun ds s1 ⟨hz, g, turn, q⟩ => ⟨hz, fun i acc s => acc = (ds.take i).map g ∧ s = eraseS vs s1, ⟨by simp, rfl⟩, fun j d acc s hj ⟨ha, hs⟩ => ?_, fun acc s ⟨ha, hs⟩ => ?_⟩)
  · subst hs ha
    have t := turn d (List.mem_of_getElem? hj)
    cases ht : tg d (eraseS vs s1) with
    | none => rw [ht] at t; exact t.elim
    | some s2 =>
      rw [ht] at t
      simp only [oP] at t ⊢
      have z : ∀ Q : Bool → List O → Prop, wpM tYesS s2 Q = Q true s2 := fun Q => by unfold wpM; rfl
      rw [z]
      show wpM te s2 _
      refine t.mono fun r s3 h => ?_
      have fin : ∀ r : Rs, (fP r fun y => y = g d ∧ eraseS vs s3 = eraseS vs s1) → fP r fun y => List.map g (ds.take j) ++ [y] = List.map g (ds.take (j + 1)) ∧ eraseS vs s3 = eraseS vs s1 := fun r h => by
        cases r with
        | fz y =>
          obtain ⟨rfl, h2⟩ := h
          refine ⟨?_, h2⟩
          rw [List.take_add_one, hj]
          simp
        | bor i => exact h
        | ow o => exact h
      cases r with
      | fz y => exact fin (.fz y) h
      | bor i => exact h
      | ow o =>
        have h : oP o.view fun d => _ := h
        show oP o.view _
        cases hv : o.view with
        | none => rw [hv] at h; exact h
        | some d' => rw [hv] at h; exact fin (.fz d') h
  · subst hs ha
    rw [List.take_length]; exact q
/-- a def -/
theorem wp_funS {ios : List Nat} {N : Nat} {b : SS} {os : List O} {Q : O → List O → Prop} (h : wpM b (os ++ List.replicate (N - os.length) .no) fun fl s' => match fl with
    | .nx => Q (.fz .non) (mask ios os.length s')
    | .rt (.fz d) => Q (.fz d) (mask ios os.length s')
    | .rt (.ow o) => Q o (mask ios os.length s')
    | _ => False) : wpF (funS ios N b) os Q := by
  obtain ⟨fl, s', e, k⟩ := h.ex
  unfold wpF funS
  rw [e]
  cases fl with
  | nx => exact k
  | bk => exact k.elim
  | ct => exact k.elim
  | rt r => cases r <;> first | exact k | exact k.elim
end Ev
-- EvX
set_option Elab.async false
set_option linter.all false
set_option maxRecDepth 100000
set_option maxHeartbeats 2000000
namespace Ev
open PySem L2

/-! ## equations for the run of a meaning -/
theorem getB_fz (d : D) (i : Nat) (Q : Rs → Prop) : getB (some (.fz d)) i Q = Q (.fz d) := nr rfl
theorem getB_lst (d : List D) (i : Nat) (Q : Rs → Prop) : getB (some (.lst d)) i Q = Q (.bor i) := nr rfl
theorem getB_dct (t : Bool) (d : List (D × D)) (i : Nat) (Q : Rs → Prop) : getB (some (.dct t d)) i Q = Q (.bor i) := nr rfl
theorem getB_ins (c : String) (d : List (String × D)) (i : Nat) (Q : Rs → Prop) : getB (some (.ins c d)) i Q = Q (.bor i) := nr rfl
theorem getM_fz (d : D) (Q : Rs → Prop) (R : O → Prop) : getM (some (.fz d)) Q R = Q (.fz d) := nr rfl
theorem getM_lst (d : List D) (Q : Rs → Prop) (R : O → Prop) : getM (some (.lst d)) Q R = R (.lst d) := nr rfl
theorem getM_dct (t : Bool) (d : List (D × D)) (Q : Rs → Prop) (R : O → Prop) : getM (some (.dct t d)) Q R = R (.dct t d) := nr rfl
theorem getM_ins (c : String) (d : List (String × D)) (Q : Rs → Prop) (R : O → Prop) : getM (some (.ins c d)) Q R = R (.ins c d) := nr rfl
theorem opR_fz (d : D) (Q : Rs → Prop) : opR (.fz d) Q = Q (.fz d) := nr rfl
theorem opR_bor (i : Nat) (Q : Rs → Prop) : opR (.bor i) Q = Q (.bor i) := nr rfl
theorem opR_lst (d : List D) (Q : Rs → Prop) : opR (.ow (.lst d)) Q = Q (.fz (.lst d)) := nr rfl
theorem opR_dct (t : Bool) (d : List (D × D)) (Q : Rs → Prop) : opR (.ow (.dct t d)) Q = Q (.fz (.dct t d)) := nr rfl
theorem opR_ins (c : String) (d : List (String × D)) (Q : Rs → Prop) : opR (.ow (.ins c d)) Q = Q (.fz (.ins c d)) := nr rfl
theorem resO_fz (d : D) (Q : Rs → Prop) : resO (some (.fz d)) Q = Q (.fz d) := nr rfl
theorem resO_lst (d : List D) (Q : Rs → Prop) : resO (some (.lst d)) Q = Q (.ow (.lst d)) := nr rfl
theorem rsO_fz (d : D) : rsO (.fz d) = .fz d := nr rfl
theorem rsO_lst (d : List D) : rsO (.lst d) = .ow (.lst d) := nr rfl
theorem rsO_dct (t : Bool) (d : List (D × D)) : rsO (.dct t d) = .ow (.dct t d) := nr rfl
theorem rsO_ins (c : String) (d : List (String × D)) : rsO (.ins c d) = .ow (.ins c d) := nr rfl
theorem vw_fz (s : List O) (d : D) : vw s (.fz d) = some d := nr rfl
theorem vw_bor (s : List O) (i : Nat) : vw s (.bor i) = (s[i]?).bind O.view := nr rfl
theorem view_fz (d : D) : O.view (.fz d) = some d := nr rfl
theorem view_lst (d : List D) : O.view (.lst d) = some (.lst d) := nr rfl
theorem view_dct (t : Bool) (d : List (D × D)) : O.view (.dct t d) = some (.dct t d) := nr rfl
theorem view_ins (c : String) (d : List (String × D)) : O.view (.ins c d) = some (.ins c d) := nr rfl
theorem bind_some' {α β : Type} (a : α) (f : α → Option β) : (some a).bind f = f a := nr rfl
theorem vws_nil (s : List O) : vws s [] = some [] := nr rfl
theorem vws_cons (s : List O) (r : Rs) (rs : List Rs) : vws s (r :: rs) = (vw s r).bind fun d => (vws s rs).bind fun ds => some (d :: ds) := by
  rw [vws]
  cases h : vw s r <;> cases h2 : vws s rs <;> rfl
theorem fzs_nil : fzs [] = some [] := nr rfl
theorem fzs_cons (d : D) (rs : List Rs) : fzs (.fz d :: rs) = (fzs rs).bind fun ds => some (d :: ds) := by
  rw [fzs]
  cases fzs rs <;> rfl
theorem bP_bl (b : Bool) (Q : Bool → Prop) : bP (some (.bl b)) Q = Q b := nr rfl
theorem iP_int (b : Int) (Q : Int → Prop) : iP (some (.int b)) Q = Q b := nr rfl
theorem fP_fz (d : D) (Q : D → Prop) : fP (.fz d) Q = Q d := nr rfl
theorem lP_lst (d : List D) (Q : List D → Prop) : lP (some (.lst d)) Q = Q d := nr rfl
theorem nxP_nx (p : Prop) (q : Fl → Prop) : nxP .nx p q = p := nr rfl
theorem nxP_rt (r : Rs) (p : Prop) (q : Fl → Prop) : nxP (.rt r) p q = q (.rt r) := nr rfl
theorem nxP_bk (p : Prop) (q : Fl → Prop) : nxP .bk p q = q .bk := nr rfl
theorem nxP_ct (p : Prop) (q : Fl → Prop) : nxP .ct p q = q .ct := nr rfl
theorem rtP_fz (d : D) (Q : Rs → Prop) : rtP (.fz d) Q = Q (.fz d) := nr rfl
theorem rtP_ow (d : O) (Q : Rs → Prop) : rtP (.ow d) Q = Q (.ow d) := nr rfl
theorem o_fz (d : D) : Rs.o (.fz d) = some (.fz d) := nr rfl
theorem o_ow (o : O) : Rs.o (.ow o) = some o := nr rfl
theorem ownS_lst (s : List O) (i : Nat) {ds : List D} (h : s[i]? = some (.lst ds)) : ownS s i = true := by unfold ownS; rw [h]; rfl
theorem parO_fz (s : List O) (d : D) : parO s (.fz d) = .fz d := nr rfl
theorem parO_bor (s : List O) (i : Nat) : parO s (.bor i) = (s[i]?).getD .no := nr rfl
theorem bors_nil : bors [] = [] := nr rfl
theorem bors_fz (d : D) (r : List Rs) : bors (.fz d :: r) = bors r := nr rfl
theorem bors_bor (i : Nat) (r : List Rs) : bors (.bor i :: r) = i :: bors r := nr rfl
theorem pb_nil (s os : List O) : pb s [] os = s := by cases os <;> rfl
theorem pb_fz (s : List O) (d : D) (r : List Rs) (o : O) (os : List O) : pb s (.fz d :: r) (o :: os) = pb s r os := nr rfl
theorem pb_bor (s : List O) (i : Nat) (r : List Rs) (o : O) (os : List O) : pb s (.bor i :: r) (o :: os) = pb (s.set i o) r os := nr rfl
theorem eraseS_nil (s : List O) : eraseS [] s = s := nr rfl
theorem eraseS_cons (i : Nat) (r : List Nat) (s : List O) : eraseS (i :: r) s = eraseS r (s.set i .no) := nr rfl
theorem nameT_eq (i : Nat) (d : D) (s : List O) : nameT i d s = some (s.set i (.fz d)) := nr rfl
theorem nilT_eq (s : List O) : nilT [] s = some s := nr rfl
theorem consT_eq (g : SG) (gs : SGs) (d : D) (ds : List D) (s : List O) : consT g gs (d :: ds) s = (g d s).bind fun s' => gs ds s' := by
  unfold consT
  dsimp only
  cases g d s <;> rfl
theorem tupT_eq (n : Nat) (gs : SGs) (ds : List D) (s : List O) (h : ds.length = n) : tupT n gs (.tup ds) s = gs ds s := by unfold tupT; simp [h]
theorem tupT2 (gs : SGs) (a b : D) (s : List O) : tupT 2 gs (.tup [a, b]) s = gs [a, b] s := nr rfl
theorem tupT3 (gs : SGs) (a b c : D) (s : List O) : tupT 3 gs (.tup [a, b, c]) s = gs [a, b, c] s := nr rfl
/-! data -/
theorem addD_int (i j : Int) : addD (.int i) (.int j) = some (.fz (.int (i + j))) := nr rfl
theorem subD_int (i j : Int) : subD (.int i) (.int j) = some (.fz (.int (i - j))) := nr rfl
theorem mulD_int (i j : Int) (h : mulOk i j) : mulD (.int i) (.int j) = some (.fz (.int (i * j))) := by unfold mulD; simp [h]
theorem modD_int (i j : Int) (h : 0 < j) : modD (.int i) (.int j) = some (.fz (.int (i % j))) := by unfold modD; simp [h]
theorem fdivD_int (i j : Int) (h : 0 < j) (h2 : j.natAbs.log2 < 9000) : fdivD (.int i) (.int j) = some (.fz (.int (i / j))) := by unfold fdivD; simp [h, h2]
theorem negD_int (i : Int) : negD (.int i) = some (.fz (.int (-i))) := nr rfl
theorem eqD_int (i j : Int) : eqD (.int i) (.int j) = some (.fz (.bl (decide (i = j)))) := nr rfl
theorem eqD_str (i j : Str) : eqD (.str i) (.str j) = some (.fz (.bl (decide (i = j)))) := nr rfl
theorem neD_int (i j : Int) : neD (.int i) (.int j) = some (.fz (.bl (!decide (i = j)))) := nr rfl
theorem neD_str (i j : Str) : neD (.str i) (.str j) = some (.fz (.bl (!decide (i = j)))) := nr rfl
theorem ltD_int (i j : Int) : ltD (.int i) (.int j) = some (.fz (.bl (decide (i < j)))) := nr rfl
theorem leD_int (i j : Int) : leD (.int i) (.int j) = some (.fz (.bl (decide (i ≤ j)))) := nr rfl
theorem gtD_int (i j : Int) : gtD (.int i) (.int j) = some (.fz (.bl (decide (j < i)))) := nr rfl
theorem geD_int (i j : Int) : geD (.int i) (.int j) = some (.fz (.bl (decide (j ≤ i)))) := nr rfl
theorem bl?_bl (b : Bool) : bl? (some (.fz (.bl b))) = some b := nr rfl
theorem lenD_lst (xs : List D) : lenD [.lst xs] = some (.fz (.int xs.length)) := nr rfl
theorem lenD_tup (xs : List D) : lenD [.tup xs] = some (.fz (.int xs.length)) := nr rfl
theorem lenD_dK (xs : List (D × D)) : lenD [.dct false xs] = some (.fz (.int xs.length)) := nr rfl
theorem lenD_str (s : Str) (h : fits s.length) : lenD [.str s] = some (.fz (.int s.length)) := by unfold lenD; simp [h]
theorem intD_int (i : Int) : intD [.int i] = some (.fz (.int i)) := nr rfl
theorem tupleD_lst (xs : List D) : tupleD [.lst xs] = some (.fz (.tup xs)) := nr rfl
theorem tupleD_tup (xs : List D) : tupleD [.tup xs] = some (.fz (.tup xs)) := nr rfl
theorem listD_lst (xs : List D) : listD [.lst xs] = some (.lst xs) := nr rfl
theorem listD_tup (xs : List D) : listD [.tup xs] = some (.lst xs) := nr rfl
theorem listD_dct (xs : List (D × D)) : listD [.dct false xs] = some (.lst (xs.map (·.1))) := nr rfl
theorem idxD_lst (xs : List D) (i : Int) : idxD (.lst xs) (.int i) = (atI xs i).map .fz := nr rfl
theorem idxD_tup (xs : List D) (i : Int) : idxD (.tup xs) (.int i) = (atI xs i).map .fz := nr rfl
theorem ixN_nat {n k : Nat} (h : k < n) : ixN n (k : Int) = some k := by unfold ixN; simp [h]
theorem atI_nat {α : Type} {xs : List α} {k : Nat} {x : α} (h : xs[k]? = some x) : atI xs (k : Int) = some x := by
  unfold atI
  rw [ixN_nat (List.getElem?_eq_some_iff.mp h).1]
  exact h
theorem atI_0 {α : Type} (a : α) (r : List α) : atI (a :: r) 0 = some a := atI_nat (k := 0) rfl
theorem atI_1 {α : Type} (a b : α) (r : List α) : atI (a :: b :: r) 1 = some b := atI_nat (k := 1) rfl
theorem atI_2 {α : Type} (a b c : α) (r : List α) : atI (a :: b :: c :: r) 2 = some c := atI_nat (k := 2) rfl
theorem atI_3 {α : Type} (a b c d : α) (r : List α) : atI (a :: b :: c :: d :: r) 3 = some d := atI_nat (k := 3) rfl
theorem atI_4 {α : Type} (a b c d e : α) (r : List α) : atI (a :: b :: c :: d :: e :: r) 4 = some e := atI_nat (k := 4) rfl
theorem atI_last {α : Type} (xs : List α) (x : α) : atI (xs ++ [x]) (-1) = some x := by
  unfold atI ixN
  have h1 : ¬ (0 ≤ (-1 : Int)) := by decide
  have h2 : -(((xs ++ [x]).length : Nat) : Int) ≤ -1 := by simp; omega
  rw [if_neg h1, if_pos h2]
  have h3 : ((-1 : Int) + ((xs ++ [x]).length : Nat)).toNat = xs.length := by simp; omega
  rw [h3]
  simp
theorem map_some' {α β : Type} (f : α → β) (a : α) : Option.map f (some a) = some (f a) := nr rfl
theorem putD_lst (ds : List D) (k : Nat) (v : D) (h : k < ds.length) : putD (.lst ds) (.int (k : Int)) v = some (.lst (ds.set k v)) := by
  show (ixN ds.length (k : Int)).map _ = _
  rw [ixN_nat h]; rfl
theorem putD_0 (a : D) (r : List D) (v : D) : putD (.lst (a :: r)) (.int 0) v = some (.lst (v :: r)) := putD_lst _ 0 v (by simp)
theorem putD_1 (a b : D) (r : List D) (v : D) : putD (.lst (a :: b :: r)) (.int 1) v = some (.lst (a :: v :: r)) := putD_lst _ 1 v (by simp)
theorem putD_2 (a b c : D) (r : List D) (v : D) : putD (.lst (a :: b :: c :: r)) (.int 2) v = some (.lst (a :: b :: v :: r)) := putD_lst _ 2 v (by simp)
theorem putD_3 (a b c d : D) (r : List D) (v : D) : putD (.lst (a :: b :: c :: d :: r)) (.int 3) v = some (.lst (a :: b :: c :: v :: r)) := putD_lst _ 3 v (by simp)
theorem putD_4 (a b c d e : D) (r : List D) (v : D) : putD (.lst (a :: b :: c :: d :: e :: r)) (.int 4) v = some (.lst (a :: b :: c :: d :: v :: r)) := putD_lst _ 4 v (by simp)
theorem appD_eq (ds : List D) (d : D) (h : ds.length < sizeLine) : appD ds [d] = some (ds ++ [d], .non) := by unfold appD; simp [h]
theorem ownS_c0 (o : O) (s : List O) : ownS (o :: s) 0 = o.own := nr rfl
theorem ownS_cs (o : O) (s : List O) (i : Nat) : ownS (o :: s) (i + 1) = ownS s i := by unfold ownS; simp
theorem own_lst (ds : List D) : O.own (.lst ds) = true := nr rfl
theorem own_dct (t : Bool) (ds : List (D × D)) : O.own (.dct t ds) = true := nr rfl
theorem own_ins (t : String) (ds : List (String × D)) : O.own (.ins t ds) = true := nr rfl
theorem iterD_lst (ds : List D) : iterD (.lst ds) = some ds := nr rfl
theorem iterD_tup (ds : List D) : iterD (.tup ds) = some ds := nr rfl
theorem iterD_scr (ns : List Int) : iterD (.scr ns) = some (ns.map .int) := nr rfl
theorem iterD_str (s : Str) : iterD (.str s) = some (charsD s) := nr rfl
theorem in62_of {n : Nat} (h : n ≤ 1000000) : in62 (n : Int) := by
  unfold in62
  omega
theorem rng1D_eq (n : Nat) (h : n ≤ 1000000) : rng1D [.int (n : Int)] = some ((List.range n).map fun (i : Nat) => D.int (i : Int)) := by
  show (if in62 (n : Int) then some (rangeL 0 1 (n : Int).toNat) else none) = _
  rw [if_pos (in62_of h), Int.toNat_natCast]
  unfold rangeL
  congr 1
  refine List.map_congr_left fun i _ => ?_
  congr 1
  omega
theorem enumD_lst (ds : List D) : enumD [.lst ds] = some (enumL 0 ds) := nr rfl
theorem enumD_tup (ds : List D) : enumD [.tup ds] = some (enumL 0 ds) := nr rfl
theorem tyD_lst (ds : List D) : tyD (.lst ds) = some "list" := nr rfl
theorem tyD_str (s : Str) : tyD (.str s) = some "str" := nr rfl
theorem tyD_dct (t : Bool) (s : List (D × D)) : tyD (.dct t s) = some "dict" := nr rfl
theorem fldD_eq (f : String) (c : String) (fs : List (String × D)) : fldD f (.ins c fs) = (fs.lookup f).map .fz := nr rfl
/-- two statements, what holds between them -/
theorem wp_cut {f g : SS} {s : List O} {Q : Fl → List O → Prop} (P : List O → Prop) (h1 : wpM f s fun fl s1 => nxP fl (P s1) fun fl => Q fl s1) (h2 : ∀ s1, P s1 → wpM g s1 Q) : wpM (seqS f g) s Q := by
  rw [wp_seqS]
  refine h1.mono fun fl s1 h => ?_
  cases fl with
  | nx => exact h2 _ h
  | bk => exact h
  | ct => exact h
  | rt r => exact h
/-- a call -/
theorem wp_callS' {φ : SF} {fa : SA} {s : List O} {Q : Rs → List O → Prop} (h : wpM fa s fun rs s1 => (bors rs).Nodup ∧ wpF φ (rs.map (parO s1)) fun o os' => Q (rsO o) (pb s1 rs os')) : wpM (callS φ fa) s Q := by
  rw [wp_callS]; exact h
theorem bif_split {p : Prop} {_ : Decidable p} {a b : Prop} (h1 : p → a) (h2 : ¬ p → b) : bif decide p then a else b := by
  by_cases h : p
  · simp only [h, decide_true, cond_true]; exact h1 h
  · simp only [h, decide_false, cond_false]; exact h2 h
theorem bifN_split {p : Prop} {_ : Decidable p} {a b : Prop} (h1 : ¬ p → a) (h2 : p → b) : bif !decide p then a else b := by
  by_cases h : p
  · simp only [h, decide_true, Bool.not_true, cond_false]; exact h2 h
  · simp only [h, decide_false, Bool.not_false, cond_true]; exact h1 h
theorem wp_none {α : Type} (s : List O) (Q : α → List O → Prop) : wpM (fun _ => none) s Q = False := by unfold wpM; rfl
/-- how a turn ends -/
def trP (er : List Nat) (P : List O → Prop) (Q : Fl → List O → Prop) : Fl → List O → Prop
  | .nx, s => P (eraseS er s)
  | .ct, s => P (eraseS er s)
  | .bk, s => Q .nx (eraseS er s)
  | .rt r, s => Q (.rt r) s
theorem trP_nx (er : List Nat) (P : List O → Prop) (Q : Fl → List O → Prop) (s : List O) : trP er P Q .nx s = P (eraseS er s) := nr rfl
theorem trP_ct (er : List Nat) (P : List O → Prop) (Q : Fl → List O → Prop) (s : List O) : trP er P Q .ct s = P (eraseS er s) := nr rfl
theorem trP_bk (er : List Nat) (P : List O → Prop) (Q : Fl → List O → Prop) (s : List O) : trP er P Q .bk s = Q .nx (eraseS er s) := nr rfl
theorem trP_rt (er : List Nat) (P : List O → Prop) (Q : Fl → List O → Prop) (r : Rs) (s : List O) : trP er P Q (.rt r) s = Q (.rt r) s := nr rfl
/-- for, the source known -/
theorem wp_for {src : SI} {tg : SG} {b : SS} {er : List Nat} {s : List O} {Q : Fl → List O → Prop} (ds : List D) (s1 : List O) (hsrc : wpM src s fun a b => a = ds ∧ b = s1) (I : Nat → List O → Prop) (h0 : I 0 (eraseS er s1))
    (turn : ∀ j d s, ds[j]? = some d → I j s → oP (tg d s) fun s1 => wpM b s1 (trP er (I (j + 1)) Q)) (fin : ∀ s, I ds.length s → Q .nx s) : wpM (forS src tg b er) s Q := by
  refine wp_forS (hsrc.mono fun a b' ⟨e1, e2⟩ => ?_)
  subst e1 e2
  refine ⟨I, h0, fun j d s hj hi => ?_, fin⟩
  have t := turn j d s hj hi
  cases h : tg d s with
  | none => rw [h] at t; exact t
  | some s2 =>
    rw [h] at t
    refine wpM.mono (show wpM b s2 (trP er (I (j + 1)) Q) from t) fun fl s3 k => ?_
    cases fl <;> exact k
/-- while -/
theorem wp_while {c : ST} {b : SS} {s : List O} {Q : Fl → List O → Prop} (I : Nat → List O → Prop) (n : Nat) (h0 : I n s) (turn : ∀ n s, I n s → wpM c s fun t s1 => bif t then wpM b s1 (trP [] (fun s2 => ∃ m, m < n ∧ I m s2) Q) else Q .nx s1) : wpM (whileS c b) s Q := by
  refine wp_whileS I n h0 fun n s h => (turn n s h).mono fun t s1 k => ?_
  cases t with
  | false => exact k
  | true =>
    refine wpM.mono (show wpM b s1 (trP [] (fun s2 => ∃ m, m < n ∧ I m s2) Q) from k) fun fl s3 k => ?_
    cases fl <;> exact k
/-- [te for tg in src if tt], the source known -/
theorem wp_lc {src : SI} {tg : SG} {tt : ST} {te : SE} {vs : List Nat} {s : List O} {Q : Rs → List O → Prop} (ds : List D) (s1 : List O) (hsrc : wpM src s fun a b => a = ds ∧ b = s1) (hz : ds.length ≤ sizeLine) (I : Nat → List D → List O → Prop) (h0 : I 0 [] (eraseS vs s1))
    (turn : ∀ j d acc s, ds[j]? = some d → I j acc s → oP (tg d s) fun s1 => wpM tt s1 fun b s2 => bif b then wpM te s2 (fun r s3 => opR r fun r => fP r fun y => I (j + 1) (acc ++ [y]) (eraseS vs s3)) else I (j + 1) acc (eraseS vs s2))
    (fin : ∀ acc s, I ds.length acc s → Q (.ow (.lst acc)) s) : wpM (lcS src tg tt te vs) s Q := by
  refine wp_lcS (hsrc.mono fun a b ⟨e1, e2⟩ => ?_)
  subst e1 e2
  exact ⟨hz, I, h0, turn, fin⟩
theorem wp_tYesS (s : List O) (Q : Bool → List O → Prop) : wpM tYesS s Q = Q true s := by unfold wpM; rfl
theorem cutG_from {α : Type} (xs : List α) (j : Nat) : cutG xs (some (j : Int)) none = xs.drop j := by
  unfold cutG
  rw [HT.sIx_nat, HT.sIx_none]
  rw [List.take_of_length_le (by rw [List.length_drop]; exact Nat.le_refl _)]
  by_cases h : j ≤ xs.length
  · rw [Nat.min_eq_left h]
  · rw [Nat.min_eq_right (by omega), List.drop_of_length_le (Nat.le_refl _), List.drop_of_length_le (by omega)]
theorem cutG_to {α : Type} (xs : List α) (j : Nat) : cutG xs none (some (j : Int)) = xs.take j := by
  unfold cutG
  rw [HT.sIx_nat, HT.sIx_none, List.drop_zero, Nat.sub_zero]
  by_cases h : j ≤ xs.length
  · rw [Nat.min_eq_left h]
  · rw [Nat.min_eq_right (by omega), List.take_of_length_le (Nat.le_refl _), List.take_of_length_le (by omega)]
theorem slD_lfrom (ds : List D) (j : Nat) : slD (some (j : Int)) none (.lst ds) = some (.lst (ds.drop j)) := by
  show some (O.lst (cutG ds _ _)) = _
  rw [cutG_from]
theorem slD_lto (ds : List D) (j : Nat) : slD none (some (j : Int)) (.lst ds) = some (.lst (ds.take j)) := by
  show some (O.lst (cutG ds _ _)) = _
  rw [cutG_to]
theorem slD_tfrom (ds : List D) (j : Nat) : slD (some (j : Int)) none (.tup ds) = some (.fz (.tup (ds.drop j))) := by
  show some (O.fz (.tup (cutG ds _ _))) = _
  rw [cutG_from]
theorem slD_t1 (d : D) (ds : List D) : slD (some 1) none (.tup (d :: ds)) = some (.fz (.tup ds)) := slD_tfrom (d :: ds) 1
def retP (ios : List Nat) (n : Nat) (Q : O → List O → Prop) : Fl → List O → Prop
  | .nx, s => Q (.fz .non) (mask ios n s)
  | .rt (.fz d), s => Q (.fz d) (mask ios n s)
  | .rt (.ow o), s => Q o (mask ios n s)
  | _, _ => False
theorem retP_nx (ios : List Nat) (n : Nat) (Q : O → List O → Prop) (s : List O) : retP ios n Q .nx s = Q (.fz .non) (mask ios n s) := nr rfl
theorem retP_fz (ios : List Nat) (n : Nat) (Q : O → List O → Prop) (d : D) (s : List O) : retP ios n Q (.rt (.fz d)) s = Q (.fz d) (mask ios n s) := nr rfl
theorem retP_ow (ios : List Nat) (n : Nat) (Q : O → List O → Prop) (d : O) (s : List O) : retP ios n Q (.rt (.ow d)) s = Q d (mask ios n s) := nr rfl
/-- a def, its slots written out -/
theorem wp_fun {ios : List Nat} {N n : Nat} {b : SS} {os : List O} {Q : O → List O → Prop} (s0 : List O) (h : wpM b s0 (retP ios n Q)) (hl : os.length = n := by rfl) (e : os ++ List.replicate (N - n) .no = s0 := by rfl) : wpF (funS ios N b) os Q := by
  subst hl e
  refine wp_funS (h.mono fun fl s' k => ?_)
  cases fl with
  | nx => exact k
  | bk => exact k
  | ct => exact k
  | rt r => cases r <;> exact k
theorem mask_none (n : Nat) (s : List O) : mask [] n s = List.replicate n .no := by
  unfold mask
  simp only [List.not_mem_nil, if_false]
  rw [List.map_const', List.length_range]
theorem mask_0 (n : Nat) (o : O) (s : List O) : mask [0] (n + 1) (o :: s) = o :: List.replicate n .no := by
  unfold mask
  rw [List.range_succ_eq_map, List.map_cons, List.map_map]
  congr 1
  have e : ∀ i ∈ List.range n, ((fun i => if i ∈ [0] then ((o :: s)[i]?).getD O.no else O.no) ∘ Nat.succ) i = (fun _ => O.no) i := fun i _ => by
    show (if i + 1 ∈ [0] then ((o :: s)[i + 1]?).getD O.no else O.no) = O.no
    rw [if_neg (by simp)]
  rw [List.map_congr_left e, List.map_const', List.length_range]
theorem mask_01 (o : O) (s : List O) : mask [0] 1 (o :: s) = [o] := mask_0 0 o s
theorem mask_02 (o : O) (s : List O) : mask [0] 2 (o :: s) = [o, .no] := mask_0 1 o s
theorem mask_03 (o : O) (s : List O) : mask [0] 3 (o :: s) = [o, .no, .no] := mask_0 2 o s
theorem mask_04 (o : O) (s : List O) : mask [0] 4 (o :: s) = [o, .no, .no, .no] := mask_0 3 o s
theorem mask_05 (o : O) (s : List O) : mask [0] 5 (o :: s) = [o, .no, .no, .no, .no] := mask_0 4 o s
/-- the run of a meaning, all at once -/
def WPx := And.intro (And.intro (And.intro (And.intro (And.intro (And.intro (And.intro (@wp_seqS) (@wp_ifS)) (And.intro (@wp_tstB) (And.intro (@wp_tstU) (@wp_tNt)))) (And.intro (And.intro (@wp_tAn) (@wp_tOrr)) (And.intro (@wp_vNot) (And.intro (@wp_vAnd) (@wp_vOr))))) (And.intro (And.intro (And.intro (@wp_ifE) (@wp_prim1)) (And.intro (@wp_prim2) (And.intro (@wp_primN) (@wp_varB)))) (And.intro (And.intro (@wp_varS) (And.intro (@wp_varM) (@wp_cst))) (And.intro (@wp_aNil) (And.intro (@wp_aCons) (@wp_tupS)))))) (And.intro (And.intro (And.intro (And.intro (@wp_lstS) (@wp_oNone)) (And.intro (@wp_oSome) (And.intro (@wp_slS) (@wp_nilS)))) (And.intro (And.intro (@wp_brkS) (And.intro (@wp_cntS) (@wp_exprS))) (And.intro (@wp_retS) (And.intro (@wp_setS) (@wp_putS))))) (And.intro (And.intro (And.intro (@wp_fldS) (@wp_tgtS)) (And.intro (@wp_mutL) (And.intro (@wp_metS) (@wp_newD)))) (And.intro (And.intro (@wp_disp1S) (And.intro (@wp_callS) (@wp_callR))) (And.intro (@wp_srcS) (And.intro (@wp_rngS) (@wp_srcN))))))) (And.intro (And.intro (And.intro (And.intro (And.intro (@wp_chain) (@wp_getOwnS)) (And.intro (@wp_none) (And.intro (@wp_tYesS) (@trP_nx)))) (And.intro (And.intro (@trP_ct) (@trP_bk)) (And.intro (@trP_rt) (And.intro (@slD_lfrom) (@slD_lto))))) (And.intro (And.intro (And.intro (@slD_tfrom) (@slD_t1)) (And.intro (@getB_fz) (And.intro (@getB_lst) (@getB_dct)))) (And.intro (And.intro (@getB_ins) (And.intro (@getM_fz) (@getM_lst))) (And.intro (@getM_dct) (And.intro (@getM_ins) (@opR_fz)))))) (And.intro (And.intro (And.intro (And.intro (@opR_bor) (@opR_lst)) (And.intro (@opR_dct) (And.intro (@opR_ins) (@resO_fz)))) (And.intro (And.intro (@resO_lst) (And.intro (@rsO_fz) (@rsO_lst))) (And.intro (@rsO_dct) (And.intro (@rsO_ins) (@vw_fz))))) (And.intro (And.intro (And.intro (@vw_bor) (@view_fz)) (And.intro (@view_lst) (And.intro (@view_dct) (@view_ins)))) (And.intro (And.intro (@bind_some') (And.intro (@vws_nil) (@vws_cons))) (And.intro (@fzs_nil) (And.intro (@fzs_cons) (@oP_some)))))))) (And.intro (And.intro (And.intro (And.intro (And.intro (And.intro (@oP_none) (@bP_bl)) (And.intro (@iP_int) (And.intro (@fP_fz) (@lP_lst)))) (And.intro (And.intro (@nxP_nx) (@nxP_rt)) (And.intro (@nxP_bk) (And.intro (@nxP_ct) (@rtP_fz))))) (And.intro (And.intro (And.intro (@rtP_ow) (@o_fz)) (And.intro (@o_ow) (And.intro (@parO_fz) (@parO_bor)))) (And.intro (And.intro (@bors_nil) (And.intro (@bors_fz) (@bors_bor))) (And.intro (@pb_nil) (And.intro (@pb_fz) (@pb_bor)))))) (And.intro (And.intro (And.intro (And.intro (@eraseS_nil) (@eraseS_cons)) (And.intro (@nameT_eq) (And.intro (@nilT_eq) (@consT_eq)))) (And.intro (And.intro (@tupT2) (And.intro (@tupT3) (@addD_int))) (And.intro (@subD_int) (And.intro (@negD_int) (@eqD_int))))) (And.intro (And.intro (And.intro (@eqD_str) (@neD_int)) (And.intro (@neD_str) (And.intro (@ltD_int) (@leD_int)))) (And.intro (And.intro (@gtD_int) (And.intro (@geD_int) (@bl?_bl))) (And.intro (@lenD_lst) (And.intro (@lenD_tup) (@lenD_dK))))))) (And.intro (And.intro (And.intro (And.intro (And.intro (@intD_int) (@tupleD_lst)) (And.intro (@tupleD_tup) (And.intro (@listD_lst) (@listD_tup)))) (And.intro (And.intro (@listD_dct) (@idxD_lst)) (And.intro (@idxD_tup) (And.intro (@atI_0) (@atI_1))))) (And.intro (And.intro (And.intro (@atI_2) (@atI_3)) (And.intro (@atI_4) (And.intro (@map_some') (@putD_0)))) (And.intro (And.intro (@putD_1) (And.intro (@putD_2) (@putD_3))) (And.intro (@putD_4) (And.intro (@ownS_c0) (@ownS_cs)))))) (And.intro (And.intro (And.intro (And.intro (@own_lst) (@own_dct)) (And.intro (@own_ins) (And.intro (@iterD_lst) (@iterD_tup)))) (And.intro (And.intro (@iterD_scr) (And.intro (@iterD_str) (@enumD_lst))) (And.intro (@enumD_tup) (And.intro (@tyD_lst) (@tyD_str))))) (And.intro (And.intro (And.intro (@tyD_dct) (@fldD_eq)) (And.intro (@retP_nx) (And.intro (@retP_fz) (@retP_ow)))) (And.intro (And.intro (@mask_none) (And.intro (@mask_01) (@mask_02))) (And.intro (@mask_03) (And.intro (@mask_04) (@mask_05))))))))
end Ev
-- P1
set_option Elab.async false
set_option linter.all false
set_option maxRecDepth 100000
set_option maxHeartbeats 2000000
namespace Ev
open PySem L2

theorem sizeL : sizeLine = 16777216 := by decide
/-! ## an order that < and != tell -/
structure TO {α : Type} (enc : α → D) (lt : α → α → Bool) : Prop where
  lt_ : ∀ a b, ltD (enc a) (enc b) = some (.fz (.bl (lt a b)))
  ne_ : ∀ a b, ∃ c : Bool, neD (enc a) (enc b) = some (.fz (.bl c)) ∧ (c = false ↔ a = b)
  irr : ∀ a, lt a a = false
  trans : ∀ a b c, lt a b = true → lt b c = true → lt a c = true
  tot : ∀ a b, lt a b = false → lt b a = false → a = b
section
variable {α : Type} {enc : α → D} {lt : α → α → Bool}
/-- a ≤ b -/
def le_ (lt : α → α → Bool) (a b : α) : Prop := lt b a = false
theorem TO.asymm (t : TO enc lt) {a b : α} (h : lt a b = true) : lt b a = false := by
  cases h2 : lt b a with
  | false => rfl
  | true => have := t.trans _ _ _ h h2; rw [t.irr] at this; cases this
theorem TO.le_trans (t : TO enc lt) {a b c : α} (h : le_ lt a b) (h2 : le_ lt b c) : le_ lt a c := by
  unfold le_ at *
  cases h3 : lt c a with
  | false => rfl
  | true =>
    cases h4 : lt a b with
    | true => rw [t.trans _ _ _ h3 h4] at h2; cases h2
    | false => rw [t.tot _ _ h4 h] at h3; rw [h3] at h2; cases h2
theorem TO.le_of_lt (t : TO enc lt) {a b : α} (h : lt a b = true) : le_ lt a b := t.asymm h
theorem TO.le_refl (t : TO enc lt) (a : α) : le_ lt a a := t.irr a
abbrev Srt (lt : α → α → Bool) (l : List α) : Prop := l.Pairwise (le_ lt)
abbrev SSrt (lt : α → α → Bool) (l : List α) : Prop := l.Pairwise fun a b => lt a b = true
/-- two lists in strict order with the same members are the same -/
theorem TO.unique (t : TO enc lt) : ∀ {l m : List α}, SSrt lt l → SSrt lt m → (∀ a, a ∈ l ↔ a ∈ m) → l = m
  | [], [], _, _, _ => rfl
  | [], b :: m, _, _, h => absurd ((h b).mpr List.mem_cons_self) (by simp)
  | a :: l, [], _, _, h => absurd ((h a).mp List.mem_cons_self) (by simp)
  | a :: l, b :: m, hl, hm, h => by
    have hl' := List.pairwise_cons.mp hl
    have hm' := List.pairwise_cons.mp hm
    have e : a = b := by
      rcases List.mem_cons.mp ((h a).mp List.mem_cons_self) with q | q
      · exact q
      · rcases List.mem_cons.mp ((h b).mpr List.mem_cons_self) with q2 | q2
        · exact q2.symm
        · have h1 := hm'.1 a q
          have h2 := hl'.1 b q2
          rw [t.asymm h1] at h2; cases h2
    subst e
    have ih := t.unique hl'.2 hm'.2 fun x => by
      constructor
      · intro hx
        rcases List.mem_cons.mp ((h x).mp (List.mem_cons_of_mem _ hx)) with q | q
        · subst q; have := hl'.1 _ hx; rw [t.irr] at this; cases this
        · exact q
      · intro hx
        rcases List.mem_cons.mp ((h x).mpr (List.mem_cons_of_mem _ hx)) with q | q
        · subst q; have := hm'.1 _ hx; rw [t.irr] at this; cases this
        · exact q
    rw [ih]
theorem merged_ok (t : TO enc lt) (f g : List α) (hf : Srt lt f) (hg : Srt lt g) (hz : f.length + g.length ≤ 1000000) :
    wpF f_merged [.fz (.lst (f.map enc)), .fz (.lst (g.map enc))] fun r os => ∃ m : List α, r = .lst (m.map enc) ∧ os = [.no, .no] ∧ m.Perm (f ++ g) ∧ Srt lt m := by
  refine wp_fun [.fz (.lst (f.map enc)), .fz (.lst (g.map enc)), .no, .no, .no] ?_
  unfold b_merged
  have hsz := sizeL
  refine wp_cut (fun s => s = [.fz (.lst (f.map enc)), .fz (.lst (g.map enc)), .lst [], .no, .no]) (by simp only [WPx, cond_true, cond_false, List.getElem?_cons_succ, List.getElem?_cons_zero, List.set_cons_succ, List.set_cons_zero, List.map_cons, List.map_nil, Option.getD_some, List.nodup_nil, true_and, and_true]; exact Nat.zero_le _) ?_
  rintro _ rfl
  refine wp_cut (fun s => s = [.fz (.lst (f.map enc)), .fz (.lst (g.map enc)), .lst [], .fz (.int 0), .no]) (by simp only [WPx, cond_true, cond_false, List.getElem?_cons_succ, List.getElem?_cons_zero, List.set_cons_succ, List.set_cons_zero, List.map_cons, List.map_nil, Option.getD_some, List.nodup_nil, true_and, and_true]) ?_
  rintro _ rfl
  refine wp_cut (fun s => ∃ (j : Nat) (r : List α), j ≤ g.length ∧ s = [.fz (.lst (f.map enc)), .fz (.lst (g.map enc)), .lst (r.map enc), .fz (.int j), .no] ∧ r.Perm (f ++ g.take j) ∧ Srt lt r ∧ ∀ x ∈ r, ∀ y ∈ g.drop j, le_ lt x y) ?_ ?_
  · refine wp_for (f.map enc) [.fz (.lst (f.map enc)), .fz (.lst (g.map enc)), .lst [], .fz (.int 0), .no] (by simp only [WPx, cond_true, cond_false, List.getElem?_cons_succ, List.getElem?_cons_zero, List.set_cons_succ, List.set_cons_zero, List.map_cons, List.map_nil, Option.getD_some, List.nodup_nil, true_and, and_true]) (fun i s => ∃ (j : Nat) (r : List α), j ≤ g.length ∧ s = [.fz (.lst (f.map enc)), .fz (.lst (g.map enc)), .lst (r.map enc), .fz (.int j), .no] ∧ r.Perm (f.take i ++ g.take j) ∧ Srt lt r ∧ (∀ x ∈ r, ∀ y ∈ f.drop i, le_ lt x y) ∧ ∀ x ∈ r, ∀ y ∈ g.drop j, le_ lt x y)
      ⟨0, [], Nat.zero_le _, rfl, by simp, .nil, by simp, by simp⟩ ?_ ?_
    · rintro i d s hd ⟨j, r, hj, rfl, hp, hs, h1, h2⟩
      rw [List.getElem?_map] at hd
      obtain ⟨x, hx, rfl⟩ := Option.map_eq_some_iff.mp hd
      have hi : i < f.length := (List.getElem?_eq_some_iff.mp hx).1
      have ed : f.drop i = x :: f.drop (i + 1) := by rw [List.drop_eq_getElem_cons hi]; congr 1; exact (List.getElem?_eq_some_iff.mp hx).2
      have hf' : ∀ y ∈ f.drop (i + 1), le_ lt x y := (List.pairwise_cons.mp (ed ▸ hf.drop)).1
      have hlen : r.length = i + j := by rw [hp.length_eq]; simp; omega
      simp only [nameT_eq, oP_some, List.set_cons_succ, List.set_cons_zero]
      refine wp_cut (fun s => ∃ (j : Nat) (r : List α), j ≤ g.length ∧ s = [.fz (.lst (f.map enc)), .fz (.lst (g.map enc)), .lst (r.map enc), .fz (.int j), .fz (enc x)] ∧ r.Perm (f.take i ++ g.take j) ∧ Srt lt r ∧ (∀ x ∈ r, ∀ y ∈ f.drop i, le_ lt x y) ∧ (∀ x ∈ r, ∀ y ∈ g.drop j, le_ lt x y) ∧ ∀ y ∈ g.drop j, le_ lt x y) ?_ ?_
      · refine wp_while (fun n s => ∃ (j : Nat) (r : List α), j ≤ g.length ∧ n = g.length - j ∧ s = [.fz (.lst (f.map enc)), .fz (.lst (g.map enc)), .lst (r.map enc), .fz (.int j), .fz (enc x)] ∧ r.Perm (f.take i ++ g.take j) ∧ Srt lt r ∧ (∀ x ∈ r, ∀ y ∈ f.drop i, le_ lt x y) ∧ ∀ x ∈ r, ∀ y ∈ g.drop j, le_ lt x y)
          (g.length - j) ⟨j, r, hj, rfl, rfl, hp, hs, h1, h2⟩ ?_
        rintro n s ⟨j, r, hj, rfl, rfl, hp, hs, h1, h2⟩
        have hlen : r.length = i + j := by rw [hp.length_eq]; simp; omega
        simp only [WPx, cond_true, cond_false, List.getElem?_cons_succ, List.getElem?_cons_zero, List.set_cons_succ, List.set_cons_zero, List.map_cons, List.map_nil, Option.getD_some, List.nodup_nil, true_and, and_true]
        simp only [List.length_map]
        refine bif_split (fun q => ?_) fun q => ?_
        · have hjl : j < g.length := by omega
          have e : atI (g.map enc) (j : Int) = some (enc g[j]) := atI_nat (by simp [hjl])
          simp only [e, WPx, cond_true, cond_false, List.getElem?_cons_succ, List.getElem?_cons_zero, List.set_cons_succ, List.set_cons_zero, List.map_cons, List.map_nil, Option.getD_some, List.nodup_nil, true_and, and_true, t.lt_]
          have edg : g.drop j = g[j] :: g.drop (j + 1) := List.drop_eq_getElem_cons hjl
          have hg' : ∀ y ∈ g.drop (j + 1), le_ lt g[j] y := (List.pairwise_cons.mp (edg ▸ hg.drop)).1
          cases hlt : lt g[j] x with
          | true =>
            simp only [cond_true]
            rw [appD_eq _ _ (by simp; omega)]
            simp only [WPx, cond_true, cond_false, List.getElem?_cons_succ, List.getElem?_cons_zero, List.set_cons_succ, List.set_cons_zero, List.map_cons, List.map_nil, Option.getD_some, List.nodup_nil, true_and, and_true]
            refine ⟨g.length - (j + 1), by omega, j + 1, r ++ [g[j]], by omega, rfl, by simp, ?_, ?_, ?_, ?_⟩
            · rw [List.take_add_one, List.getElem?_eq_getElem hjl]
              simp only [Option.toList_some, ← List.append_assoc]
              exact hp.append_right _
            · exact List.pairwise_append.mpr ⟨hs, List.pairwise_singleton _ _, fun a ha b hb => by
                rw [List.mem_singleton.mp hb]; exact h2 a ha _ (edg ▸ List.mem_cons_self)⟩
            · intro a ha y hy
              rcases List.mem_append.mp ha with ha | ha
              · exact h1 a ha y hy
              · rw [List.mem_singleton.mp ha]
                rw [ed] at hy
                have hxy : le_ lt x y := by
                  rcases List.mem_cons.mp hy with e | hy
                  · rw [e]; exact t.le_refl x
                  · exact hf' y hy
                exact t.le_trans (t.le_of_lt hlt) hxy
            · intro a ha y hy
              rcases List.mem_append.mp ha with ha | ha
              · exact h2 a ha y (edg ▸ List.mem_cons_of_mem _ hy)
              · rw [List.mem_singleton.mp ha]; exact hg' y hy
          | false =>
            simp only [cond_false, WPx, cond_true, cond_false, List.getElem?_cons_succ, List.getElem?_cons_zero, List.set_cons_succ, List.set_cons_zero, List.map_cons, List.map_nil, Option.getD_some, List.nodup_nil, true_and, and_true]
            refine ⟨j, r, hj, rfl, hp, hs, h1, h2, fun y hy => ?_⟩
            rw [edg] at hy
            rcases List.mem_cons.mp hy with e | hy
            · rw [e]; exact hlt
            · exact t.le_trans hlt (hg' y hy)
        · have hjl : j = g.length := by omega
          subst hjl
          exact ⟨g.length, r, Nat.le_refl _, rfl, hp, hs, h1, h2, by simp⟩
      · rintro _ ⟨j, r, hj, rfl, hp, hs, h1, h2, h3⟩
        have hlen : r.length = i + j := by rw [hp.length_eq]; simp; omega
        simp only [WPx, cond_true, cond_false, List.getElem?_cons_succ, List.getElem?_cons_zero, List.set_cons_succ, List.set_cons_zero, List.map_cons, List.map_nil, Option.getD_some, List.nodup_nil, true_and, and_true]
        rw [appD_eq _ _ (by simp; omega)]
        simp only [WPx, cond_true, cond_false, List.getElem?_cons_succ, List.getElem?_cons_zero, List.set_cons_succ, List.set_cons_zero, List.map_cons, List.map_nil, Option.getD_some, List.nodup_nil, true_and, and_true]
        refine ⟨j, r ++ [x], hj, by simp, ?_, ?_, ?_, ?_⟩
        · rw [List.take_add_one, hx]
          simp only [Option.toList_some, List.append_assoc]
          refine (hp.append_right _).trans ?_
          rw [List.append_assoc]
          exact List.perm_append_comm.append_left _
        · exact List.pairwise_append.mpr ⟨hs, List.pairwise_singleton _ _, fun a ha b hb => by
            rw [List.mem_singleton.mp hb]; exact h1 a ha _ (ed ▸ List.mem_cons_self)⟩
        · intro a ha y hy
          rcases List.mem_append.mp ha with ha | ha
          · exact h1 a ha y (ed ▸ List.mem_cons_of_mem _ hy)
          · rw [List.mem_singleton.mp ha]; exact hf' y hy
        · intro a ha y hy
          rcases List.mem_append.mp ha with ha | ha
          · exact h2 a ha y hy
          · rw [List.mem_singleton.mp ha]; exact h3 y hy
    · rintro s ⟨j, r, hj, rfl, hp, hs, h1, h2⟩
      simp only [nxP_nx]
      rw [List.length_map, List.take_length] at hp
      exact ⟨j, r, hj, rfl, hp, hs, h2⟩
  · rintro _ ⟨j, r, hj, rfl, hp, hs, h2⟩
    have hlen : r.length = f.length + j := by rw [hp.length_eq]; simp; omega
    simp only [WPx, cond_true, cond_false, List.getElem?_cons_succ, List.getElem?_cons_zero, List.set_cons_succ, List.set_cons_zero, List.map_cons, List.map_nil, Option.getD_some, List.nodup_nil, true_and, and_true]
    have ea : addD (.lst (r.map enc)) (.lst ((g.map enc).drop j)) = some (.lst ((r ++ g.drop j).map enc)) := by
      show (if fits _ then _ else none) = _
      rw [if_pos (by simp [fits]; omega)]
      simp
    rw [ea]
    simp only [WPx, cond_true, cond_false, List.getElem?_cons_succ, List.getElem?_cons_zero, List.set_cons_succ, List.set_cons_zero, List.map_cons, List.map_nil, Option.getD_some, List.nodup_nil, true_and, and_true]
    refine ⟨r ++ g.drop j, rfl, rfl, ?_, ?_⟩
    · refine (hp.append_right _).trans ?_
      rw [List.append_assoc, List.take_append_drop]
    · exact List.pairwise_append.mpr ⟨hs, hg.drop, h2⟩
theorem rng3D_02 (m : Nat) (h1 : 0 < m) (h : m < 1000000) : rng3D [.int 0, .int ((m : Int) - 1), .int 2] = some ((List.range (m / 2)).map fun i => .int ((2 * i : Nat) : Int)) := by
  have e : Builtin.Range.rangeSize 0 ((m : Int) - 1) 2 = ((m / 2 : Nat) : Int) := by
    unfold Builtin.Range.rangeSize
    split
    · split <;> omega
    · omega
  have hs : Builtin.Range.small 0 ((m : Int) - 1) 2 = true := by
    unfold Builtin.Range.small
    rw [e]
    simp only [Builtin.Range.rangeFitsLong, Bool.and_eq_true, Bool.or_eq_true, decide_eq_true_eq, beq_iff_eq, show (2 : Int) > 0 by decide, if_true]
    omega
  show (if (2 : Int) ≠ 0 ∧ (2 : Int).natAbs < 1073741824 ∧ _ ∧ _ then _ else none) = _
  rw [if_pos ⟨by decide, by decide, hs, by rw [e]; omega⟩, e]
  unfold rangeL
  congr 1
  rw [Int.toNat_natCast]
  refine List.map_congr_left fun i _ => ?_
  congr 1
  omega
theorem take_flat (k : Nat) (l : List (List α)) : (l.take k).flatten.Sublist l.flatten := by
  have e : l.flatten = (l.take k).flatten ++ (l.drop k).flatten := by rw [← List.flatten_append, List.take_append_drop]
  rw [e]
  exact List.sublist_append_left _ _
theorem mem_len {l : List (List α)} {r : List α} (h : r ∈ l) : r.length ≤ l.flatten.length := by
  induction l with
  | nil => cases h
  | cons a l ih =>
    rw [List.flatten_cons, List.length_append]
    rcases List.mem_cons.mp h with e | h
    · rw [e]; omega
    · have := ih h; omega
theorem flat1 (xs : List α) : (xs.map fun x => [x]).flatten = xs := by
  induction xs with
  | nil => rfl
  | cons x xs ih => simp [ih]
/-- the list without what stands twice in a row -/
def ded [DecidableEq α] : List α → List α
  | [] => []
  | [a] => [a]
  | a :: b :: r => if a = b then ded (b :: r) else a :: ded (b :: r)
def encR (enc : α → D) (r : List α) : D := .lst (r.map enc)
theorem ascending_ok (t : TO enc lt) (xs : List α) (hz : xs.length ≤ 100000) (d0 : D) (hd : iterD d0 = some (xs.map enc)) :
    wpF f_ascending [.fz d0] fun r os => ∃ m : List α, r = .lst (m.map enc) ∧ os = [.no] ∧ SSrt lt m ∧ ∀ a, a ∈ m ↔ a ∈ xs := by
  refine wp_fun [.fz d0, .no, .no, .no, .no, .no, .no] ?_
  unfold b_ascending
  have hsz := sizeL
  refine wp_cut (fun s => s = [.fz d0, .lst ((xs.map fun x => [x]).map (encR enc)), .no, .no, .no, .no, .no]) ?_ ?_
  · rw [wp_setS]
    refine wp_lc (xs.map enc) [.fz d0, .no, .no, .no, .no, .no, .no] (by simp only [WPx, cond_true, cond_false, List.getElem?_cons_succ, List.getElem?_cons_zero, List.set_cons_succ, List.set_cons_zero, List.map_cons, List.map_nil, Option.getD_some, List.nodup_nil, true_and, and_true, hd]) (by simp; omega) (fun i acc s => acc = (xs.take i).map (fun x => encR enc [x]) ∧ s = [.fz d0, .no, .no, .no, .no, .no, .no]) ⟨by simp, rfl⟩ ?_ ?_
    · rintro j d acc s hj ⟨rfl, rfl⟩
      rw [List.getElem?_map] at hj
      obtain ⟨x, hx, rfl⟩ := Option.map_eq_some_iff.mp hj
      simp only [WPx, cond_true, cond_false, List.getElem?_cons_succ, List.getElem?_cons_zero, List.set_cons_succ, List.set_cons_zero, List.map_cons, List.map_nil, Option.getD_some, List.nodup_nil, true_and, and_true]
      refine ⟨by show 1 ≤ sizeLine; omega, ?_⟩
      rw [List.take_add_one, hx]
      simp [encR]
    · rintro acc s ⟨rfl, rfl⟩
      simp only [WPx, cond_true, cond_false, List.getElem?_cons_succ, List.getElem?_cons_zero, List.set_cons_succ, List.set_cons_zero, List.map_cons, List.map_nil, Option.getD_some, List.nodup_nil, true_and, and_true]
      rw [List.length_map, List.take_length]
      simp [encR, Function.comp_def]
  rintro _ rfl
  refine wp_cut (fun s => ∃ (runs : List (List α)) (b : O), s = [.fz d0, .lst (runs.map (encR enc)), .no, b, .no, .no, .no] ∧ runs.length ≤ 1 ∧ (∀ r ∈ runs, Srt lt r) ∧ runs.flatten.Perm xs) ?_ ?_
  · refine wp_while (fun n s => ∃ (runs : List (List α)) (b : O), n = runs.length ∧ runs.length ≤ 100000 ∧ s = [.fz d0, .lst (runs.map (encR enc)), .no, b, .no, .no, .no] ∧ (∀ r ∈ runs, Srt lt r) ∧ runs.flatten.Perm xs) xs.length
      ⟨xs.map fun x => [x], .no, by simp, by simpa using hz, rfl, by simp, by rw [flat1]⟩ ?_
    rintro n s ⟨runs, b, rfl, hrz, rfl, hs, hp⟩
    simp only [wp_tstB, wp_prim2, wp_primN, wp_aCons, wp_aNil, wp_varB, wp_cst, List.getElem?_cons_succ, List.getElem?_cons_zero, getB_lst, opR_bor, opR_fz, vw_bor, vw_fz, vws_cons, vws_nil, bind_some', view_lst, lenD_lst, resO_fz, rsO_fz, gtD_int, bP_bl]
    refine bif_split (fun q => ?_) fun q => ?_
    · simp only [List.length_map] at q
      have q : 1 < runs.length := by omega
      have hrl : ∀ r ∈ runs, r.length ≤ 100000 := fun r hr => Nat.le_trans (mem_len hr) (by rw [hp.length_eq]; exact hz)
      have hnl : runs.length < 1000000 := by omega
      -- the pairs merged
      refine wp_cut (fun s => ∃ ms : List (List α), s = [.fz d0, .lst (runs.map (encR enc)), .no, .lst (ms.map (encR enc)), .no, .no, .no] ∧ ms.length = runs.length / 2 ∧ (∀ r ∈ ms, Srt lt r) ∧ ms.flatten.Perm (runs.take (2 * (runs.length / 2))).flatten) ?_ ?_
      · rw [wp_setS]
        refine wp_lc ((List.range (runs.length / 2)).map fun i => .int ((2 * i : Nat) : Int)) [.fz d0, .lst (runs.map (encR enc)), .no, b, .no, .no, .no] (by simp only [WPx, cond_true, cond_false, List.getElem?_cons_succ, List.getElem?_cons_zero, List.set_cons_succ, List.set_cons_zero, List.map_cons, List.map_nil, Option.getD_some, List.nodup_nil, true_and, and_true]; rw [List.length_map, rng3D_02 _ (by omega) hnl]; simp only [WPx, cond_true, cond_false, List.getElem?_cons_succ, List.getElem?_cons_zero, List.set_cons_succ, List.set_cons_zero, List.map_cons, List.map_nil, Option.getD_some, List.nodup_nil, true_and, and_true]) (by simp; omega)
          (fun i acc s => ∃ ms : List (List α), acc = ms.map (encR enc) ∧ s = [.fz d0, .lst (runs.map (encR enc)), .no, b, .no, .no, .no] ∧ ms.length = i ∧ (∀ r ∈ ms, Srt lt r) ∧ ms.flatten.Perm (runs.take (2 * i)).flatten) ⟨[], rfl, rfl, rfl, by simp, by simp⟩ ?_ ?_
        · rintro j d acc s hj ⟨ms, rfl, rfl, hl, h1, h2⟩
          rw [List.getElem?_map] at hj
          obtain ⟨i, hi, rfl⟩ := Option.map_eq_some_iff.mp hj
          obtain ⟨hjl, hi⟩ := List.getElem?_eq_some_iff.mp hi
          rw [List.getElem_range] at hi
          subst hi
          have hjl : j < runs.length / 2 := by simpa using hjl
          have e1 : atI (runs.map (encR enc)) ((2 * j : Nat) : Int) = some (encR enc runs[2 * j]) := atI_nat (by rw [List.getElem?_map, List.getElem?_eq_getElem (by omega)]; rfl)
          have e2 : atI (runs.map (encR enc)) (((2 * j : Nat) : Int) + 1) = some (encR enc runs[2 * j + 1]) := atI_nat (k := 2 * j + 1) (by rw [List.getElem?_map, List.getElem?_eq_getElem (by omega)]; rfl)
          simp only [WPx, cond_true, cond_false, List.getElem?_cons_succ, List.getElem?_cons_zero, List.set_cons_succ, List.set_cons_zero, List.map_cons, List.map_nil, Option.getD_some, List.nodup_nil, true_and, and_true, e1, e2]
          refine (merged_ok t runs[2 * j] runs[2 * j + 1] (hs _ (List.getElem_mem _)) (hs _ (List.getElem_mem _)) (by have := hrl _ (List.getElem_mem (show 2 * j < runs.length by omega)); have := hrl _ (List.getElem_mem (show 2 * j + 1 < runs.length by omega)); omega)).mono ?_
          rintro r os ⟨m, rfl, rfl, hm1, hm2⟩
          simp only [WPx, cond_true, cond_false, List.getElem?_cons_succ, List.getElem?_cons_zero, List.set_cons_succ, List.set_cons_zero, List.map_cons, List.map_nil, Option.getD_some, List.nodup_nil, true_and, and_true]
          refine ⟨ms ++ [m], by simp [encR], by simp [hl], ?_, ?_⟩
          · intro r hr
            rcases List.mem_append.mp hr with hr | hr
            · exact h1 r hr
            · rw [List.mem_singleton.mp hr]; exact hm2
          · rw [show 2 * (j + 1) = 2 * j + 1 + 1 by omega, List.take_add_one, List.take_add_one, List.getElem?_eq_getElem (by omega), List.getElem?_eq_getElem (by omega)]
            simp only [Option.toList_some, List.flatten_append, List.flatten_cons, List.flatten_nil, List.append_nil, List.append_assoc]
            exact h2.append hm1
        · rintro acc s ⟨ms, rfl, rfl, hl, h1, h2⟩
          simp only [WPx, cond_true, cond_false, List.getElem?_cons_succ, List.getElem?_cons_zero, List.set_cons_succ, List.set_cons_zero, List.map_cons, List.map_nil, Option.getD_some, List.nodup_nil, true_and, and_true]
          rw [List.length_map, List.length_range] at hl h2
          exact ⟨ms, rfl, hl, h1, h2⟩
      rintro _ ⟨ms, rfl, hl, h1, h2⟩
      refine wp_cut (fun s => ∃ ms : List (List α), s = [.fz d0, .lst (runs.map (encR enc)), .no, .lst (ms.map (encR enc)), .no, .no, .no] ∧ ms.length < runs.length ∧ (∀ r ∈ ms, Srt lt r) ∧ ms.flatten.Perm runs.flatten) ?_ ?_
      · simp only [WPx, cond_true, cond_false, List.getElem?_cons_succ, List.getElem?_cons_zero, List.set_cons_succ, List.set_cons_zero, List.map_cons, List.map_nil, Option.getD_some, List.nodup_nil, true_and, and_true]
        rw [List.length_map, modD_int _ _ (by decide)]
        simp only [WPx, cond_true, cond_false, List.getElem?_cons_succ, List.getElem?_cons_zero, List.set_cons_succ, List.set_cons_zero, List.map_cons, List.map_nil, Option.getD_some, List.nodup_nil, true_and, and_true]
        refine bif_split (fun q2 => ?_) fun q2 => ?_
        · obtain ⟨r0, last, e⟩ : ∃ r0 last, runs = r0 ++ [last] := ⟨runs.dropLast, runs.getLast (by intro e; rw [e] at q; simp at q), (List.dropLast_concat_getLast _).symm⟩
          have hlen : runs.length = r0.length + 1 := by rw [e]; simp
          have e1 : atI (runs.map (encR enc)) (-1) = some (encR enc last) := by rw [e, List.map_append]; exact atI_last _ _
          rw [e1]
          simp only [WPx, cond_true, cond_false, List.getElem?_cons_succ, List.getElem?_cons_zero, List.set_cons_succ, List.set_cons_zero, List.map_cons, List.map_nil, Option.getD_some, List.nodup_nil, true_and, and_true]
          rw [appD_eq _ _ (by simp; omega)]
          simp only [WPx, cond_true, cond_false, List.getElem?_cons_succ, List.getElem?_cons_zero, List.set_cons_succ, List.set_cons_zero, List.map_cons, List.map_nil, Option.getD_some, List.nodup_nil, true_and, and_true]
          refine ⟨ms ++ [last], by simp, by simp; omega, ?_, ?_⟩
          · intro r hr
            rcases List.mem_append.mp hr with hr | hr
            · exact h1 r hr
            · rw [List.mem_singleton.mp hr]; exact hs _ (by rw [e]; simp)
          · rw [show 2 * (runs.length / 2) = r0.length by omega, e, List.take_left] at h2
            rw [e]
            simp only [List.flatten_append]
            exact h2.append_right _
        · refine ⟨ms, rfl, by omega, h1, ?_⟩
          rw [show 2 * (runs.length / 2) = runs.length by omega, List.take_length] at h2
          exact h2
      rintro _ ⟨ms, rfl, hl, h1, h2⟩
      simp only [WPx, cond_true, cond_false, List.getElem?_cons_succ, List.getElem?_cons_zero, List.set_cons_succ, List.set_cons_zero, List.map_cons, List.map_nil, Option.getD_some, List.nodup_nil, true_and, and_true]
      exact ⟨ms.length, hl, ms, _, rfl, by omega, rfl, h1, h2.trans hp⟩
    · simp only [List.length_map] at q
      exact ⟨runs, b, rfl, by omega, hs, hp⟩
  rintro _ ⟨runs, b, rfl, hr1, hs, hp⟩
  have hsrt : Srt lt runs.flatten := by
    match runs, hr1, hs with
    | [], _, _ => exact .nil
    | [r], _, hs => simpa using hs r (by simp)
  have hfl : runs.flatten.length ≤ 100000 := by rw [hp.length_eq]; exact hz
  refine wp_cut (fun s => s = [.fz d0, .lst (runs.map (encR enc)), .no, b, .no, .lst [], .no]) (by simp only [WPx, cond_true, cond_false, List.getElem?_cons_succ, List.getElem?_cons_zero, List.set_cons_succ, List.set_cons_zero, List.map_cons, List.map_nil, Option.getD_some, List.nodup_nil, true_and, and_true]; exact Nat.zero_le _) ?_
  rintro _ rfl
  -- what stands in the result
  let P : List α → List α → Prop := fun seen m => SSrt lt m ∧ (∀ a, a ∈ m ↔ a ∈ seen) ∧ m.length ≤ seen.length ∧ m.getLast? = seen.getLast?
  have step : ∀ (seen m : List α) (x : α), P seen m → (∀ y ∈ seen, le_ lt y x) → (m = [] ∨ ∃ l, m.getLast? = some l ∧ l ≠ x) → P (seen ++ [x]) (m ++ [x]) := by
    rintro seen m x ⟨h1, h2, h3, h4⟩ hx hl
    refine ⟨List.pairwise_append.mpr ⟨h1, List.pairwise_singleton _ _, fun a ha y hy => ?_⟩, fun a => by simp [h2 a], by simp; exact h3, by simp⟩
    rw [List.mem_singleton.mp hy]
    have hax := hx a ((h2 a).mp ha)
    cases hlt : lt a x with
    | true => rfl
    | false =>
      exfalso
      have e := t.tot _ _ hlt hax
      subst e
      rcases hl with hl | ⟨l, hl, hne⟩
      · rw [hl] at ha; cases ha
      · obtain ⟨m0, rfl⟩ := List.getLast?_eq_some_iff.mp hl
        rcases List.mem_append.mp ha with ha | ha
        · have h5 := (List.pairwise_append.mp h1).2.2 a ha l (by simp)
          have h6 := hx l ((h2 l).mp (by simp))
          rw [h6] at h5; cases h5
        · exact hne (List.mem_singleton.mp ha).symm
  have skip : ∀ (seen m : List α) (x : α), P seen m → m.getLast? = some x → P (seen ++ [x]) m := by
    rintro seen m x ⟨h1, h2, h3, h4⟩ hl
    obtain ⟨m0, rfl⟩ := List.getLast?_eq_some_iff.mp hl
    refine ⟨h1, fun a => ?_, by simp at h3 ⊢; omega, by simp⟩
    rw [h2 a, List.mem_append]
    constructor
    · exact .inl
    · rintro (h | h)
      · exact h
      · rw [List.mem_singleton.mp h]; exact (h2 x).mp (by simp)
  refine wp_cut (fun s => ∃ m : List α, s = [.fz d0, .fz (.lst (runs.map (encR enc))), .no, b, .no, .lst (m.map enc), .no] ∧ P runs.flatten m) ?_ ?_
  · refine wp_for (runs.map (encR enc)) [.fz d0, .fz (.lst (runs.map (encR enc))), .no, b, .no, .lst [], .no] (by simp only [WPx, cond_true, cond_false, List.getElem?_cons_succ, List.getElem?_cons_zero, List.set_cons_succ, List.set_cons_zero, List.map_cons, List.map_nil, Option.getD_some, List.nodup_nil, true_and, and_true]) (fun i s => ∃ m : List α, s = [.fz d0, .fz (.lst (runs.map (encR enc))), .no, b, .no, .lst (m.map enc), .no] ∧ P (runs.take i).flatten m)
      ⟨[], rfl, .nil, by simp, by simp, by simp⟩ ?_ ?_
    · rintro i d s hd ⟨m, rfl, hm⟩
      rw [List.getElem?_map] at hd
      obtain ⟨r, hr, rfl⟩ := Option.map_eq_some_iff.mp hd
      simp only [nameT_eq, oP_some, List.set_cons_succ, List.set_cons_zero]
      have et : (runs.take (i + 1)).flatten = (runs.take i).flatten ++ r := by rw [List.take_add_one, hr]; simp
      have hle : (runs.take (i + 1)).flatten.length ≤ 100000 := Nat.le_trans ((take_flat (i + 1) runs).length_le) hfl
      have hst : Srt lt (runs.take (i + 1)).flatten := hsrt.sublist (take_flat (i + 1) runs)
      rw [et] at hst hle
      refine wp_for (r.map enc) [.fz d0, .fz (.lst (runs.map (encR enc))), .no, b, .no, .lst (m.map enc), .fz (encR enc r)] (by simp only [WPx, cond_true, cond_false, List.getElem?_cons_succ, List.getElem?_cons_zero, List.set_cons_succ, List.set_cons_zero, List.map_cons, List.map_nil, Option.getD_some, List.nodup_nil, true_and, and_true, encR]) (fun j s => ∃ m : List α, s = [.fz d0, .fz (.lst (runs.map (encR enc))), .no, b, .no, .lst (m.map enc), .fz (encR enc r)] ∧ P ((runs.take i).flatten ++ r.take j) m)
        ⟨m, rfl, by simpa using hm⟩ ?_ ?_
      · rintro j d s hd ⟨m, rfl, hm⟩
        rw [List.getElem?_map] at hd
        obtain ⟨x, hx, rfl⟩ := Option.map_eq_some_iff.mp hd
        have ex : (runs.take i).flatten ++ r.take (j + 1) = ((runs.take i).flatten ++ r.take j) ++ [x] := by rw [List.take_add_one, hx]; simp
        have hseen : ∀ y ∈ (runs.take i).flatten ++ r.take j, le_ lt y x := by
          have : Srt lt ((runs.take i).flatten ++ r.take (j + 1)) := hst.sublist (List.Sublist.append_left (List.take_sublist _ _) _)
          rw [ex] at this
          exact fun y hy => (List.pairwise_append.mp this).2.2 y hy x (by simp)
        have hml : m.length ≤ 100000 := by
          have := hm.2.2.1
          simp at this hle
          omega
        simp only [WPx, cond_true, cond_false, List.getElem?_cons_succ, List.getElem?_cons_zero, List.set_cons_succ, List.set_cons_zero, List.map_cons, List.map_nil, Option.getD_some, List.nodup_nil, true_and, and_true]
        simp only [List.length_map]
        rw [ex]
        refine bif_split (fun q => ?_) fun q => ?_
        · have e : m = [] := List.length_eq_zero_iff.mp (by omega)
          subst e
          rw [appD_eq _ _ (by simp; omega)]
          simp only [WPx, cond_true, cond_false, List.getElem?_cons_succ, List.getElem?_cons_zero, List.set_cons_succ, List.set_cons_zero, List.map_cons, List.map_nil, Option.getD_some, List.nodup_nil, true_and, and_true]
          exact ⟨[x], rfl, step _ [] x hm hseen (.inl rfl)⟩
        · obtain ⟨m0, l, e⟩ : ∃ m0 l, m = m0 ++ [l] := ⟨m.dropLast, m.getLast (by intro e; rw [e] at q; simp at q), (List.dropLast_concat_getLast _).symm⟩
          have ea : atI (m.map enc) (-1) = some (enc l) := by rw [e, List.map_append]; exact atI_last _ _
          obtain ⟨c, hc, hcl⟩ := t.ne_ l x
          simp only [ea, WPx, cond_true, cond_false, List.getElem?_cons_succ, List.getElem?_cons_zero, List.set_cons_succ, List.set_cons_zero, List.map_cons, List.map_nil, Option.getD_some, List.nodup_nil, true_and, and_true, hc]
          cases c with
          | true =>
            simp only [WPx, cond_true, cond_false, List.getElem?_cons_succ, List.getElem?_cons_zero, List.set_cons_succ, List.set_cons_zero, List.map_cons, List.map_nil, Option.getD_some, List.nodup_nil, true_and, and_true]
            rw [appD_eq _ _ (by simp; omega)]
            simp only [WPx, cond_true, cond_false, List.getElem?_cons_succ, List.getElem?_cons_zero, List.set_cons_succ, List.set_cons_zero, List.map_cons, List.map_nil, Option.getD_some, List.nodup_nil, true_and, and_true]
            exact ⟨m ++ [x], by simp, step _ m x hm hseen (.inr ⟨l, by rw [e]; simp, fun z => by have := hcl.mpr z; cases this⟩)⟩
          | false =>
            simp only [WPx, cond_true, cond_false, List.getElem?_cons_succ, List.getElem?_cons_zero, List.set_cons_succ, List.set_cons_zero, List.map_cons, List.map_nil, Option.getD_some, List.nodup_nil, true_and, and_true]
            have z := hcl.mp rfl
            subst z
            exact ⟨m, rfl, skip _ m l hm (by rw [e]; simp)⟩
      · rintro s ⟨m, rfl, hm⟩
        simp only [WPx, cond_true, cond_false, List.getElem?_cons_succ, List.getElem?_cons_zero, List.set_cons_succ, List.set_cons_zero, List.map_cons, List.map_nil, Option.getD_some, List.nodup_nil, true_and, and_true]
        rw [List.length_map, List.take_length] at hm
        exact ⟨m, rfl, by rw [et]; exact hm⟩
    · rintro s ⟨m, rfl, hm⟩
      simp only [WPx, cond_true, cond_false, List.getElem?_cons_succ, List.getElem?_cons_zero, List.set_cons_succ, List.set_cons_zero, List.map_cons, List.map_nil, Option.getD_some, List.nodup_nil, true_and, and_true]
      rw [List.length_map, List.take_length] at hm
      exact ⟨m, rfl, hm⟩
  rintro _ ⟨m, rfl, h1, h2, _, _⟩
  simp only [WPx, cond_true, cond_false, List.getElem?_cons_succ, List.getElem?_cons_zero, List.set_cons_succ, List.set_cons_zero, List.map_cons, List.map_nil, Option.getD_some, List.nodup_nil, true_and, and_true]
  exact ⟨m, rfl, rfl, h1, fun a => (h2 a).trans hp.mem_iff⟩
end
end Ev
-- P2
set_option Elab.async false
set_option linter.all false
set_option maxRecDepth 100000
set_option maxHeartbeats 4000000
namespace Ev
open PySem L2

/-! ## _law_same tells equal data -/
mutual
inductive PlD : Nat → D → Prop
  | non {n : Nat} : PlD (n + 1) .non
  | bl {n : Nat} (b : Bool) : PlD (n + 1) (.bl b)
  | int {n : Nat} (i : Int) : PlD (n + 1) (.int i)
  | str {n : Nat} (s : Str) : PlD (n + 1) (.str s)
  | tup {n : Nat} {ds : List D} : PlL n ds → ds.length ≤ 1000000 → PlD (n + 1) (.tup ds)
  | lst {n : Nat} {ds : List D} : PlL n ds → ds.length ≤ 1000000 → PlD (n + 1) (.lst ds)
inductive PlL : Nat → List D → Prop
  | nil {n : Nat} : PlL n []
  | cons {n : Nat} {d : D} {ds : List D} : PlD n d → PlL n ds → PlL n (d :: ds)
end
theorem PlL.get {n : Nat} {ds : List D} (h : PlL n ds) : ∀ {i : Nat} {d : D}, ds[i]? = some d → PlD n d := by
  induction ds with
  | nil => intro i d e; simp at e
  | cons x xs ih =>
    cases h with
    | cons a b =>
      intro i d e
      cases i with
      | zero => simp at e; subst e; exact a
      | succ i => exact ih b (by simpa using e)
theorem PlL.of {n : Nat} {ds : List D} (h : ∀ d ∈ ds, PlD n d) : PlL n ds := by
  induction ds with
  | nil => exact .nil
  | cons x xs ih => exact .cons (h x (by simp)) (ih fun d hd => h d (by simp [hd]))
theorem isi_b (b : Bool) : isiD "bool" (.bl b) = oB true ∧ isiD "int" (.bl b) = oB true ∧ isiD "str" (.bl b) = oB false ∧ isiD "tuple" (.bl b) = oB false ∧ isiD "list" (.bl b) = oB false ∧ isi2D "list" "tuple" (.bl b) = oB false := ⟨rfl, rfl, rfl, rfl, rfl, rfl⟩
theorem isi_i (i : Int) : isiD "bool" (.int i) = oB false ∧ isiD "int" (.int i) = oB true ∧ isiD "str" (.int i) = oB false ∧ isiD "tuple" (.int i) = oB false ∧ isiD "list" (.int i) = oB false ∧ isi2D "list" "tuple" (.int i) = oB false := ⟨rfl, rfl, rfl, rfl, rfl, rfl⟩
theorem isi_s (i : Str) : isiD "bool" (.str i) = oB false ∧ isiD "int" (.str i) = oB false ∧ isiD "str" (.str i) = oB true ∧ isiD "tuple" (.str i) = oB false ∧ isiD "list" (.str i) = oB false ∧ isi2D "list" "tuple" (.str i) = oB false := ⟨rfl, rfl, rfl, rfl, rfl, rfl⟩
theorem isi_n : isiD "bool" .non = oB false ∧ isiD "int" .non = oB false ∧ isiD "str" .non = oB false ∧ isiD "tuple" .non = oB false ∧ isiD "list" .non = oB false ∧ isi2D "list" "tuple" .non = oB false := ⟨rfl, rfl, rfl, rfl, rfl, rfl⟩
theorem isi_t (i : List D) : isiD "bool" (.tup i) = oB false ∧ isiD "int" (.tup i) = oB false ∧ isiD "str" (.tup i) = oB false ∧ isiD "tuple" (.tup i) = oB true ∧ isiD "list" (.tup i) = oB false ∧ isi2D "list" "tuple" (.tup i) = oB true := ⟨rfl, rfl, rfl, rfl, rfl, rfl⟩
theorem isi_l (i : List D) : isiD "bool" (.lst i) = oB false ∧ isiD "int" (.lst i) = oB false ∧ isiD "str" (.lst i) = oB false ∧ isiD "tuple" (.lst i) = oB false ∧ isiD "list" (.lst i) = oB true ∧ isi2D "list" "tuple" (.lst i) = oB true := ⟨rfl, rfl, rfl, rfl, rfl, rfl⟩
theorem isND_ : isND .non = oB true ∧ (∀ b, isND (.bl b) = oB false) ∧ (∀ b, isND (.int b) = oB false) ∧ (∀ b, isND (.str b) = oB false) ∧ (∀ b, isND (.tup b) = oB false) ∧ (∀ b, isND (.lst b) = oB false) := ⟨rfl, fun _ => rfl, fun _ => rfl, fun _ => rfl, fun _ => rfl, fun _ => rfl⟩
theorem truD_bl (b : Bool) : truD (.bl b) = some b := rfl
theorem oB_eq (b : Bool) : oB b = some (.fz (.bl b)) := rfl
theorem eqD_bl (a b : Bool) : eqD (.bl a) (.bl b) = some (.fz (.bl (decide (a = b)))) := by cases a <;> cases b <;> rfl
theorem neD_bl (a b : Bool) : neD (.bl a) (.bl b) = some (.fz (.bl (!decide (a = b)))) := by cases a <;> cases b <;> rfl
/-- the loop over two rows of things -/
noncomputable def sameL (φ : SF) : SS := (seqS (forS (rngS rng1D (aCons (primN (aCons (varB 1) aNil) lenD) aNil)) (nameT 2) (ifS (tNt (tstU (callS φ (aCons (prim2 (varB 0) (varB 2) idxD) (aCons (prim2 (varB 1) (varB 2) idxD) aNil))))) (retS (cst (.bl false))) nilS) [2])
    (retS (cst (.bl true))))
theorem same_loop {n : Nat} (ih : ∀ a b : D, PlD n a → PlD n b → wpF (f_law_same n) [.fz a, .fz b] fun r os => r = .fz (.bl (decide (a = b))) ∧ os = [.no, .no]) (xs ys : List D) (A B : D) (hA : ∀ i : Nat, i < ys.length → idxD A (.int i) = (xs[i]?).map .fz) (hB : ∀ i : Nat, i < ys.length → idxD B (.int i) = (ys[i]?).map .fz)
    (hl : lenD [B] = some (.fz (.int ys.length))) (he : xs.length = ys.length) (hx : PlL n xs) (hy : PlL n ys) (hz : ys.length ≤ 1000000) :
    wpM (sameL (f_law_same n)) [.fz A, .fz B, .no] (retP [] 2 fun r os => r = .fz (.bl (decide (xs = ys))) ∧ os = [.no, .no]) := by
  unfold sameL
  refine wp_cut (fun s => s = [.fz A, .fz B, .no] ∧ xs = ys) ?_ ?_
  · refine wp_for ((List.range ys.length).map fun (i : Nat) => D.int (i : Int)) [.fz A, .fz B, .no] (by simp only [WPx, cond_true, cond_false, List.getElem?_cons_succ, List.getElem?_cons_zero, List.set_cons_succ, List.set_cons_zero, List.map_cons, List.map_nil, Option.getD_some, List.nodup_nil, true_and, and_true, hl]; rw [rng1D_eq _ (by omega)]; simp only [WPx, cond_true, cond_false, List.getElem?_cons_succ, List.getElem?_cons_zero, List.set_cons_succ, List.set_cons_zero, List.map_cons, List.map_nil, Option.getD_some, List.nodup_nil, true_and, and_true]) (fun i s => s = [.fz A, .fz B, .no] ∧ xs.take i = ys.take i) ⟨rfl, by simp⟩ ?_ ?_
    · rintro j d s hj ⟨rfl, ht⟩
      rw [List.getElem?_map] at hj
      obtain ⟨i, hi, rfl⟩ := Option.map_eq_some_iff.mp hj
      obtain ⟨hjl, hi⟩ := List.getElem?_eq_some_iff.mp hi
      rw [List.getElem_range] at hi
      subst hi
      have hjl : j < ys.length := by simpa using hjl
      have ex : xs[j]? = some xs[j] := List.getElem?_eq_getElem (by omega)
      have ey : ys[j]? = some ys[j] := List.getElem?_eq_getElem hjl
      simp only [WPx, cond_true, cond_false, List.getElem?_cons_succ, List.getElem?_cons_zero, List.set_cons_succ, List.set_cons_zero, List.map_cons, List.map_nil, Option.getD_some, List.nodup_nil, true_and, and_true, hA j hjl, hB j hjl, ex, ey]
      refine (ih xs[j] ys[j] (hx.get ex) (hy.get ey)).mono ?_
      rintro r os ⟨rfl, rfl⟩
      simp only [WPx, cond_true, cond_false, List.getElem?_cons_succ, List.getElem?_cons_zero, List.set_cons_succ, List.set_cons_zero, List.map_cons, List.map_nil, Option.getD_some, List.nodup_nil, true_and, and_true, truD_bl]
      refine bifN_split (fun q => ?_) fun q => ?_
      · have : xs ≠ ys := fun e => q (by subst e; rfl)
        rw [decide_eq_false this]
        exact ⟨rfl, rfl⟩
      · rw [List.take_add_one, List.take_add_one, ht, ex, ey, q]
    · rintro s ⟨rfl, ht⟩
      simp only [WPx, cond_true, cond_false, List.getElem?_cons_succ, List.getElem?_cons_zero, List.set_cons_succ, List.set_cons_zero, List.map_cons, List.map_nil, Option.getD_some, List.nodup_nil, true_and, and_true]
      rw [List.length_map, List.length_range] at ht
      rw [List.take_of_length_le (by omega), List.take_of_length_le (Nat.le_refl _)] at ht
      exact ht
  rintro _ ⟨rfl, rfl⟩
  simp only [WPx, cond_true, cond_false, List.getElem?_cons_succ, List.getElem?_cons_zero, List.set_cons_succ, List.set_cons_zero, List.map_cons, List.map_nil, Option.getD_some, List.nodup_nil, true_and, and_true]
  simp
theorem same_tup {n : Nat} (ih : ∀ a b : D, PlD n a → PlD n b → wpF (f_law_same n) [.fz a, .fz b] fun r os => r = .fz (.bl (decide (a = b))) ∧ os = [.no, .no]) (xs ys : List D) (hx : PlL n xs) (hy : PlL n ys) (hz : ys.length ≤ 1000000) (he : xs.length = ys.length) :
    wpM (sameL (f_law_same n)) [.fz (.tup xs), .fz (.tup ys), .no] (retP [] 2 fun r os => r = .fz (.bl (decide (xs = ys))) ∧ os = [.no, .no]) := by
  have hl := lenD_tup ys
  have hA : ∀ i : Nat, i < ys.length → idxD (.tup xs) (.int i) = (xs[i]?).map .fz := by
    intro i hi
    rw [idxD_tup]
    have h : i < xs.length := by omega
    rw [atI_nat (List.getElem?_eq_getElem h), List.getElem?_eq_getElem h]
  have hB : ∀ i : Nat, i < ys.length → idxD (.tup ys) (.int i) = (ys[i]?).map .fz := by
    intro i hi
    rw [idxD_tup]
    rw [atI_nat (List.getElem?_eq_getElem hi), List.getElem?_eq_getElem hi]
  generalize D.tup xs = A at hA ⊢
  generalize D.tup ys = B at hB hl ⊢
  exact same_loop ih xs ys A B hA hB hl he hx hy hz
theorem same_lst {n : Nat} (ih : ∀ a b : D, PlD n a → PlD n b → wpF (f_law_same n) [.fz a, .fz b] fun r os => r = .fz (.bl (decide (a = b))) ∧ os = [.no, .no]) (xs ys : List D) (hx : PlL n xs) (hy : PlL n ys) (hz : ys.length ≤ 1000000) (he : xs.length = ys.length) :
    wpM (sameL (f_law_same n)) [.fz (.lst xs), .fz (.lst ys), .no] (retP [] 2 fun r os => r = .fz (.bl (decide (xs = ys))) ∧ os = [.no, .no]) := by
  have hl := lenD_lst ys
  have hA : ∀ i : Nat, i < ys.length → idxD (.lst xs) (.int i) = (xs[i]?).map .fz := by
    intro i hi
    rw [idxD_lst]
    have h : i < xs.length := by omega
    rw [atI_nat (List.getElem?_eq_getElem h), List.getElem?_eq_getElem h]
  have hB : ∀ i : Nat, i < ys.length → idxD (.lst ys) (.int i) = (ys[i]?).map .fz := by
    intro i hi
    rw [idxD_lst]
    rw [atI_nat (List.getElem?_eq_getElem hi), List.getElem?_eq_getElem hi]
  generalize D.lst xs = A at hA ⊢
  generalize D.lst ys = B at hB hl ⊢
  exact same_loop ih xs ys A B hA hB hl he hx hy hz
theorem PlD.kb {n : Nat} {a : D} (h : PlD n a) : (∃ x, a = .bl x) ∨ isiD "bool" a = oB false := by cases h <;> first | exact .inl ⟨_, rfl⟩ | exact .inr rfl
theorem PlD.ki {n : Nat} {a : D} (h : PlD n a) (hb : isiD "bool" a = oB false) : (∃ x, a = .int x) ∨ isiD "int" a = oB false := by cases h <;> first | exact .inl ⟨_, rfl⟩ | exact .inr rfl | cases hb
theorem PlD.ks {n : Nat} {a : D} (h : PlD n a) : (∃ x, a = .str x) ∨ isiD "str" a = oB false := by cases h <;> first | exact .inl ⟨_, rfl⟩ | exact .inr rfl
theorem PlD.kn {n : Nat} {a : D} (h : PlD n a) : a = .non ∨ isND a = oB false := by cases h <;> first | exact .inl rfl | exact .inr rfl
theorem PlD.kq {n : Nat} {a : D} (h : PlD (n + 1) a) (hb : isiD "bool" a = oB false) (hi : isiD "int" a = oB false) (hs : isiD "str" a = oB false) (hn : isND a = oB false) : (∃ xs, a = .tup xs ∧ PlL n xs ∧ xs.length ≤ 1000000) ∨ ∃ xs, a = .lst xs ∧ PlL n xs ∧ xs.length ≤ 1000000 := by
  cases h with
  | non => cases hn
  | bl b => cases hb
  | int b => cases hi
  | str b => cases hs
  | tup h z => exact .inl ⟨_, rfl, h, z⟩
  | lst h z => exact .inr ⟨_, rfl, h, z⟩
theorem ne_of_isi {a b : D} {t : String} (h1 : isiD t a = oB true) (h2 : isiD t b = oB false) : a ≠ b := fun e => by subst e; rw [h1] at h2; cases h2
theorem same_ok : ∀ (n : Nat) (a b : D), PlD n a → PlD n b → wpF (f_law_same n) [.fz a, .fz b] fun r os => r = .fz (.bl (decide (a = b))) ∧ os = [.no, .no]
  | 0, a, b, ha, _ => by cases ha
  | n + 1, a, b, ha, hb => by
    have ih := same_ok n
    refine wp_fun [.fz a, .fz b, .no] ?_
    unfold b_law_same
    have tt := @same_tup n ih
    have ll := @same_lst n ih
    unfold sameL at tt ll
    generalize hg : (seqS (forS (rngS rng1D (aCons (primN (aCons (varB 1) aNil) lenD) aNil)) (nameT 2) _ [2]) _) = loop at tt ll ⊢
    refine wp_cut (fun s => s = [.fz a, .fz b, .no] ∧ isiD "bool" a = oB false ∧ isiD "bool" b = oB false) ?_ ?_
    · rcases ha.kb with ⟨x, rfl⟩ | h1 <;> rcases hb.kb with ⟨y, rfl⟩ | h2
      · simp only [WPx, cond_true, cond_false, List.getElem?_cons_succ, List.getElem?_cons_zero, List.set_cons_succ, List.set_cons_zero, List.map_cons, List.map_nil, Option.getD_some, List.nodup_nil, true_and, and_true, (isi_b _).1, oB_eq, truD_bl, eqD_bl]
        simp
      · have := ne_of_isi (isi_b x).1 h2
        simp only [WPx, cond_true, cond_false, List.getElem?_cons_succ, List.getElem?_cons_zero, List.set_cons_succ, List.set_cons_zero, List.map_cons, List.map_nil, Option.getD_some, List.nodup_nil, true_and, and_true, (isi_b _).1, h2, oB_eq, truD_bl]
        simp [this]
      · have := ne_of_isi (isi_b y).1 h1
        simp only [WPx, cond_true, cond_false, List.getElem?_cons_succ, List.getElem?_cons_zero, List.set_cons_succ, List.set_cons_zero, List.map_cons, List.map_nil, Option.getD_some, List.nodup_nil, true_and, and_true, (isi_b _).1, h1, oB_eq, truD_bl]
        simp [this.symm]
      · simp only [WPx, cond_true, cond_false, List.getElem?_cons_succ, List.getElem?_cons_zero, List.set_cons_succ, List.set_cons_zero, List.map_cons, List.map_nil, Option.getD_some, List.nodup_nil, true_and, and_true, h1, h2, oB_eq, truD_bl]
    rintro _ ⟨rfl, b1, b2⟩
    refine wp_cut (fun s => s = [.fz a, .fz b, .no] ∧ isiD "int" a = oB false ∧ isiD "int" b = oB false) ?_ ?_
    · rcases ha.ki b1 with ⟨x, rfl⟩ | h1 <;> rcases hb.ki b2 with ⟨y, rfl⟩ | h2
      · simp only [WPx, cond_true, cond_false, List.getElem?_cons_succ, List.getElem?_cons_zero, List.set_cons_succ, List.set_cons_zero, List.map_cons, List.map_nil, Option.getD_some, List.nodup_nil, true_and, and_true, (isi_i _).2.1, oB_eq, truD_bl]
        simp
      · have := ne_of_isi (isi_i x).2.1 h2
        simp only [WPx, cond_true, cond_false, List.getElem?_cons_succ, List.getElem?_cons_zero, List.set_cons_succ, List.set_cons_zero, List.map_cons, List.map_nil, Option.getD_some, List.nodup_nil, true_and, and_true, (isi_i _).2.1, h2, oB_eq, truD_bl]
        simp [this]
      · have := ne_of_isi (isi_i y).2.1 h1
        simp only [WPx, cond_true, cond_false, List.getElem?_cons_succ, List.getElem?_cons_zero, List.set_cons_succ, List.set_cons_zero, List.map_cons, List.map_nil, Option.getD_some, List.nodup_nil, true_and, and_true, (isi_i _).2.1, h1, oB_eq, truD_bl]
        simp [this.symm]
      · simp only [WPx, cond_true, cond_false, List.getElem?_cons_succ, List.getElem?_cons_zero, List.set_cons_succ, List.set_cons_zero, List.map_cons, List.map_nil, Option.getD_some, List.nodup_nil, true_and, and_true, h1, h2, oB_eq, truD_bl]
    rintro _ ⟨rfl, i1, i2⟩
    refine wp_cut (fun s => s = [.fz a, .fz b, .no] ∧ isiD "str" a = oB false ∧ isiD "str" b = oB false) ?_ ?_
    · rcases ha.ks with ⟨x, rfl⟩ | h1 <;> rcases hb.ks with ⟨y, rfl⟩ | h2
      · simp only [WPx, cond_true, cond_false, List.getElem?_cons_succ, List.getElem?_cons_zero, List.set_cons_succ, List.set_cons_zero, List.map_cons, List.map_nil, Option.getD_some, List.nodup_nil, true_and, and_true, (isi_s _).2.2.1, oB_eq, truD_bl]
        simp
      · have := ne_of_isi (isi_s x).2.2.1 h2
        simp only [WPx, cond_true, cond_false, List.getElem?_cons_succ, List.getElem?_cons_zero, List.set_cons_succ, List.set_cons_zero, List.map_cons, List.map_nil, Option.getD_some, List.nodup_nil, true_and, and_true, (isi_s _).2.2.1, h2, oB_eq, truD_bl]
        simp [this]
      · have := ne_of_isi (isi_s y).2.2.1 h1
        simp only [WPx, cond_true, cond_false, List.getElem?_cons_succ, List.getElem?_cons_zero, List.set_cons_succ, List.set_cons_zero, List.map_cons, List.map_nil, Option.getD_some, List.nodup_nil, true_and, and_true, (isi_s _).2.2.1, h1, oB_eq, truD_bl]
        simp [this.symm]
      · simp only [WPx, cond_true, cond_false, List.getElem?_cons_succ, List.getElem?_cons_zero, List.set_cons_succ, List.set_cons_zero, List.map_cons, List.map_nil, Option.getD_some, List.nodup_nil, true_and, and_true, h1, h2, oB_eq, truD_bl]
    rintro _ ⟨rfl, s1, s2⟩
    refine wp_cut (fun s => s = [.fz a, .fz b, .no] ∧ isND a = oB false ∧ isND b = oB false) ?_ ?_
    · rcases ha.kn with rfl | h1 <;> rcases hb.kn with rfl | h2
      · simp only [WPx, cond_true, cond_false, List.getElem?_cons_succ, List.getElem?_cons_zero, List.set_cons_succ, List.set_cons_zero, List.map_cons, List.map_nil, Option.getD_some, List.nodup_nil, true_and, and_true, isND_.1, oB_eq, truD_bl]
        simp
      · have : D.non ≠ b := fun e => by subst e; cases h2
        simp only [WPx, cond_true, cond_false, List.getElem?_cons_succ, List.getElem?_cons_zero, List.set_cons_succ, List.set_cons_zero, List.map_cons, List.map_nil, Option.getD_some, List.nodup_nil, true_and, and_true, isND_.1, h2, oB_eq, truD_bl]
        simp [this]
      · have : a ≠ D.non := fun e => by subst e; cases h1
        simp only [WPx, cond_true, cond_false, List.getElem?_cons_succ, List.getElem?_cons_zero, List.set_cons_succ, List.set_cons_zero, List.map_cons, List.map_nil, Option.getD_some, List.nodup_nil, true_and, and_true, isND_.1, h1, oB_eq, truD_bl]
        simp [this]
      · simp only [WPx, cond_true, cond_false, List.getElem?_cons_succ, List.getElem?_cons_zero, List.set_cons_succ, List.set_cons_zero, List.map_cons, List.map_nil, Option.getD_some, List.nodup_nil, true_and, and_true, h1, h2, oB_eq, truD_bl]
    rintro _ ⟨rfl, n1, n2⟩
    rcases ha.kq b1 i1 s1 n1 with ⟨xs, rfl, hx, hxz⟩ | ⟨xs, rfl, hx, hxz⟩ <;> rcases hb.kq b2 i2 s2 n2 with ⟨ys, rfl, hy, hyz⟩ | ⟨ys, rfl, hy, hyz⟩
    · refine wp_cut (fun s => s = [.fz (.tup xs), .fz (.tup ys), .no]) ?_ ?_
      · simp only [WPx, cond_true, cond_false, List.getElem?_cons_succ, List.getElem?_cons_zero, List.set_cons_succ, List.set_cons_zero, List.map_cons, List.map_nil, Option.getD_some, List.nodup_nil, true_and, and_true, (isi_t _).2.2.2.1, (isi_t _).2.2.2.2.1, oB_eq, neD_bl]
        simp
      rintro _ rfl
      refine wp_cut (fun s => s = [.fz (.tup xs), .fz (.tup ys), .no] ∧ xs.length = ys.length) ?_ ?_
      · simp only [WPx, cond_true, cond_false, List.getElem?_cons_succ, List.getElem?_cons_zero, List.set_cons_succ, List.set_cons_zero, List.map_cons, List.map_nil, Option.getD_some, List.nodup_nil, true_and, and_true, (isi_t _).2.2.2.2.2, oB_eq, truD_bl, Bool.not_true]
        refine bifN_split (fun q => ?_) fun q => ?_
        · have : xs ≠ ys := fun e => q (by rw [e])
          simp [this]
        · omega
      rintro _ ⟨rfl, he⟩
      refine (tt xs ys hx hy hyz he).mono fun fl s k => ?_
      simpa using k
    · refine wp_cut (fun s => False) ?_ (fun s h => h.elim)
      simp only [WPx, cond_true, cond_false, List.getElem?_cons_succ, List.getElem?_cons_zero, List.set_cons_succ, List.set_cons_zero, List.map_cons, List.map_nil, Option.getD_some, List.nodup_nil, true_and, and_true, (isi_t _).2.2.2.1, (isi_l _).2.2.2.1, oB_eq, neD_bl]
      simp
    · refine wp_cut (fun s => False) ?_ (fun s h => h.elim)
      simp only [WPx, cond_true, cond_false, List.getElem?_cons_succ, List.getElem?_cons_zero, List.set_cons_succ, List.set_cons_zero, List.map_cons, List.map_nil, Option.getD_some, List.nodup_nil, true_and, and_true, (isi_t _).2.2.2.1, (isi_l _).2.2.2.1, oB_eq, neD_bl]
      simp
    · refine wp_cut (fun s => s = [.fz (.lst xs), .fz (.lst ys), .no]) ?_ ?_
      · simp only [WPx, cond_true, cond_false, List.getElem?_cons_succ, List.getElem?_cons_zero, List.set_cons_succ, List.set_cons_zero, List.map_cons, List.map_nil, Option.getD_some, List.nodup_nil, true_and, and_true, (isi_l _).2.2.2.1, (isi_l _).2.2.2.2.1, oB_eq, neD_bl]
        simp
      rintro _ rfl
      refine wp_cut (fun s => s = [.fz (.lst xs), .fz (.lst ys), .no] ∧ xs.length = ys.length) ?_ ?_
      · simp only [WPx, cond_true, cond_false, List.getElem?_cons_succ, List.getElem?_cons_zero, List.set_cons_succ, List.set_cons_zero, List.map_cons, List.map_nil, Option.getD_some, List.nodup_nil, true_and, and_true, (isi_l _).2.2.2.2.2, oB_eq, truD_bl, Bool.not_true]
        refine bifN_split (fun q => ?_) fun q => ?_
        · have : xs ≠ ys := fun e => q (by rw [e])
          simp [this]
        · omega
      rintro _ ⟨rfl, he⟩
      refine (ll xs ys hx hy hyz he).mono fun fl s k => ?_
      simpa using k
end Ev
-- P3
set_option Elab.async false
set_option linter.all false
set_option maxRecDepth 100000
set_option maxHeartbeats 4000000
namespace Ev
open PySem L2 PySem.W PyProof.Rows

/-! ## names, rows -/
/-- the letters of a word -/
def wcs : List Nat := ("ABCDEFGHIJKLMNOPQRSTUVWXYZabcdefghijklmnopqrstuvwxyz0123456789_" : Str).cps.toList
structure Nm where
  s : Str
  len1 : 1 ≤ s.length
  len2 : s.length ≤ 20
  cs : ∀ c ∈ s.cps.toList, c ∈ wcs
theorem Nm.ext' {a b : Nm} (h : a.s = b.s) : a = b := by cases a; cases b; simp at h; subst h; rfl
instance : DecidableEq Nm := fun a b => if h : a.s = b.s then .isTrue (Nm.ext' h) else .isFalse fun e => h (by rw [e])
theorem wcs_small : ∀ c ∈ wcs, c < 0x110000 := by decide +kernel
theorem Nm.ok (a : Nm) : PyData.strOk a.s = true := by
  unfold PyData.strOk
  rw [Array.all_eq_true_iff_forall_mem]
  intro c hc
  have := wcs_small c (a.cs c (by simpa using hc))
  simpa using this
def encN (a : Nm) : D := .str a.s
theorem okD_str {s : Str} (h : PyData.strOk s = true) : okD (.str s) = true := by
  unfold okD
  simp [D.plain, h, D.p, PyData.depth]
abbrev TK := Int ⊕ List Nat
def tokN (a : Nm) : List TK := [.inr a.s.cps.toList]
theorem tokN_inj {a b : Nm} (h : tokN a = tokN b) : a = b := by
  unfold tokN at h
  simp at h
  apply Nm.ext'
  exact str_of_cps (congrArg Array.toList h)
def ltN (a b : Nm) : Bool := lexLt itemOrd (tokN a) (tokN b)
theorem to_names : TO encN ltN where
  lt_ a b := by
    show some (O.fz (.bl (decide (a.s.cps.toList < b.s.cps.toList)))) = _
    rw [← dataLt_str]
    rfl
  ne_ a b := ⟨_, rfl, by
    simp
    constructor
    · exact Nm.ext'
    · intro h; rw [h]⟩
  irr a := lex_irrefl _
  trans a b c := lex_trans _ _ _
  tot a b h1 h2 := tokN_inj (lex_total _ _ h1 h2)
/-- a row: a table's name, values -/
abbrev Rw := Nm × List Int
def encI (vs : List Int) : List D := vs.map D.int
def encRw (r : Rw) : D := .tup (.str r.1.s :: encI r.2)
theorem p_ints (vs : List Int) : D.pAll (encI vs) = vs.map PyData.int := by
  rw [D.pAll_map]; unfold encI; rw [List.map_map]; rfl
theorem pAll_row (r : Rw) : D.pAll (.str r.1.s :: encI r.2) = .str r.1.s :: r.2.map .int := by
  rw [D.pAll, p_ints]; rfl
def tokI (vs : List Int) : List TK := keyToksAll (vs.map .int)
theorem tokI_inj : ∀ {a b : List Int}, tokI a = tokI b → a = b
  | [], [], _ => rfl
  | [], b :: bs, h => by unfold tokI at h; simp [keyToksAll] at h
  | a :: as, [], h => by unfold tokI at h; simp [keyToksAll] at h
  | a :: as, b :: bs, h => by
    unfold tokI at h
    simp [keyToksAll, keyToks] at h
    rw [h.1, tokI_inj (a := as) (b := bs) h.2]
def tokR (r : Rw) : List TK := keyToksAll (.str r.1.s :: r.2.map .int)
theorem tokR_inj {a b : Rw} (h : tokR a = tokR b) : a = b := by
  unfold tokR at h
  simp [keyToksAll, keyToks] at h
  obtain ⟨h1, h2⟩ := h
  have e1 : a.1 = b.1 := Nm.ext' (str_of_cps (congrArg Array.toList h1))
  have e2 := tokI_inj h2
  exact Prod.ext e1 e2
def ltR (a b : Rw) : Bool := lexLt itemOrd (tokR a) (tokR b)
theorem plain_ints (vs : List Int) : D.plainAll (encI vs) = true := by
  rw [D.plainAll_all]; unfold encI; simp [D.plain]
theorem depth_row (r : Rw) : PyData.depthAll (.str r.1.s :: r.2.map .int) = 0 := by
  simp only [PyData.depthAll, PyData.depth, depth_ints]; rfl
theorem okD_row (r : Rw) : okD (encRw r) = true := by
  unfold okD encRw
  rw [Bool.and_eq_true, decide_eq_true_eq]
  refine ⟨?_, ?_⟩
  · simp only [D.plain, D.plainAll, Nm.ok, plain_ints, Bool.and_self]
  · simp only [D.p, pAll_row, PyData.depth, depth_row]; decide
theorem okD_ints (vs : List Int) : okD (.tup (encI vs)) = true ∧ okD (.lst (encI vs)) = true := by
  unfold okD
  simp only [D.plain, plain_ints, D.p, p_ints, PyData.depth, depth_ints]
  decide
theorem alike_row (a b : Rw) : alikeAll (D.pAll (.str a.1.s :: encI a.2)) (D.pAll (.str b.1.s :: encI b.2)) = true := by
  rw [pAll_row, pAll_row, alikeAll, alike_ints]; rfl
theorem eqv_row (a b : Rw) : PyData.eqv (encRw a).p (encRw b).p = true ↔ a = b := by
  have al : alike (encRw a).p (encRw b).p = true := by
    unfold encRw
    rw [D.p, D.p, alike]
    exact alike_row a b
  constructor
  · intro h
    have t := (toks_eqv _ _ al).1 h
    apply tokR_inj
    unfold encRw at t
    rw [D.p, D.p, pAll_row, pAll_row] at t
    exact t
  · rintro rfl
    exact eqv_refl_alike _ al
theorem eqvI (a b : List Int) : PyData.eqv (D.tup (encI a)).p (D.tup (encI b)).p = true ↔ a = b := by
  have al : alike (D.tup (encI a)).p (D.tup (encI b)).p = true := by
    rw [D.p, D.p, alike, p_ints, p_ints, alike_ints]
  constructor
  · intro h
    have t := (toks_eqv _ _ al).1 h
    rw [D.p, D.p, p_ints, p_ints] at t
    exact tokI_inj t
  · rintro rfl
    exact eqv_refl_alike _ al
theorem to_rows : TO encRw ltR where
  lt_ a b := by
    show (if okD (encRw a) = true ∧ okD (encRw b) = true ∧ alikeAll (D.pAll (.str a.1.s :: encI a.2)) (D.pAll (.str b.1.s :: encI b.2)) = true then oB (dataLt (encRw a).p (encRw b).p) else none) = _
    rw [if_pos ⟨okD_row a, okD_row b, alike_row a b⟩]
    unfold encRw
    rw [D.p, D.p, dataLt_tuple, pAll_row, pAll_row]
    rfl
  ne_ a b := by
    refine ⟨!PyData.eqv (encRw a).p (encRw b).p, ?_, ?_⟩
    · show (if okD (encRw a) = true ∧ okD (encRw b) = true then oB (!PyData.eqv (encRw a).p (encRw b).p) else none) = _
      rw [if_pos ⟨okD_row a, okD_row b⟩]
    · rw [← eqv_row a b]; simp
  irr a := lex_irrefl _
  trans a b c := lex_trans _ _ _
  tot a b h1 h2 := tokR_inj (lex_total _ _ h1 h2)
/-- membership -/
theorem okD_lst {xs : List D} (h : ∀ x ∈ xs, x.plain = true ∧ x.p.depth ≤ 63) : okD (.lst xs) = true ∧ okD (.tup xs) = true := by
  have h1 : D.plainAll xs = true := by
    rw [D.plainAll_all, List.all_eq_true]
    exact fun x hx => (h x hx).1
  have h2 : ∀ ys : List D, (∀ x ∈ ys, x.p.depth ≤ 63) → PyData.depthAll (D.pAll ys) ≤ 63 := by
    intro ys
    induction ys with
    | nil => intro _; simp [D.pAll, PyData.depthAll]
    | cons y ys ih =>
      intro hy
      have a := hy y (by simp)
      have b := ih fun x hx => hy x (by simp [hx])
      rw [D.pAll, PyData.depthAll]
      omega
  have h3 := h2 xs fun x hx => (h x hx).2
  unfold okD
  constructor
  · simp only [D.plain, h1, D.p, PyData.depth, Bool.true_and, decide_eq_true_eq]; omega
  · simp only [D.plain, h1, D.p, PyData.depth, Bool.true_and, decide_eq_true_eq]; omega
theorem row_small (r : Rw) : (encRw r).plain = true ∧ (encRw r).p.depth ≤ 63 := by
  have := okD_row r
  unfold okD at this
  rw [Bool.and_eq_true] at this
  refine ⟨this.1, ?_⟩
  unfold encRw
  simp only [D.p, pAll_row, PyData.depth, depth_row]; decide
theorem inB_row (r : Rw) (rs : List Rw) : inB (encRw r) (rs.map encRw) = decide (r ∈ rs) := by
  unfold inB
  rw [List.any_map, Bool.eq_iff_iff, List.any_eq_true, decide_eq_true_eq]
  constructor
  · rintro ⟨x, hx, h⟩
    rw [← (eqv_row x r).1 h]; exact hx
  · intro h
    exact ⟨r, h, (eqv_row r r).2 rfl⟩
theorem inD_row (r : Rw) (rs : List Rw) : inD (encRw r) (.lst (rs.map encRw)) = some (decide (r ∈ rs)) := by
  show (if okD (encRw r) = true ∧ okD (.lst (rs.map encRw)) = true then some (inB (encRw r) (rs.map encRw)) else none) = _
  rw [if_pos ⟨okD_row r, (okD_lst fun x hx => by
    obtain ⟨y, _, rfl⟩ := List.mem_map.1 hx
    exact row_small y).1⟩, inB_row]
theorem inD_int (i : Int) (vs : List Int) : inD (.int i) (.lst (encI vs)) = some (decide (i ∈ vs)) := by
  show (if okD (.int i) = true ∧ okD (.lst (encI vs)) = true then some (inB (.int i) (encI vs)) else none) = _
  rw [if_pos ⟨by rfl, (okD_ints vs).2⟩]
  unfold inB encI
  rw [List.any_map]
  congr 1
  rw [Bool.eq_iff_iff, List.any_eq_true, decide_eq_true_eq]
  constructor
  · rintro ⟨x, hx, h⟩
    simp [D.p, PyData.eqv] at h
    exact h ▸ hx
  · intro h
    exact ⟨i, h, by simp [D.p, PyData.eqv]⟩
theorem inD_nm (a : Nm) (xs : List Nm) : inD (encN a) (.lst (xs.map encN)) = some (decide (a ∈ xs)) := by
  show (if okD (encN a) = true ∧ okD (.lst (xs.map encN)) = true then some (inB (encN a) (xs.map encN)) else none) = _
  rw [if_pos ⟨okD_str a.ok, (okD_lst fun x hx => by
    obtain ⟨y, _, rfl⟩ := List.mem_map.1 hx
    exact ⟨by unfold encN; simp [D.plain, y.ok], by unfold encN; simp [D.p, PyData.depth]⟩).1⟩]
  unfold inB
  rw [List.any_map]
  congr 1
  rw [Bool.eq_iff_iff, List.any_eq_true, decide_eq_true_eq]
  constructor
  · rintro ⟨x, hx, h⟩
    simp [encN, D.p, PyData.eqv] at h
    rw [← Nm.ext' h]; exact hx
  · intro h
    exact ⟨a, h, by simp [encN, D.p, PyData.eqv]⟩
/-- the order of ints -/
theorem to_ints : TO D.int fun a b => decide (a < b) where
  lt_ a b := by rfl
  ne_ a b := ⟨_, rfl, by simp⟩
  irr a := by simp
  trans a b c := by simp; omega
  tot a b := by simp; omega
end Ev
-- P0
set_option linter.all false
set_option maxRecDepth 100000
set_option maxHeartbeats 2000000
namespace Ev
open PySem L2
/-- the state of the draws -/
def stO (ns : List Int) (p c l m : Int) : O := .lst [.lst (ns.map .int), .int p, .int c, .int l, .int m]
structure Dr (o : O) : Prop where
  ex : ∃ (ns : List Int) (p : Nat) (c l m : Int), o = stO ns p c l m ∧ ns.length ≤ 63 ∧ 0 ≤ c ∧ 0 ≤ l ∧ (m = 0 ∨ m = 1)
theorem powD_1018 : powD (.int 10) (.int 18) = some (.fz (.int 1000000000000000000)) := by rfl
theorem log2_small {i : Int} (h1 : 0 < i) (h2 : i < 1000000) : i.natAbs.log2 < 9000 := by
  have h : i.natAbs.log2 < 20 := (Nat.log2_lt (by omega)).mpr (by omega)
  omega
theorem mulOk_r {i j : Int} (h : -(2 ^ 64) < j ∧ j < 2 ^ 64) : mulOk i j := .inl (.inr h)
theorem draw_ok {o : O} (h : Dr o) (limit : Int) (hl : limit < 1000000) : wpF f_law_draw [o, .fz (.int limit)] fun r os => ∃ v o', r = .fz (.int v) ∧ os = [o', .no] ∧ Dr o' ∧ 0 ≤ v ∧ (1 ≤ limit → v < limit) := by
  obtain ⟨ns, p, c, l, m, rfl, hz, hc, h0, hm⟩ := h.ex
  refine wp_fun [stO ns p c l m, .fz (.int limit), .no, .no, .no] ?_
  unfold b_law_draw
  refine wp_cut (fun s => s = [stO ns p c l m, .fz (.int limit), .no, .no, .no] ∧ 2 ≤ limit) ?_ ?_
  · simp only [WPx, cond_true, cond_false, List.getElem?_cons_succ, List.getElem?_cons_zero, List.set_cons_succ, List.set_cons_zero, List.map_cons, List.map_nil, Option.getD_some, List.nodup_nil, true_and, and_true]
    refine bif_split (fun h1 => ?_) fun h1 => ?_
    · exact ⟨0, _, rfl, rfl, h, by omega, by omega⟩
    · omega
  rintro _ ⟨rfl, h2⟩
  refine wp_cut (fun s => ∃ (p : Nat) (c l m : Int) (a : O), s = [stO ns p c l m, .fz (.int limit), a, .no, .no] ∧ 0 ≤ c ∧ 1 ≤ l ∧ (m = 0 ∨ m = 1)) ?_ ?_
  · unfold stO
    simp only [wp_ifS, wp_tstB, wp_prim2, wp_varB, wp_cst, List.getElem?_cons_zero, getB_lst, opR_bor, opR_fz, vw_bor, vw_fz, bind_some', view_lst, idxD_lst, atI_3, map_some', resO_fz, eqD_int, bP_bl]
    refine bif_split (fun h1 => ?_) fun h1 => ?_
    · refine wp_cut (fun s => s = [stO ns p c l m, .fz (.int limit), .no, .no, .no] ∧ p < ns.length) ?_ ?_
      · unfold stO
        simp only [WPx, cond_true, cond_false, List.getElem?_cons_succ, List.getElem?_cons_zero, List.set_cons_succ, List.set_cons_zero, List.map_cons, List.map_nil, Option.getD_some, List.nodup_nil, true_and, and_true]
        simp only [List.length_map]
        refine bif_split (fun h1 => ?_) fun h1 => ?_
        · exact ⟨0, _, rfl, rfl, h, by omega, by omega⟩
        · omega
      rintro _ ⟨rfl, h2⟩
      refine wp_cut (fun s => ∃ c2 : Int, s = [stO ns p c l m, .fz (.int limit), .fz (.int c2), .no, .no]) ?_ ?_
      · unfold stO
        have e : atI (ns.map D.int) (p : Int) = some (.int ns[p]) := atI_nat (by simp [h2])
        simp only [WPx, cond_true, cond_false, List.getElem?_cons_succ, List.getElem?_cons_zero, List.set_cons_succ, List.set_cons_zero, List.map_cons, List.map_nil, Option.getD_some, List.nodup_nil, true_and, and_true, e]
        exact ⟨_, rfl⟩
      rintro _ ⟨c2, rfl⟩
      refine wp_cut (fun s => ∃ c2 : Int, s = [stO ns p c l m, .fz (.int limit), .fz (.int c2), .no, .no] ∧ 0 ≤ c2) ?_ ?_
      · simp only [WPx, cond_true, cond_false, List.getElem?_cons_succ, List.getElem?_cons_zero, List.set_cons_succ, List.set_cons_zero, List.map_cons, List.map_nil, Option.getD_some, List.nodup_nil, true_and, and_true]
        refine bif_split (fun h1 => ?_) fun h1 => ?_
        · exact ⟨_, rfl, by omega⟩
        · exact ⟨_, rfl, by omega⟩
      rintro _ ⟨c2, rfl, hc2⟩
      unfold stO
      simp only [WPx, cond_true, cond_false, List.getElem?_cons_succ, List.getElem?_cons_zero, List.set_cons_succ, List.set_cons_zero, List.map_cons, List.map_nil, Option.getD_some, List.nodup_nil, true_and, and_true, powD_1018]
      refine bif_split (fun h1 => ?_) fun h1 => ?_
      · exact ⟨p + 1, c2, 60, 1, _, rfl, hc2, by omega, .inr rfl⟩
      · exact ⟨p + 1, c2, 3, 0, _, rfl, hc2, by omega, .inl rfl⟩
    · rw [wp_nilS]; exact ⟨p, c, l, m, _, rfl, hc, by omega, hm⟩
  rintro _ ⟨p, c, l, m, a, rfl, hc, h0, hm⟩
  refine wp_cut (fun s => s = [stO ns p c (l - 1) m, .fz (.int limit), a, .no, .no]) ?_ ?_
  · unfold stO
    simp only [WPx, cond_true, cond_false, List.getElem?_cons_succ, List.getElem?_cons_zero, List.set_cons_succ, List.set_cons_zero, List.map_cons, List.map_nil, Option.getD_some, List.nodup_nil, true_and, and_true]
  rintro _ rfl
  refine wp_cut (fun s => s = [stO ns p c (l - 1) m, .fz (.int limit), a, .no, .no]) ?_ ?_
  · unfold stO
    simp only [wp_ifS, wp_tstB, wp_prim2, wp_varB, wp_cst, List.getElem?_cons_zero, getB_lst, opR_bor, opR_fz, vw_bor, vw_fz, bind_some', view_lst, idxD_lst, atI_4, map_some', resO_fz, eqD_int, bP_bl]
    refine bif_split (fun h1 => ?_) fun h1 => ?_
    · refine wp_cut (fun s => s = [stO ns p c (l - 1) m, .fz (.int limit), a, .fz (.int (c % limit)), .no]) ?_ ?_
      · unfold stO
        simp only [WPx, cond_true, cond_false, List.getElem?_cons_succ, List.getElem?_cons_zero, List.set_cons_succ, List.set_cons_zero, List.map_cons, List.map_nil, Option.getD_some, List.nodup_nil, true_and, and_true, modD_int c limit (by omega)]
      rintro _ rfl
      refine wp_cut (fun s => s = [stO ns p (c / limit) (l - 1) m, .fz (.int limit), a, .fz (.int (c % limit)), .no]) ?_ ?_
      · unfold stO
        simp only [WPx, cond_true, cond_false, List.getElem?_cons_succ, List.getElem?_cons_zero, List.set_cons_succ, List.set_cons_zero, List.map_cons, List.map_nil, Option.getD_some, List.nodup_nil, true_and, and_true, fdivD_int c limit (by omega) (log2_small (by omega) hl)]
      rintro _ rfl
      refine wp_cut (fun s => ∃ l', s = [stO ns p (c / limit) l' m, .fz (.int limit), a, .fz (.int (c % limit)), .no] ∧ 0 ≤ l') ?_ ?_
      · unfold stO
        simp only [WPx, cond_true, cond_false, List.getElem?_cons_succ, List.getElem?_cons_zero, List.set_cons_succ, List.set_cons_zero, List.map_cons, List.map_nil, Option.getD_some, List.nodup_nil, true_and, and_true]
        refine bif_split (fun h1 => ?_) fun h1 => ?_
        · exact ⟨0, rfl, by omega⟩
        · exact ⟨l - 1, rfl, by omega⟩
      rintro _ ⟨l', rfl, hl'⟩
      simp only [WPx, cond_true, cond_false, List.getElem?_cons_succ, List.getElem?_cons_zero, List.set_cons_succ, List.set_cons_zero, List.map_cons, List.map_nil, Option.getD_some, List.nodup_nil, true_and, and_true]
      exact ⟨_, _, rfl, rfl, ⟨ns, p, c / limit, l', m, rfl, hz, Int.ediv_nonneg hc (by omega), hl', hm⟩, Int.emod_nonneg _ (by omega), fun _ => Int.emod_lt_of_pos _ (by omega)⟩
    · simp only [WPx, cond_true, cond_false, List.getElem?_cons_succ, List.getElem?_cons_zero, List.set_cons_succ, List.set_cons_zero, List.map_cons, List.map_nil, Option.getD_some, List.nodup_nil, true_and, and_true]
  rintro _ rfl
  refine wp_cut (fun s => ∃ x : Int, s = [stO ns p c (l - 1) m, .fz (.int limit), a, .no, .fz (.int x)]) ?_ ?_
  · unfold stO
    simp only [WPx, cond_true, cond_false, List.getElem?_cons_succ, List.getElem?_cons_zero, List.set_cons_succ, List.set_cons_zero, List.map_cons, List.map_nil, Option.getD_some, List.nodup_nil, true_and, and_true, mulD_int c 48271 (mulOk_r (by decide)), mulD_int (l - 1) 69621 (mulOk_r (by decide)), modD_int _ 2147483647 (by decide)]
    exact ⟨_, rfl⟩
  rintro _ ⟨x, rfl⟩
  unfold stO
  simp only [WPx, cond_true, cond_false, List.getElem?_cons_succ, List.getElem?_cons_zero, List.set_cons_succ, List.set_cons_zero, List.map_cons, List.map_nil, Option.getD_some, List.nodup_nil, true_and, and_true, mulD_int x 16807 (mulOk_r (by decide)), mulD_int (l - 1) 10133 (mulOk_r (by decide)), modD_int _ 2147483629 (by decide), modD_int _ limit (by omega)]
  exact ⟨_, _, rfl, rfl, ⟨ns, p, c, l - 1, m, rfl, hz, hc, by omega, hm⟩, Int.emod_nonneg _ (by omega), fun _ => Int.emod_lt_of_pos _ (by omega)⟩
end Ev
-- P4
set_option Elab.async false
set_option linter.all false
set_option maxRecDepth 100000
set_option maxHeartbeats 4000000
namespace Ev
open PySem L2 PySem.W PyProof.Rows

theorem getB_dr {o : O} (h : Dr o) (i : Nat) (Q : Rs → Prop) : getB (some o) i Q = Q (.bor i) := by
  obtain ⟨ns, p, c, l, m, rfl, _⟩ := h.ex
  exact getB_lst _ _ _
theorem start_ok (ns : List Int) (h : ns.length ≤ 63) : wpF f_law_start [.fz (.scr ns)] fun r os => Dr r ∧ os = [.no] := by
  refine wp_fun [.fz (.scr ns), .no] ?_
  unfold b_law_start
  rw [wp_retS, wp_lstS, wp_aCons]
  refine wp_lc (ns.map D.int) [.fz (.scr ns), .no] (by simp only [WPx, cond_true, cond_false, List.getElem?_cons_succ, List.getElem?_cons_zero, List.set_cons_succ, List.set_cons_zero, List.map_cons, List.map_nil, Option.getD_some, List.nodup_nil, true_and, and_true, iterD_scr]) (by simp; exact Nat.le_trans h (by decide)) (fun i acc s => acc = (ns.take i).map D.int ∧ s = [.fz (.scr ns), .no]) ⟨by simp, rfl⟩ ?_ ?_
  · rintro j d acc s hj ⟨rfl, rfl⟩
    rw [List.getElem?_map] at hj
    obtain ⟨x, hx, rfl⟩ := Option.map_eq_some_iff.mp hj
    simp only [WPx, cond_true, cond_false, List.getElem?_cons_succ, List.getElem?_cons_zero, List.set_cons_succ, List.set_cons_zero, List.map_cons, List.map_nil, Option.getD_some, List.nodup_nil, true_and, and_true]
    rw [List.take_add_one, hx]
    simp
  · rintro acc s ⟨rfl, rfl⟩
    rw [List.length_map, List.take_length]
    simp only [WPx, cond_true, cond_false, List.getElem?_cons_succ, List.getElem?_cons_zero, List.set_cons_succ, List.set_cons_zero, List.map_cons, List.map_nil, Option.getD_some, List.nodup_nil, true_and, and_true]
    exact ⟨by show 5 ≤ sizeLine; decide, ⟨ns, 0, 0, 0, 0, rfl, h, by omega, by omega, .inl rfl⟩, rfl⟩
def lets : Str := "abcdefghijklmnopqrstuvwxyzABCDEFGHIJKLMNOPQRSTUVWXYZ0123456789_"
theorem letters_at (w : Nat) (h : w < 63) : ∃ c, lets.cps.toList[w]? = some c ∧ c ∈ wcs := by
  have k : ∀ c ∈ lets.cps.toList, c ∈ wcs := by decide +kernel
  have z : lets.cps.toList.length = 63 := by decide +kernel
  exact ⟨lets.cps.toList[w]'(by omega), List.getElem?_eq_getElem _, k _ (List.getElem_mem _)⟩
theorem join_cps : ∀ l : List Str, (Str.join Str.empty l).cps.toList = (l.map (·.cps.toList)).flatten
  | [] => rfl
  | [x] => by simp [Str.join]
  | x :: y :: r => by
    show (x ++ Str.empty ++ Str.join Str.empty (y :: r)).cps.toList = _
    rw [PySem.Str.cps_append, PySem.Str.cps_append, Array.toList_append, Array.toList_append, join_cps (y :: r)]
    simp [Str.empty]
theorem join_one (l : List Nat) : (Txt.join Str.empty (l.map fun c => (⟨#[c]⟩ : Str))).cps.toList = l := by
  show (Builtin.Str.glued Str.empty (l.map fun c => (⟨#[c]⟩ : Str))).cps.toList = l
  rw [StrLaws.glued_eq_join, join_cps, List.map_map]
  induction l with
  | nil => rfl
  | cons a l ih => simp only [List.map_cons, List.flatten_cons, ih]; rfl
theorem strsD_str (l : List Nat) : strsD (l.map fun c => D.str ⟨#[c]⟩) = some (l.map fun c => (⟨#[c]⟩ : Str)) := by
  induction l with
  | nil => rfl
  | cons a l ih => simp only [List.map_cons, strsD, ih]; rfl
theorem word_tail {o : O} (n : Nat) (d0 : D) (hd0 : d0 = .int (n : Int)) (h : Dr o) (hn : n ≤ 20) : wpM (lcS (rngS rng1D (aCons (varB 2) aNil)) (nameT 3) tYesS (prim2 (varB 1) (callS f_law_draw (aCons (varB 0) (aCons (cst (.int 63)) aNil))) idxD) [3]) [o, .fz (.str lets), .fz d0, .no]
    fun r s => ∃ (o : O) (l : List Nat), Dr o ∧ s = [o, .fz (.str lets), .fz d0, .no] ∧ r = .ow (.lst (l.map fun c => D.str ⟨#[c]⟩)) ∧ l.length = n ∧ ∀ c ∈ l, c ∈ wcs := by
  have hsz : ((List.range n).map fun (i : Nat) => D.int (i : Int)).length ≤ sizeLine := by
    rw [List.length_map, List.length_range]
    exact Nat.le_trans (show n ≤ 20 by omega) (by show 20 ≤ sizeLine; decide)
  have hsrc : wpM (rngS rng1D (aCons (varB 2) aNil)) [o, .fz (.str lets), .fz d0, .no] fun a b => a = ((List.range n).map fun (i : Nat) => D.int (i : Int)) ∧ b = [o, .fz (.str lets), .fz d0, .no] := by
    simp only [WPx, cond_true, cond_false, List.getElem?_cons_succ, List.getElem?_cons_zero, List.set_cons_succ, List.set_cons_zero, List.map_cons, List.map_nil, Option.getD_some, List.nodup_nil, true_and, and_true]
    rw [hd0, rng1D_eq n (by omega)]
    simp only [WPx, cond_true, cond_false, List.getElem?_cons_succ, List.getElem?_cons_zero, List.set_cons_succ, List.set_cons_zero, List.map_cons, List.map_nil, Option.getD_some, List.nodup_nil, true_and, and_true]
  refine wp_lc _ _ hsrc hsz (fun i acc s => ∃ (o : O) (l : List Nat), Dr o ∧ s = [o, .fz (.str lets), .fz d0, .no] ∧ acc = l.map (fun c => D.str ⟨#[c]⟩) ∧ l.length = i ∧ ∀ c ∈ l, c ∈ wcs) ⟨o, [], h, rfl, rfl, rfl, by simp⟩ ?_ ?_
  · rintro j d acc s hj ⟨o, l, h, rfl, rfl, hl, hc⟩
    simp only [nameT_eq, oP_some, List.set_cons_succ, List.set_cons_zero, wp_tYesS, cond_true]
    simp only [WPx, cond_true, cond_false, List.getElem?_cons_succ, List.getElem?_cons_zero, List.set_cons_succ, List.set_cons_zero, List.map_cons, List.map_nil, Option.getD_some, List.nodup_nil, true_and, and_true, getB_dr h]
    refine ⟨by decide, (draw_ok h 63 (by decide)).mono ?_⟩
    rintro r os ⟨w, o', rfl, rfl, h', h1, h2⟩
    have h2 := h2 (by decide)
    obtain ⟨w, rfl⟩ := Int.eq_ofNat_of_zero_le h1
    obtain ⟨c, e, hcm⟩ : ∃ c, lets.cps.toList[w]? = some c ∧ c ∈ wcs := letters_at w (by omega)
    have ei : idxD (.str lets) (.int (w : Int)) = some (.fz (.str ⟨#[c]⟩)) := by
      show (if fits lets.length then (atI lets.cps.toList (w : Int)).map fun c => O.fz (.str ⟨#[c]⟩) else none) = _
      rw [if_pos (by decide), atI_nat e]; rfl
    simp only [WPx, cond_true, cond_false, List.getElem?_cons_succ, List.getElem?_cons_zero, List.set_cons_succ, List.set_cons_zero, List.map_cons, List.map_nil, Option.getD_some, List.nodup_nil, true_and, and_true, ei]
    refine ⟨o', l ++ [c], h', rfl, by simp, by simp [hl], ?_⟩
    intro x hx
    rcases List.mem_append.1 hx with hx | hx
    · exact hc x hx
    · rw [List.mem_singleton.1 hx]; exact hcm
  · rintro acc s ⟨o, l, h, rfl, rfl, hl, hc⟩
    exact ⟨o, l, h, rfl, rfl, by simpa using hl, hc⟩
theorem word_ok {o : O} (h : Dr o) : wpF f_law_word [o] fun r os => ∃ (a : Nm) (o' : O), r = .fz (encN a) ∧ os = [o'] ∧ Dr o' := by
  refine wp_fun [o, .no, .no, .no] ?_
  unfold b_law_word
  refine wp_cut (fun s => s = [o, .fz (.str lets), .no, .no]) ?_ ?_
  · simp only [WPx, cond_true, cond_false, List.getElem?_cons_succ, List.getElem?_cons_zero, List.set_cons_succ, List.set_cons_zero, List.map_cons, List.map_nil, Option.getD_some, List.nodup_nil, true_and, and_true]
    rfl
  rintro _ rfl
  refine wp_cut (fun s => ∃ (o : O) (v : Int), s = [o, .fz (.str lets), .fz (.int v), .no] ∧ Dr o ∧ 1 ≤ v ∧ v ≤ 20) ?_ ?_
  · simp only [WPx, cond_true, cond_false, List.getElem?_cons_succ, List.getElem?_cons_zero, List.set_cons_succ, List.set_cons_zero, List.map_cons, List.map_nil, Option.getD_some, List.nodup_nil, true_and, and_true, getB_dr h]
    refine ⟨by decide, (draw_ok h 3 (by decide)).mono ?_⟩
    rintro r os ⟨v, o', rfl, rfl, h', h1, h2⟩
    simp only [WPx, cond_true, cond_false, List.getElem?_cons_succ, List.getElem?_cons_zero, List.set_cons_succ, List.set_cons_zero, List.map_cons, List.map_nil, Option.getD_some, List.nodup_nil, true_and, and_true]
    have := h2 (by decide)
    exact ⟨o', _, rfl, h', by omega, by omega⟩
  rintro _ ⟨o, v, rfl, h, hv1, hv2⟩
  refine wp_cut (fun s => ∃ (o : O) (v : Int), s = [o, .fz (.str lets), .fz (.int v), .no] ∧ Dr o ∧ 1 ≤ v ∧ v ≤ 20) ?_ ?_
  · simp only [WPx, cond_true, cond_false, List.getElem?_cons_succ, List.getElem?_cons_zero, List.set_cons_succ, List.set_cons_zero, List.map_cons, List.map_nil, Option.getD_some, List.nodup_nil, true_and, and_true, getB_dr h]
    refine ⟨by decide, (draw_ok h 5 (by decide)).mono ?_⟩
    rintro r os ⟨w, o', rfl, rfl, h', h1, h2⟩
    simp only [WPx, cond_true, cond_false, List.getElem?_cons_succ, List.getElem?_cons_zero, List.set_cons_succ, List.set_cons_zero, List.map_cons, List.map_nil, Option.getD_some, List.nodup_nil, true_and, and_true, getB_dr h']
    refine bif_split (fun h3 => ?_) fun h3 => ?_
    · refine ⟨by decide, (draw_ok h' 20 (by decide)).mono ?_⟩
      rintro r os ⟨u, o'', rfl, rfl, h', h1, h2⟩
      simp only [WPx, cond_true, cond_false, List.getElem?_cons_succ, List.getElem?_cons_zero, List.set_cons_succ, List.set_cons_zero, List.map_cons, List.map_nil, Option.getD_some, List.nodup_nil, true_and, and_true]
      have := h2 (by decide)
      exact ⟨o'', _, rfl, h', by omega, by omega⟩
    · exact ⟨o', _, rfl, h', by omega, by omega⟩
  rintro _ ⟨o, v, rfl, h, hv1, hv2⟩
  obtain ⟨n, rfl⟩ := Int.eq_ofNat_of_zero_le (show 0 ≤ v by omega)
  rw [wp_retS]
  rw [wp_metS]
  rw [wp_cst]
  rw [opR_fz]
  refine ⟨by rw [vw_fz, bind_some', tyD_str], ?_⟩
  rw [wp_aCons]
  generalize hd0 : D.int (n : Int) = d0
  refine (word_tail n d0 hd0.symm h (by omega)).mono ?_
  rintro _ _ ⟨o, l, h, rfl, rfl, hl, hc⟩
  have ej : joinD (.str (Str.ofString "")) [.lst (l.map fun c => D.str ⟨#[c]⟩)] = some (.fz (.str (Txt.join Str.empty (l.map fun c => (⟨#[c]⟩ : Str))))) := by
    show ((strsD (l.map fun c => D.str ⟨#[c]⟩)).bind fun ys => if (ys.map (·.length)).sum + ys.length * Str.empty.length ≤ 16777216 then some (O.fz (.str (Txt.join Str.empty ys))) else none) = _
    rw [strsD_str, bind_some', if_pos]
    have e1 : ((l.map fun c => (⟨#[c]⟩ : Str)).map (·.length)).sum = l.length := by
      rw [List.map_map]
      clear hl hc
      induction l with
      | nil => rfl
      | cons a l ih => simp only [List.map_cons, List.sum_cons, ih, List.length_cons]; show 1 + l.length = _; omega
    have e2 : Str.empty.length = 0 := rfl
    rw [e1, e2]; omega
  have e3 := join_one l
  have e4 : (Txt.join Str.empty (l.map fun c => (⟨#[c]⟩ : Str))).length = n := by
    rw [← hl, ← congrArg List.length e3]; rfl
  simp only [WPx, cond_true, cond_false, List.getElem?_cons_succ, List.getElem?_cons_zero, List.set_cons_succ, List.set_cons_zero, List.map_cons, List.map_nil, Option.getD_some, List.nodup_nil, true_and, and_true, ej]
  exact ⟨⟨Txt.join Str.empty (l.map fun c => (⟨#[c]⟩ : Str)), by omega, by omega, by rw [e3]; exact hc⟩, o, rfl, rfl, h⟩
end Ev
-- P5
set_option Elab.async false
set_option linter.all false
set_option maxRecDepth 100000
set_option maxHeartbeats 4000000
namespace Ev
open PySem L2 PySem.W PyProof.Rows
/-- a table: its name, its width -/
abbrev Tb := Nm × Nat
def encT (t : Tb) : D := .tup [.str t.1.s, .int t.2]
theorem vals_ok {o : O} (n : Nat) (d0 : D) (hd0 : d0 = .tup [.str nm, .int (n : Int)]) (h : Dr o) (hn : n ≤ 1000) (x : O) (m : Int) (h1 : 1 ≤ m) (hm : m < 1000000) : wpM (lcS (rngS rng1D (aCons (prim2 (varB 3) (cst (.int 1)) idxD) aNil)) (nameT 4) tYesS (callS f_law_draw (aCons (varB 0) (aCons (varS 2) aNil))) [4]) [o, x, .fz (.int m), .fz d0, .no]
    fun r s => ∃ (o : O) (l : List Int), Dr o ∧ s = [o, x, .fz (.int m), .fz d0, .no] ∧ r = .ow (.lst (encI l)) ∧ l.length = n ∧ ∀ c ∈ l, 0 ≤ c ∧ c < m := by
  have hsz : ((List.range n).map fun (i : Nat) => D.int (i : Int)).length ≤ sizeLine := by
    rw [List.length_map, List.length_range]
    exact Nat.le_trans hn (by show 1000 ≤ sizeLine; decide)
  have hsrc : wpM (rngS rng1D (aCons (prim2 (varB 3) (cst (.int 1)) idxD) aNil)) [o, x, .fz (.int m), .fz d0, .no] fun a b => a = ((List.range n).map fun (i : Nat) => D.int (i : Int)) ∧ b = [o, x, .fz (.int m), .fz d0, .no] := by
    simp only [WPx, cond_true, cond_false, List.getElem?_cons_succ, List.getElem?_cons_zero, List.set_cons_succ, List.set_cons_zero, List.map_cons, List.map_nil, Option.getD_some, List.nodup_nil, true_and, and_true]
    have e : idxD d0 (.int 1) = some (.fz (.int (n : Int))) := by rw [hd0]; rfl
    simp only [WPx, cond_true, cond_false, List.getElem?_cons_succ, List.getElem?_cons_zero, List.set_cons_succ, List.set_cons_zero, List.map_cons, List.map_nil, Option.getD_some, List.nodup_nil, true_and, and_true, e, rng1D_eq n (show n ≤ 1000000 by omega)]
  refine wp_lc _ _ hsrc hsz (fun i acc s => ∃ (o : O) (l : List Int), Dr o ∧ s = [o, x, .fz (.int m), .fz d0, .no] ∧ acc = encI l ∧ l.length = i ∧ ∀ c ∈ l, 0 ≤ c ∧ c < m) ⟨o, [], h, rfl, rfl, rfl, by simp⟩ ?_ ?_
  · rintro j d acc s hj ⟨o, l, h, rfl, rfl, hl, hc⟩
    simp only [WPx, cond_true, cond_false, List.getElem?_cons_succ, List.getElem?_cons_zero, List.set_cons_succ, List.set_cons_zero, List.map_cons, List.map_nil, Option.getD_some, List.nodup_nil, true_and, and_true, getB_dr h]
    refine ⟨by decide, (draw_ok h m hm).mono ?_⟩
    rintro r os ⟨w, o', rfl, rfl, h', h1', h2⟩
    simp only [WPx, cond_true, cond_false, List.getElem?_cons_succ, List.getElem?_cons_zero, List.set_cons_succ, List.set_cons_zero, List.map_cons, List.map_nil, Option.getD_some, List.nodup_nil, true_and, and_true]
    refine ⟨o', l ++ [w], h', rfl, by simp [encI], by simp [hl], ?_⟩
    intro c hx
    rcases List.mem_append.1 hx with hx | hx
    · exact hc c hx
    · rw [List.mem_singleton.1 hx]; exact ⟨h1', h2 h1⟩
  · rintro acc s ⟨o, l, h, rfl, rfl, hl, hc⟩
    exact ⟨o, l, h, rfl, rfl, by simpa using hl, hc⟩
/-- a row that the law draws -/
theorem row_ok {o : O} (ts : List Tb) (m : Int) (h : Dr o) (h0 : ts ≠ []) (hz : ts.length < 1000000) (hw : ∀ t ∈ ts, t.2 ≤ 1000) (h1 : 1 ≤ m) (hm : m < 1000000) : wpF f_law_row [o, .fz (.lst (ts.map encT)), .fz (.int m)]
    fun r os => ∃ (o' : O) (t : Tb) (l : List Int), t ∈ ts ∧ r = .fz (encRw (t.1, l)) ∧ os = [o', .no, .no] ∧ Dr o' ∧ l.length = t.2 ∧ ∀ c ∈ l, 0 ≤ c ∧ c < m := by
  have hp : 0 < ts.length := List.length_pos_iff.2 h0
  refine wp_fun [o, .fz (.lst (ts.map encT)), .fz (.int m), .no, .no] ?_
  unfold b_law_row
  refine wp_cut (fun s => ∃ (o : O) (t : Tb), t ∈ ts ∧ s = [o, .fz (.lst (ts.map encT)), .fz (.int m), .fz (encT t), .no] ∧ Dr o) ?_ ?_
  · simp only [WPx, cond_true, cond_false, List.getElem?_cons_succ, List.getElem?_cons_zero, List.set_cons_succ, List.set_cons_zero, List.map_cons, List.map_nil, Option.getD_some, List.nodup_nil, true_and, and_true, getB_dr h, List.length_map]
    refine ⟨by decide, (draw_ok h ts.length (by omega)).mono ?_⟩
    rintro r os ⟨w, o', rfl, rfl, h', h1', h2⟩
    have h2 := h2 (by omega)
    obtain ⟨w, rfl⟩ := Int.eq_ofNat_of_zero_le h1'
    have hw : w < ts.length := by omega
    have e : atI (ts.map encT) (w : Int) = some (encT ts[w]) := atI_nat (by simp [hw])
    simp only [WPx, cond_true, cond_false, List.getElem?_cons_succ, List.getElem?_cons_zero, List.set_cons_succ, List.set_cons_zero, List.map_cons, List.map_nil, Option.getD_some, List.nodup_nil, true_and, and_true, e]
    exact ⟨o', ts[w], List.getElem_mem _, rfl, h'⟩
  rintro _ ⟨o, t, ht, rfl, h⟩
  have e0 : idxD (encT t) (.int 0) = some (.fz (.str t.1.s)) := by rfl
  have e1 : encT t = .tup [.str t.1.s, .int (t.2 : Int)] := rfl
  generalize hd : encT t = d0 at e0 e1 ⊢
  simp only [wp_retS, wp_prim2, wp_tupS, wp_aCons, wp_varB, wp_cst, wp_aNil, wp_primN]
  simp only [WPx, cond_true, cond_false, List.getElem?_cons_succ, List.getElem?_cons_zero, List.set_cons_succ, List.set_cons_zero, List.map_cons, List.map_nil, Option.getD_some, List.nodup_nil, true_and, and_true, e0]
  refine ⟨by show 1 ≤ sizeLine; decide, (vals_ok t.2 d0 e1 h (hw t ht) _ m h1 hm).mono ?_⟩
  rintro _ _ ⟨o', l, h', rfl, rfl, hl, hc⟩
  have ea : addD (.tup [.str t.1.s]) (.tup (encI l)) = some (.fz (encRw (t.1, l))) := by
    show (if fits ([D.str t.1.s].length + (encI l).length) then some (O.fz (.tup ([D.str t.1.s] ++ encI l))) else none) = _
    rw [if_pos]
    · rfl
    · have := hw t ht
      show 1 + (encI l).length ≤ sizeLine
      exact Nat.le_trans (show 1 + (encI l).length ≤ 1001 by unfold encI; rw [List.length_map]; omega) (by show 1001 ≤ sizeLine; decide)
  simp only [WPx, cond_true, cond_false, List.getElem?_cons_succ, List.getElem?_cons_zero, List.set_cons_succ, List.set_cons_zero, List.map_cons, List.map_nil, Option.getD_some, List.nodup_nil, true_and, and_true, ea]
  exact ⟨o', t, l, ht, rfl, rfl, h', hl, hc⟩
end Ev
-- P6
set_option Elab.async false
set_option linter.all false
set_option maxRecDepth 100000
set_option maxHeartbeats 4000000
namespace Ev
open PySem L2 PySem.W PyProof.Rows
theorem cut19 (s : Str) : (cutS s none (some 19)).cps.toList = s.cps.toList.take 19 := by
  have z : s.cps.toList.length = s.length := Array.length_toList
  have e : (cutS s none (some 19)).cps.toList = (s.cps.toList.drop 0).take (HT.sIx s.length s.length (some 19) - 0) := by unfold cutS; simp [HT.sIx]
  rw [e, show HT.sIx s.length s.length (some 19) = min 19 s.length from HT.sIx_nat _ _ 19, List.drop_zero, Nat.sub_zero, ← z]
  rw [List.take_eq_take_iff]; omega
def marks : List Nat := ("abcdefghijkl" : Str).cps.toList
theorem marks_wcs : ∀ c ∈ marks, c ∈ wcs := by decide +kernel
/-- a mark ahead of a word -/
def Nm.pre (a : Nm) (c : Nat) (h : c ∈ marks) : Nm where
  s := ⟨#[c]⟩ ++ cutS a.s none (some 19)
  len1 := by rw [PySem.Str.length_append]; show 1 ≤ 1 + _; omega
  len2 := by
    have z := congrArg List.length (cut19 a.s)
    rw [PySem.Str.length_append]
    have : (cutS a.s none (some 19)).length ≤ 19 := by
      have e : (cutS a.s none (some 19)).cps.toList.length = (cutS a.s none (some 19)).length := Array.length_toList
      rw [← e, z, List.length_take]; omega
    show 1 + _ ≤ 20; omega
  cs := by
    intro x hx
    rw [PySem.Str.cps_append, Array.toList_append, cut19, List.mem_append] at hx
    rcases hx with hx | hx
    · have : x = c := by simpa using hx
      rw [this]; exact marks_wcs c h
    · exact a.cs x (List.mem_of_mem_take hx)
/-- a mark behind a word -/
def Nm.post (a : Nm) (c : Nat) (h : c ∈ marks) : Nm where
  s := cutS a.s none (some 19) ++ ⟨#[c]⟩
  len1 := by rw [PySem.Str.length_append]; show 1 ≤ _ + 1; omega
  len2 := by
    have z := congrArg List.length (cut19 a.s)
    rw [PySem.Str.length_append]
    have : (cutS a.s none (some 19)).length ≤ 19 := by
      have e : (cutS a.s none (some 19)).cps.toList.length = (cutS a.s none (some 19)).length := Array.length_toList
      rw [← e, z, List.length_take]; omega
    show _ + 1 ≤ 20; omega
  cs := by
    intro x hx
    rw [PySem.Str.cps_append, Array.toList_append, cut19, List.mem_append] at hx
    rcases hx with hx | hx
    · exact a.cs x (List.mem_of_mem_take hx)
    · have : x = c := by simpa using hx
      rw [this]; exact marks_wcs c h
theorem pre_inj (a : Nm) {c d : Nat} {h h'} (e : a.pre c h = a.pre d h') : c = d := by
  have := congrArg (fun x => x.s.cps.toList.head?) e
  simp only [Nm.pre, PySem.Str.cps_append, Array.toList_append] at this
  simpa using this
theorem post_inj (a : Nm) {c d : Nat} {h h'} (e : a.post c h = a.post d h') : c = d := by
  have := congrArg (fun x => x.s.cps.toList.getLast?) e
  simp only [Nm.post, PySem.Str.cps_append, Array.toList_append] at this
  simpa using this
/-- what a mark makes of a word -/
def Nm.mk2 (a : Nm) (w : Int) (c : Nat) (h : c ∈ marks) : Nm := if w = 1 then a.post c h else a.pre c h
theorem mk2_inj (a : Nm) (w : Int) {c d : Nat} {h h'} (e : a.mk2 w c h = a.mk2 w d h') : c = d := by
  unfold Nm.mk2 at e
  split at e
  · exact post_inj a e
  · exact pre_inj a e
theorem nd_len {α : Type} [DecidableEq α] : ∀ (l xs : List α), l.Nodup → (∀ x ∈ l, x ∈ xs) → l.length ≤ xs.length
  | [], _, _, _ => Nat.zero_le _
  | a :: l, xs, h, k => by
    have ha := k a (by simp)
    have hn := List.nodup_cons.1 h
    have := nd_len l (xs.erase a) hn.2 fun x hx => (List.mem_erase_of_ne (by rintro rfl; exact hn.1 hx)).2 (k x (by simp [hx]))
    rw [List.length_erase_of_mem ha] at this
    have := List.length_pos_of_mem ha
    simp only [List.length_cons]
    omega
theorem marks_all {a : Nm} {w : Int} {xs : List Nm} (h : ∀ c (h : c ∈ marks), a.mk2 w c h ∈ xs) : 12 ≤ xs.length := by
  have k : (marks.attach.map fun c => a.mk2 w c.1 c.2).length ≤ xs.length := by
    refine nd_len _ _ ?_ ?_
    · have n : marks.Nodup := by decide +kernel
      rw [List.nodup_iff_pairwise_ne] at n
      rw [List.Nodup, List.pairwise_map]
      have n2 : marks.attach.Pairwise fun x y => x.1 ≠ y.1 := by
        have := n; rw [← List.attach_map_subtype_val marks, List.pairwise_map] at this; exact this
      exact n2.imp fun hne e => hne (mk2_inj a w e)
    · intro x hx
      obtain ⟨c, _, rfl⟩ := List.mem_map.1 hx
      exact h c.1 c.2
  have z : marks.length = 12 := by decide +kernel
  rw [List.length_map, List.length_attach, z] at k
  exact k
theorem mk2_txt (a : Nm) {c : Nat} (h : c ∈ marks) : addD (.str ⟨#[c]⟩) (.str (cutS a.s none (some 19))) = some (.fz (encN (a.pre c h))) ∧ addD (.str (cutS a.s none (some 19))) (.str ⟨#[c]⟩) = some (.fz (encN (a.post c h))) ∧ slD none (some 19) (.str a.s) = some (.fz (.str (cutS a.s none (some 19)))) := by
  have l1 := (a.pre c h).len2
  have l2 := (a.post c h).len2
  have e1 : (⟨#[c]⟩ ++ cutS a.s none (some 19) : Str).length = (⟨#[c]⟩ : Str).length + (cutS a.s none (some 19)).length := PySem.Str.length_append ..
  have e2 : (cutS a.s none (some 19) ++ ⟨#[c]⟩ : Str).length = (cutS a.s none (some 19)).length + (⟨#[c]⟩ : Str).length := PySem.Str.length_append ..
  have hz : 20 ≤ sizeLine := by decide
  refine ⟨?_, ?_, ?_⟩
  · show (if fits ((⟨#[c]⟩ : Str).length + (cutS a.s none (some 19)).length) then some (O.fz (.str (⟨#[c]⟩ ++ cutS a.s none (some 19)))) else none) = _
    rw [if_pos]; · rfl
    · exact Nat.le_trans (by rw [← e1]; exact l1) hz
  · show (if fits ((cutS a.s none (some 19)).length + (⟨#[c]⟩ : Str).length) then some (O.fz (.str (cutS a.s none (some 19) ++ ⟨#[c]⟩))) else none) = _
    rw [if_pos]; · rfl
    · exact Nat.le_trans (by rw [← e2]; exact l2) hz
  · show (if fits a.s.length then some (O.fz (.str (cutS a.s none (some 19)))) else none) = _
    rw [if_pos]
    exact Nat.le_trans a.len2 hz
theorem marks_it : iterD (.str "abcdefghijkl") = some (marks.map fun c => D.str ⟨#[c]⟩) := by
  rw [iterD_str]
  rfl
theorem pool_ok {o : O} (n : Nat) (h : Dr o) (hn : n ≤ 12) : wpF f_law_pool [o, .fz (.int (n : Int))] fun r os => ∃ (xs : List Nm) (o' : O), r = .lst (xs.map encN) ∧ os = [o', .no] ∧ Dr o' ∧ xs.length = n ∧ xs.Nodup := by
  generalize hd0 : D.int (n : Int) = d0
  refine wp_fun [o, .fz d0, .no, .no, .no, .no, .no, .no] ?_
  unfold b_law_pool
  refine wp_cut (fun s => s = [o, .fz d0, .lst [], .no, .no, .no, .no, .no]) ?_ ?_
  · simp only [WPx, cond_true, cond_false, List.getElem?_cons_succ, List.getElem?_cons_zero, List.set_cons_succ, List.set_cons_zero, List.map_cons, List.map_nil, Option.getD_some, List.nodup_nil, true_and, and_true]
    exact (by show 0 ≤ sizeLine; omega)
  rintro _ rfl
  refine wp_cut (fun s => ∃ (xs : List Nm) (o : O), s = [o, .fz d0, .lst (xs.map encN), .no, .no, .no, .no, .no] ∧ Dr o ∧ xs.length = n ∧ xs.Nodup) ?_ ?_
  · have hsrc : wpM (rngS rng1D (aCons (varB 1) aNil)) [o, .fz d0, .lst [], .no, .no, .no, .no, .no] fun a b => a = ((List.range n).map fun (i : Nat) => D.int (i : Int)) ∧ b = [o, .fz d0, .lst [], .no, .no, .no, .no, .no] := by
      simp only [WPx, cond_true, cond_false, List.getElem?_cons_succ, List.getElem?_cons_zero, List.set_cons_succ, List.set_cons_zero, List.map_cons, List.map_nil, Option.getD_some, List.nodup_nil, true_and, and_true]
      rw [← hd0, rng1D_eq n (by omega)]
      simp only [WPx, cond_true, cond_false, List.getElem?_cons_succ, List.getElem?_cons_zero, List.set_cons_succ, List.set_cons_zero, List.map_cons, List.map_nil, Option.getD_some, List.nodup_nil, true_and, and_true]
    refine wp_for _ _ hsrc (fun i s => ∃ (xs : List Nm) (o : O), s = [o, .fz d0, .lst (xs.map encN), .no, .no, .no, .no, .no] ∧ Dr o ∧ xs.length = i ∧ xs.Nodup) ⟨[], o, rfl, h, rfl, .nil⟩ ?_ ?_
    · rintro i d s hd ⟨xs, o, rfl, h, hl, hx⟩
      have hin : i < n := by
        have := (List.getElem?_eq_some_iff.mp hd).1
        simpa using this
      simp only [nameT_eq, oP_some, List.set_cons_succ, List.set_cons_zero]
      refine wp_cut (fun s => ∃ (w : Nm) (o : O), s = [o, .fz d0, .lst (xs.map encN), .fz d, .fz (encN w), .no, .no, .no] ∧ Dr o) ?_ ?_
      · simp only [WPx, cond_true, cond_false, List.getElem?_cons_succ, List.getElem?_cons_zero, List.set_cons_succ, List.set_cons_zero, List.map_cons, List.map_nil, Option.getD_some, List.nodup_nil, true_and, and_true, getB_dr h]
        refine ⟨by decide, (word_ok h).mono ?_⟩
        rintro r os ⟨w, o', rfl, rfl, h'⟩
        simp only [WPx, cond_true, cond_false, List.getElem?_cons_succ, List.getElem?_cons_zero, List.set_cons_succ, List.set_cons_zero, List.map_cons, List.map_nil, Option.getD_some, List.nodup_nil, true_and, and_true]
        exact ⟨w, o', rfl, h'⟩
      rintro _ ⟨w, o, rfl, h⟩
      refine wp_cut (fun s => ∃ (v : Int) (o : O), s = [o, .fz d0, .lst (xs.map encN), .fz d, .fz (encN w), .fz (.int v), .no, .no] ∧ Dr o) ?_ ?_
      · simp only [WPx, cond_true, cond_false, List.getElem?_cons_succ, List.getElem?_cons_zero, List.set_cons_succ, List.set_cons_zero, List.map_cons, List.map_nil, Option.getD_some, List.nodup_nil, true_and, and_true, getB_dr h]
        refine ⟨by decide, (draw_ok h 2 (by decide)).mono ?_⟩
        rintro r os ⟨v, o', rfl, rfl, h', -, -⟩
        simp only [WPx, cond_true, cond_false, List.getElem?_cons_succ, List.getElem?_cons_zero, List.set_cons_succ, List.set_cons_zero, List.map_cons, List.map_nil, Option.getD_some, List.nodup_nil, true_and, and_true]
        exact ⟨v, o', rfl, h'⟩
      rintro _ ⟨v, o, rfl, h⟩
      refine wp_cut (fun s => s = [o, .fz d0, .lst (xs.map encN), .fz d, .fz (encN w), .fz (.int v), .fz (encN w), .no]) ?_ ?_
      · simp only [WPx, cond_true, cond_false, List.getElem?_cons_succ, List.getElem?_cons_zero, List.set_cons_succ, List.set_cons_zero, List.map_cons, List.map_nil, Option.getD_some, List.nodup_nil, true_and, and_true]
      rintro _ rfl
      have mz : marks.length = 12 := by decide +kernel
      have einO : ∀ nm : Nm, inO (encN nm) (.lst (xs.map encN)) = some (.fz (.bl (decide (nm ∈ xs)))) := fun nm => by unfold inO; rw [inD_nm]; rfl
      refine wp_cut (fun s => ∃ nm : Nm, nm ∉ xs ∧ s = [o, .fz d0, .lst (xs.map encN), .fz d, .fz (encN w), .fz (.int v), .fz (encN nm), .no]) ?_ ?_
      · refine wp_for (marks.map fun c => D.str ⟨#[c]⟩) [o, .fz d0, .lst (xs.map encN), .fz d, .fz (encN w), .fz (.int v), .fz (encN w), .no] (by simp only [WPx, cond_true, cond_false, List.getElem?_cons_succ, List.getElem?_cons_zero, List.set_cons_succ, List.set_cons_zero, List.map_cons, List.map_nil, Option.getD_some, List.nodup_nil, true_and, and_true]; rfl)
          (fun j s => ∃ nm : Nm, s = [o, .fz d0, .lst (xs.map encN), .fz d, .fz (encN w), .fz (.int v), .fz (encN nm), .no] ∧ (nm ∈ xs → ∀ c (h : c ∈ marks), c ∈ marks.take j → w.mk2 v c h ∈ xs)) ⟨w, rfl, by simp⟩ ?_ ?_
        · rintro j d s hj ⟨nm, rfl, hm⟩
          rw [List.getElem?_map] at hj
          obtain ⟨c, hc, rfl⟩ := Option.map_eq_some_iff.mp hj
          have hcm : c ∈ marks := List.mem_of_getElem? hc
          obtain ⟨a1, a2, a3⟩ := mk2_txt w hcm
          have ew : encN w = .str w.s := rfl
          simp only [nameT_eq, oP_some, List.set_cons_succ, List.set_cons_zero]
          simp only [WPx, cond_true, cond_false, List.getElem?_cons_succ, List.getElem?_cons_zero, List.set_cons_succ, List.set_cons_zero, List.map_cons, List.map_nil, Option.getD_some, List.nodup_nil, true_and, and_true, einO]
          refine bif_split (fun h1 => ?_) fun h1 => ?_
          · have h1 : nm ∈ xs := by simpa using h1
            simp only [WPx, cond_true, cond_false, List.getElem?_cons_succ, List.getElem?_cons_zero, List.set_cons_succ, List.set_cons_zero, List.map_cons, List.map_nil, Option.getD_some, List.nodup_nil, true_and, and_true, ew, a1, a2, a3]
            refine bif_split (fun h2 => ?_) fun h2 => ?_
            · refine ⟨w.post c hcm, rfl, fun hk c' h' hc' => ?_⟩
              rw [List.take_add_one, hc] at hc'
              rcases List.mem_append.1 hc' with hc' | hc'
              · exact hm h1 c' h' hc'
              · have e : c' = c := by simpa using hc'
                subst e
                have h2 : v = 1 := by simpa using h2
                unfold Nm.mk2; rw [if_pos h2]; exact hk
            · refine ⟨w.pre c hcm, rfl, fun hk c' h' hc' => ?_⟩
              rw [List.take_add_one, hc] at hc'
              rcases List.mem_append.1 hc' with hc' | hc'
              · exact hm h1 c' h' hc'
              · have e : c' = c := by simpa using hc'
                subst e
                have h2 : ¬ v = 1 := by simpa using h2
                unfold Nm.mk2; rw [if_neg h2]; exact hk
          · have h1 : nm ∉ xs := by simpa using h1
            exact ⟨nm, rfl, fun k => absurd k h1⟩
        · rintro s ⟨nm, rfl, hm⟩
          refine ⟨nm, fun k => ?_, rfl⟩
          have := marks_all (a := w) (w := v) (xs := xs) fun c h => hm k c h (by rw [List.length_map, List.take_length]; exact h)
          omega
      rintro _ ⟨nm, hnm, rfl⟩
      simp only [WPx, cond_true, cond_false, List.getElem?_cons_succ, List.getElem?_cons_zero, List.set_cons_succ, List.set_cons_zero, List.map_cons, List.map_nil, Option.getD_some, List.nodup_nil, true_and, and_true]
      rw [appD_eq _ _ (by rw [List.length_map, hl]; exact Nat.lt_of_lt_of_le (show i < 20 by omega) (by show 20 ≤ sizeLine; decide))]
      simp only [WPx, cond_true, cond_false, List.getElem?_cons_succ, List.getElem?_cons_zero, List.set_cons_succ, List.set_cons_zero, List.map_cons, List.map_nil, Option.getD_some, List.nodup_nil, true_and, and_true]
      refine ⟨xs ++ [nm], o, by simp, h, by simp [hl], ?_⟩
      rw [List.nodup_append]
      exact ⟨hx, by simp, fun a ha b hb => by rw [List.mem_singleton.1 hb]; rintro rfl; exact hnm ha⟩
    · rintro s ⟨xs, o, rfl, h, hl, hx⟩
      rw [List.length_map, List.length_range] at hl
      exact ⟨xs, o, rfl, h, hl, hx⟩
  rintro _ ⟨xs, o, rfl, h, hl, hx⟩
  simp only [WPx, cond_true, cond_false, List.getElem?_cons_succ, List.getElem?_cons_zero, List.set_cons_succ, List.set_cons_zero, List.map_cons, List.map_nil, Option.getD_some, List.nodup_nil, true_and, and_true]
  exact ⟨xs, o, rfl, rfl, h, hl, hx⟩
end Ev
-- P7
set_option Elab.async false
set_option linter.all false
set_option maxRecDepth 100000
set_option maxHeartbeats 4000000
namespace Ev
open PySem L2 PySem.W PyProof.Rows
/-- range(n) -/
def rgD (n : Nat) : List D := (List.range n).map fun (i : Nat) => D.int (i : Int)
theorem rgD_get {n j : Nat} {d : D} (h : (rgD n)[j]? = some d) : j < n ∧ d = .int (j : Int) := by
  unfold rgD at h
  rw [List.getElem?_map] at h
  obtain ⟨i, hi, rfl⟩ := Option.map_eq_some_iff.mp h
  obtain ⟨hj, hi⟩ := List.getElem?_eq_some_iff.mp hi
  rw [List.getElem_range] at hi
  subst hi
  exact ⟨by simpa using hj, rfl⟩
theorem rgD_len (n : Nat) : (rgD n).length = n := by unfold rgD; simp
theorem rng1_rgD (n : Nat) (h : n ≤ 1000000) : rng1D [.int (n : Int)] = some (rgD n) := rng1D_eq n h
theorem map_get {α : Type} {f : α → D} {l : List α} {j : Nat} {d : D} (h : (l.map f)[j]? = some d) : ∃ x, l[j]? = some x ∧ d = f x := by
  rw [List.getElem?_map] at h
  obtain ⟨x, hx, e⟩ := Option.map_eq_some_iff.mp h
  exact ⟨x, hx, e.symm⟩
theorem atI_map {α β : Type} {f : α → β} {l : List α} {j : Nat} (h : j < l.length) : atI (l.map f) (j : Int) = some (f l[j]) := atI_nat (by rw [List.getElem?_map, List.getElem?_eq_getElem h]; rfl)
theorem mem_drop_self {α : Type} {l : List α} {j : Nat} (h : j < l.length) : l[j] ∈ l.drop j := by rw [List.drop_eq_getElem_cons h]; exact List.mem_cons_self
theorem fits_le {n : Nat} (h : n ≤ 1000000) : fits n := by
  show n ≤ sizeLine
  rw [sizeL]; omega
theorem le_sl {n : Nat} (h : n ≤ 1000000) : n ≤ sizeLine := by rw [sizeL]; omega
theorem lt_sl {n : Nat} (h : n ≤ 1000000) : n < sizeLine := by rw [sizeL]; omega
theorem tables_ok {o : O} (most widest : Int) (h : Dr o) (h1 : 1 ≤ most) (h2 : most ≤ 10) (w1 : 1 ≤ widest) (w2 : widest ≤ 4) : wpF f_law_tables [o, .fz (.int most), .fz (.int widest)]
    fun r os => ∃ (ts : List Tb) (o' : O), r = .lst (ts.map encT) ∧ os = [o', .no, .no] ∧ Dr o' ∧ ts ≠ [] ∧ (ts.length : Int) ≤ most ∧ (ts.map (·.1)).Nodup ∧ ∀ t ∈ ts, 1 ≤ t.2 ∧ (t.2 : Int) ≤ widest := by
  refine wp_fun [o, .fz (.int most), .fz (.int widest), .no, .no] ?_
  unfold b_law_tables
  refine wp_cut (fun s => ∃ (xs : List Nm) (o : O), s = [o, .fz (.int most), .fz (.int widest), .lst (xs.map encN), .no] ∧ Dr o ∧ xs ≠ [] ∧ (xs.length : Int) ≤ most ∧ xs.Nodup) ?_ ?_
  · simp only [WPx, cond_true, cond_false, List.getElem?_cons_succ, List.getElem?_cons_zero, List.set_cons_succ, List.set_cons_zero, List.map_cons, List.map_nil, Option.getD_some, List.nodup_nil, true_and, and_true, getB_dr h]
    refine ⟨by decide, (draw_ok h most (by omega)).mono ?_⟩
    rintro r os ⟨v, o', rfl, rfl, h', hv1, hv2⟩
    have hv2 := hv2 h1
    obtain ⟨n, hn⟩ := Int.eq_ofNat_of_zero_le (show 0 ≤ 1 + v by omega)
    simp only [WPx, cond_true, cond_false, List.getElem?_cons_succ, List.getElem?_cons_zero, List.set_cons_succ, List.set_cons_zero, List.map_cons, List.map_nil, Option.getD_some, List.nodup_nil, true_and, and_true, hn]
    refine ⟨by decide, (pool_ok n h' (by omega)).mono ?_⟩
    rintro r os ⟨xs, o'', rfl, rfl, h'', hl, hx⟩
    simp only [WPx, cond_true, cond_false, List.getElem?_cons_succ, List.getElem?_cons_zero, List.set_cons_succ, List.set_cons_zero, List.map_cons, List.map_nil, Option.getD_some, List.nodup_nil, true_and, and_true]
    exact ⟨xs, o'', rfl, h'', by rintro rfl; simp at hl; omega, by omega, hx⟩
  rintro _ ⟨xs, o, rfl, h, h0, hl, hx⟩
  rw [wp_retS]
  refine wp_lc (xs.map encN) [o, .fz (.int most), .fz (.int widest), .fz (.lst (xs.map encN)), .no] (by simp only [WPx, cond_true, cond_false, List.getElem?_cons_succ, List.getElem?_cons_zero, List.set_cons_succ, List.set_cons_zero, List.map_cons, List.map_nil, Option.getD_some, List.nodup_nil, true_and, and_true]) (by rw [List.length_map]; exact le_sl (by omega))
    (fun i acc s => ∃ (ts : List Tb) (o : O), s = [o, .fz (.int most), .fz (.int widest), .fz (.lst (xs.map encN)), .no] ∧ acc = ts.map encT ∧ Dr o ∧ ts.map (·.1) = xs.take i ∧ ∀ t ∈ ts, 1 ≤ t.2 ∧ (t.2 : Int) ≤ widest) ⟨[], o, rfl, rfl, h, rfl, by simp⟩ ?_ ?_
  · rintro j d acc s hj ⟨ts, o, rfl, rfl, h, ht, hw⟩
    obtain ⟨x, hx, rfl⟩ := map_get hj
    simp only [WPx, cond_true, cond_false, List.getElem?_cons_succ, List.getElem?_cons_zero, List.set_cons_succ, List.set_cons_zero, List.map_cons, List.map_nil, Option.getD_some, List.nodup_nil, true_and, and_true, getB_dr h]
    refine ⟨by decide, (draw_ok h widest (by omega)).mono ?_⟩
    rintro r os ⟨v, o', rfl, rfl, h', hv1, hv2⟩
    have hv2 := hv2 w1
    obtain ⟨n, hn⟩ := Int.eq_ofNat_of_zero_le (show 0 ≤ 1 + v by omega)
    simp only [WPx, cond_true, cond_false, List.getElem?_cons_succ, List.getElem?_cons_zero, List.set_cons_succ, List.set_cons_zero, List.map_cons, List.map_nil, Option.getD_some, List.nodup_nil, true_and, and_true, hn]
    refine ⟨fits_le (by simp), ts ++ [(x, n)], o', rfl, ?_, h', ?_, ?_⟩
    · simp [encT, encN]
    · rw [List.take_add_one, hx, List.map_append, ht]; rfl
    · intro t ht
      rcases List.mem_append.1 ht with ht | ht
      · exact hw t ht
      · rw [List.mem_singleton.1 ht]; exact ⟨by show 1 ≤ n; omega, by show (n : Int) ≤ widest; omega⟩
  · rintro acc s ⟨ts, o, rfl, rfl, h, ht, hw⟩
    rw [List.length_map, List.take_length] at ht
    have e : ts.length = xs.length := by rw [← ht, List.length_map]
    simp only [WPx, cond_true, cond_false, List.getElem?_cons_succ, List.getElem?_cons_zero, List.set_cons_succ, List.set_cons_zero, List.map_cons, List.map_nil, Option.getD_some, List.nodup_nil, true_and, and_true]
    exact ⟨ts, o, rfl, rfl, h, by rintro rfl; exact h0 (by simpa using ht.symm), by omega, by rw [ht]; exact hx, hw⟩
/-- sorted by the law -/
theorem sorted_ok {α : Type} {enc : α → D} {lt : α → α → Bool} (t : TO enc lt) (xs : List α) (hz : xs.length ≤ 100000) (d0 : D) (hd : iterD d0 = some (xs.map enc)) :
    wpF f_law_sorted [.fz d0] fun r os => ∃ m : List α, r = .lst (m.map enc) ∧ os = [.no] ∧ SSrt lt m ∧ ∀ a, a ∈ m ↔ a ∈ xs := by
  refine wp_fun [.fz d0, .no, .no, .no, .no] ?_
  unfold b_law_sorted
  have hsz := sizeL
  refine wp_cut (fun s => s = [.fz d0, .lst [], .no, .no, .no]) (by simp only [WPx, cond_true, cond_false, List.getElem?_cons_succ, List.getElem?_cons_zero, List.set_cons_succ, List.set_cons_zero, List.map_cons, List.map_nil, Option.getD_some, List.nodup_nil, true_and, and_true]; exact fits_le (by simp)) ?_
  rintro _ rfl
  refine wp_cut (fun s => ∃ m : List α, s = [.fz d0, .lst (m.map enc), .no, .no, .no] ∧ SSrt lt m ∧ ∀ a, a ∈ m ↔ a ∈ xs) ?_ ?_
  · refine wp_for (xs.map enc) [.fz d0, .lst [], .no, .no, .no] (by simp only [WPx, cond_true, cond_false, List.getElem?_cons_succ, List.getElem?_cons_zero, List.set_cons_succ, List.set_cons_zero, List.map_cons, List.map_nil, Option.getD_some, List.nodup_nil, true_and, and_true, hd]) (fun i s => ∃ m : List α, s = [.fz d0, .lst (m.map enc), .no, .no, .no] ∧ SSrt lt m ∧ m.length ≤ i ∧ ∀ a, a ∈ m ↔ a ∈ xs.take i) ⟨[], rfl, .nil, by simp, by simp⟩ ?_ ?_
    · rintro i d s hd' ⟨m, rfl, hm, hml, hmm⟩
      obtain ⟨x, hx, rfl⟩ := map_get hd'
      have hi : i < xs.length := (List.getElem?_eq_some_iff.mp hx).1
      simp only [nameT_eq, oP_some, List.set_cons_succ, List.set_cons_zero]
      refine wp_cut (fun s => s = [.fz d0, .lst (m.map enc), .fz (enc x), .fz (.int 0), .no]) (by simp only [WPx, cond_true, cond_false, List.getElem?_cons_succ, List.getElem?_cons_zero, List.set_cons_succ, List.set_cons_zero, List.map_cons, List.map_nil, Option.getD_some, List.nodup_nil, true_and, and_true]) ?_
      rintro _ rfl
      refine wp_cut (fun s => ∃ p : Nat, p ≤ m.length ∧ s = [.fz d0, .lst (m.map enc), .fz (enc x), .fz (.int p), .no] ∧ (∀ a ∈ m.take p, lt a x = true) ∧ ∀ a ∈ m.drop p, lt a x = false) ?_ ?_
      · refine wp_for (rgD m.length) [.fz d0, .lst (m.map enc), .fz (enc x), .fz (.int 0), .no] (by simp only [WPx, cond_true, cond_false, List.getElem?_cons_succ, List.getElem?_cons_zero, List.set_cons_succ, List.set_cons_zero, List.map_cons, List.map_nil, Option.getD_some, List.nodup_nil, true_and, and_true]; rw [List.length_map, rng1_rgD _ (by omega)]; simp only [WPx, cond_true, cond_false, List.getElem?_cons_succ, List.getElem?_cons_zero, List.set_cons_succ, List.set_cons_zero, List.map_cons, List.map_nil, Option.getD_some, List.nodup_nil, true_and, and_true])
          (fun j s => ∃ p : Nat, p ≤ j ∧ s = [.fz d0, .lst (m.map enc), .fz (enc x), .fz (.int p), .no] ∧ (∀ k (hk : k < m.length), k < p → lt m[k] x = true) ∧ ∀ k (hk : k < m.length), p ≤ k → k < j → lt m[k] x = false) ⟨0, by simp, rfl, by intro k hk h; omega, by intro k hk h1 h2; omega⟩ ?_ ?_
        · rintro j d s hj ⟨p, hp, rfl, k1, k2⟩
          obtain ⟨hjm, rfl⟩ := rgD_get hj
          have e : atI (m.map enc) (j : Int) = some (enc m[j]) := atI_map hjm
          simp only [WPx, cond_true, cond_false, List.getElem?_cons_succ, List.getElem?_cons_zero, List.set_cons_succ, List.set_cons_zero, List.map_cons, List.map_nil, Option.getD_some, List.nodup_nil, true_and, and_true, e, t.lt_]
          cases hlt : lt m[j] x with
          | true =>
            simp only [WPx, cond_true, cond_false, List.getElem?_cons_succ, List.getElem?_cons_zero, List.set_cons_succ, List.set_cons_zero, List.map_cons, List.map_nil, Option.getD_some, List.nodup_nil, true_and, and_true]
            refine ⟨j + 1, by omega, rfl, fun k hk hkj => ?_, fun k hk h1 h2 => by omega⟩
            by_cases hke : k = j
            · subst hke; exact hlt
            · have h3 : lt m[k] m[j] = true := List.pairwise_iff_getElem.mp hm k j hk hjm (by omega)
              exact t.trans _ _ _ h3 hlt
          | false =>
            simp only [WPx, cond_true, cond_false, List.getElem?_cons_succ, List.getElem?_cons_zero, List.set_cons_succ, List.set_cons_zero, List.map_cons, List.map_nil, Option.getD_some, List.nodup_nil, true_and, and_true]
            refine ⟨p, by omega, rfl, k1, fun k hk h1 h2 => ?_⟩
            by_cases hke : k = j
            · subst hke; exact hlt
            · exact k2 k hk h1 (by omega)
        · rintro s ⟨p, hp, rfl, k1, k2⟩
          rw [rgD_len] at hp k2
          simp only [WPx, cond_true, cond_false, List.getElem?_cons_succ, List.getElem?_cons_zero, List.set_cons_succ, List.set_cons_zero, List.map_cons, List.map_nil, Option.getD_some, List.nodup_nil, true_and, and_true]
          refine ⟨p, hp, rfl, fun a ha => ?_, fun a ha => ?_⟩
          · obtain ⟨k, hk, rfl⟩ := List.getElem_of_mem ha
            rw [List.length_take] at hk
            rw [List.getElem_take]
            exact k1 k (by omega) (by omega)
          · obtain ⟨k, hk, rfl⟩ := List.getElem_of_mem ha
            rw [List.length_drop] at hk
            rw [List.getElem_drop]
            exact k2 (p + k) (by omega) (by omega) (by omega)
      rintro _ ⟨p, hp, rfl, k1, k2⟩
      have etk : ∀ a, a ∈ xs.take (i + 1) ↔ a ∈ xs.take i ∨ a = x := fun a => by rw [List.take_add_one, hx]; simp
      have hins : ∀ hne : (∀ a ∈ m.drop p, a ≠ x), SSrt lt (m.take p ++ x :: m.drop p) ∧ (m.take p ++ x :: m.drop p).length ≤ i + 1 ∧ ∀ a, a ∈ m.take p ++ x :: m.drop p ↔ a ∈ xs.take (i + 1) := fun hne => by
        have hmp : SSrt lt (m.take p ++ m.drop p) := by rw [List.take_append_drop]; exact hm
        have hmp' := List.pairwise_append.mp hmp
        refine ⟨List.pairwise_append.mpr ⟨hmp'.1, List.pairwise_cons.mpr ⟨fun a ha => ?_, hmp'.2.1⟩, fun a ha b hb => ?_⟩, ?_, fun a => ?_⟩
        · cases hxa : lt x a with
          | true => rfl
          | false => exact absurd (t.tot _ _ (k2 a ha) hxa) (hne a ha)
        · rcases List.mem_cons.mp hb with rfl | hb
          · exact k1 a ha
          · exact hmp'.2.2 a ha b hb
        · simp; omega
        · rw [etk, ← hmm a]
          have e : a ∈ m ↔ a ∈ m.take p ∨ a ∈ m.drop p := by rw [← List.mem_append, List.take_append_drop]
          rw [e, List.mem_append, List.mem_cons]
          constructor
          · rintro (h | h | h)
            · exact .inl (.inl h)
            · exact .inr h
            · exact .inl (.inr h)
          · rintro ((h | h) | h)
            · exact .inl h
            · exact .inr (.inr h)
            · exact .inr (.inl h)
      have ea1 : addD (.lst ((m.map enc).take p)) (.lst [enc x]) = some (.lst ((m.take p ++ [x]).map enc)) := by
        show (if fits _ then _ else none) = _
        rw [if_pos (fits_le (by simp; omega))]
        simp
      have ea2 : addD (.lst ((m.take p ++ [x]).map enc)) (.lst ((m.map enc).drop p)) = some (.lst ((m.take p ++ x :: m.drop p).map enc)) := by
        show (if fits _ then _ else none) = _
        rw [if_pos (fits_le (by simp; omega))]
        simp
      simp only [WPx, cond_true, cond_false, List.getElem?_cons_succ, List.getElem?_cons_zero, List.set_cons_succ, List.set_cons_zero, List.map_cons, List.map_nil, Option.getD_some, List.nodup_nil, true_and, and_true]
      simp only [List.length_map]
      refine bif_split (fun q => ?_) fun q => ?_
      · have hpm : p = m.length := by omega
        simp only [WPx, cond_true, cond_false, List.getElem?_cons_succ, List.getElem?_cons_zero, List.set_cons_succ, List.set_cons_zero, List.map_cons, List.map_nil, Option.getD_some, List.nodup_nil, true_and, and_true, ea1, ea2]
        refine ⟨fits_le (by simp), ?_⟩
        obtain ⟨q1, q2, q3⟩ := hins (by rw [hpm]; simp)
        exact ⟨_, rfl, q1, q2, q3⟩
      · have hpm : p < m.length := by omega
        have e : atI (m.map enc) (p : Int) = some (enc m[p]) := atI_nat (by simp [hpm])
        obtain ⟨c, hc, hcl⟩ := t.ne_ m[p] x
        simp only [WPx, cond_true, cond_false, List.getElem?_cons_succ, List.getElem?_cons_zero, List.set_cons_succ, List.set_cons_zero, List.map_cons, List.map_nil, Option.getD_some, List.nodup_nil, true_and, and_true, e, hc]
        cases c with
        | true =>
          simp only [WPx, cond_true, cond_false, List.getElem?_cons_succ, List.getElem?_cons_zero, List.set_cons_succ, List.set_cons_zero, List.map_cons, List.map_nil, Option.getD_some, List.nodup_nil, true_and, and_true, ea1, ea2]
          refine ⟨fits_le (by simp), ?_⟩
          obtain ⟨q1, q2, q3⟩ := hins (fun a ha hax => by
            subst hax
            rw [List.drop_eq_getElem_cons hpm] at ha
            rcases List.mem_cons.mp ha with ha | ha
            · have := hcl.mpr ha.symm; cases this
            · have h3 : lt m[p] a = true := (List.pairwise_cons.mp (List.drop_eq_getElem_cons hpm ▸ hm.drop)).1 a ha
              rw [k2 m[p] (mem_drop_self hpm)] at h3
              cases h3)
          exact ⟨_, rfl, q1, q2, q3⟩
        | false =>
          simp only [WPx, cond_true, cond_false, List.getElem?_cons_succ, List.getElem?_cons_zero, List.set_cons_succ, List.set_cons_zero, List.map_cons, List.map_nil, Option.getD_some, List.nodup_nil, true_and, and_true]
          have z := hcl.mp rfl
          refine ⟨m, rfl, hm, by omega, fun a => ?_⟩
          rw [etk, ← hmm a]
          constructor
          · exact .inl
          · rintro (h | rfl)
            · exact h
            · rw [← z]; exact List.getElem_mem _
    · rintro s ⟨m, rfl, hm, hml, hmm⟩
      rw [List.length_map, List.take_length] at hmm
      exact ⟨m, rfl, hm, hmm⟩
  rintro _ ⟨m, rfl, hm, hmm⟩
  simp only [WPx, cond_true, cond_false, List.getElem?_cons_succ, List.getElem?_cons_zero, List.set_cons_succ, List.set_cons_zero, List.map_cons, List.map_nil, Option.getD_some, List.nodup_nil, true_and, and_true]
  exact ⟨m, rfl, rfl, hm, hmm⟩
end Ev
-- PE
set_option Elab.async false
set_option linter.all false
set_option maxRecDepth 100000
set_option maxHeartbeats 4000000
namespace Ev
open PySem L2 PySem.W PyProof.Rows
/-! ## data of ints, texts, tuples, lists: == is = -/
mutual
inductive GdD : Nat → D → Prop
  | int {n : Nat} (i : Int) : GdD (n + 1) (.int i)
  | str {n : Nat} (s : Str) : PyData.strOk s = true → GdD (n + 1) (.str s)
  | tup {n : Nat} {ds : List D} : GdL n ds → GdD (n + 1) (.tup ds)
  | lst {n : Nat} {ds : List D} : GdL n ds → GdD (n + 1) (.lst ds)
inductive GdL : Nat → List D → Prop
  | nil {n : Nat} : GdL n []
  | cons {n : Nat} {d : D} {ds : List D} : GdD n d → GdL n ds → GdL n (d :: ds)
end
theorem GdL.of {n : Nat} {ds : List D} (h : ∀ d ∈ ds, GdD n d) : GdL n ds := by
  induction ds with
  | nil => exact .nil
  | cons x xs ih => exact .cons (h x (by simp)) (ih fun d hd => h d (by simp [hd]))
mutual
theorem GdD.plain : ∀ {n : Nat} {d : D}, GdD n d → d.plain = true ∧ d.p.depth ≤ n
  | _, _, .int i => by simp [D.plain, D.p, PyData.depth]
  | _, _, .str s h => by simp [D.plain, D.p, PyData.depth, h]
  | _, _, .tup h => by have := GdL.plain h; simp only [D.plain, D.p, PyData.depth]; exact ⟨this.1, by omega⟩
  | _, _, .lst h => by have := GdL.plain h; simp only [D.plain, D.p, PyData.depth]; exact ⟨this.1, by omega⟩
theorem GdL.plain : ∀ {n : Nat} {d : List D}, GdL n d → D.plainAll d = true ∧ PyData.depthAll (D.pAll d) ≤ n
  | _, _, .nil => by simp [D.plainAll, D.pAll, PyData.depthAll]
  | _, _, .cons h k => by have a := GdD.plain h; have b := GdL.plain k; simp only [D.plainAll, D.pAll, PyData.depthAll, a.1, b.1]; exact ⟨rfl, by omega⟩
end
theorem GdD.ok {n : Nat} {d : D} (h : GdD n d) (hn : n ≤ 64) : okD d = true := by
  unfold okD
  rw [h.plain.1, Bool.true_and, decide_eq_true_eq]
  exact Nat.le_trans h.plain.2 hn
mutual
theorem GdD.eqv : ∀ {n m : Nat} {d e : D}, GdD n d → GdD m e → (PyData.eqv d.p e.p = true ↔ d = e)
  | _, _, _, _, .int i, .int j => by simp [D.p, PyData.eqv]
  | _, _, _, _, .int i, .str s h => by simp [D.p, PyData.eqv]
  | _, _, _, _, .int i, .tup h => by simp [D.p, PyData.eqv]
  | _, _, _, _, .int i, .lst h => by simp [D.p, PyData.eqv]
  | _, _, _, _, .str s h, .int j => by simp [D.p, PyData.eqv]
  | _, _, _, _, .str s h, .str s' h' => by simp [D.p, PyData.eqv]
  | _, _, _, _, .str s h, .tup h' => by simp [D.p, PyData.eqv]
  | _, _, _, _, .str s h, .lst h' => by simp [D.p, PyData.eqv]
  | _, _, _, _, .tup h, .int j => by simp [D.p, PyData.eqv]
  | _, _, _, _, .tup h, .str s h' => by simp [D.p, PyData.eqv]
  | _, _, _, _, .tup h, .tup h' => by simp only [D.p, PyData.eqv, GdL.eqv h h', D.tup.injEq]
  | _, _, _, _, .tup h, .lst h' => by simp [D.p, PyData.eqv]
  | _, _, _, _, .lst h, .int j => by simp [D.p, PyData.eqv]
  | _, _, _, _, .lst h, .str s h' => by simp [D.p, PyData.eqv]
  | _, _, _, _, .lst h, .tup h' => by simp [D.p, PyData.eqv]
  | _, _, _, _, .lst h, .lst h' => by simp only [D.p, PyData.eqv, GdL.eqv h h', D.lst.injEq]
theorem GdL.eqv : ∀ {n m : Nat} {d e : List D}, GdL n d → GdL m e → (PyData.eqvAll (D.pAll d) (D.pAll e) = true ↔ d = e)
  | _, _, _, _, .nil, .nil => by simp [D.pAll, PyData.eqvAll]
  | _, _, _, _, .nil, .cons h k => by simp [D.pAll, PyData.eqvAll]
  | _, _, _, _, .cons h k, .nil => by simp [D.pAll, PyData.eqvAll]
  | _, _, _, _, .cons h k, .cons h' k' => by simp only [D.pAll, PyData.eqvAll, Bool.and_eq_true, GdD.eqv h h', GdL.eqv k k', List.cons.injEq]
end
theorem GdD.dec {n m : Nat} {d e : D} (h : GdD n d) (k : GdD m e) : PyData.eqv d.p e.p = decide (d = e) := by
  rw [Bool.eq_iff_iff, h.eqv k, decide_eq_true_eq]
theorem GdD.eqD {n m : Nat} {d e : D} (h : GdD n d) (k : GdD m e) (hn : n ≤ 64) (hm : m ≤ 64) : eqD d e = some (.fz (.bl (decide (d = e)))) := by
  have h1 := h.ok hn
  have h2 := k.ok hm
  have h3 := h.dec k
  cases h <;> cases k <;> first
    | (show (if okD _ = true ∧ okD _ = true then oB _ else none) = _; rw [if_pos ⟨h1, h2⟩, h3])
    | (simp [Ev.eqD])
theorem GdD.neD {n m : Nat} {d e : D} (h : GdD n d) (k : GdD m e) (hn : n ≤ 64) (hm : m ≤ 64) : neD d e = some (.fz (.bl (!decide (d = e)))) := by
  have h1 := h.ok hn
  have h2 := k.ok hm
  have h3 := h.dec k
  cases h <;> cases k <;> first
    | (show (if okD _ = true ∧ okD _ = true then oB _ else none) = _; rw [if_pos ⟨h1, h2⟩, h3])
    | (simp [Ev.neD])
/-- an encoding that == tells -/
structure EQ {α : Type} (enc : α → D) : Prop where
  gd : ∀ a, GdD 9 (enc a)
  inj : ∀ a b, enc a = enc b → a = b
section
variable {α : Type} [DecidableEq α] {enc : α → D}
theorem EQ.dec (h : EQ enc) (a b : α) : decide (enc a = enc b) = decide (a = b) := by
  rw [decide_eq_decide]
  exact ⟨h.inj a b, fun e => by rw [e]⟩
theorem EQ.eq_ (h : EQ enc) (a b : α) : eqD (enc a) (enc b) = some (.fz (.bl (decide (a = b)))) := by
  rw [(h.gd a).eqD (h.gd b) (by decide) (by decide), h.dec]
theorem EQ.ne_ (h : EQ enc) (a b : α) : neD (enc a) (enc b) = some (.fz (.bl (!decide (a = b)))) := by
  rw [(h.gd a).neD (h.gd b) (by decide) (by decide), h.dec]
theorem EQ.okL (h : EQ enc) (xs : List α) : okD (.lst (xs.map enc)) = true ∧ okD (.tup (xs.map enc)) = true := by
  have k : GdL 9 (xs.map enc) := .of fun d hd => by
    obtain ⟨a, _, rfl⟩ := List.mem_map.1 hd
    exact h.gd a
  exact ⟨(GdD.lst k).ok (by decide), (GdD.tup k).ok (by decide)⟩
theorem EQ.inB (h : EQ enc) (a : α) (xs : List α) : inB (enc a) (xs.map enc) = decide (a ∈ xs) := by
  unfold Ev.inB
  rw [List.any_map, Bool.eq_iff_iff, List.any_eq_true, decide_eq_true_eq]
  constructor
  · rintro ⟨x, hx, k⟩
    have k : PyData.eqv (enc x).p (enc a).p = true := k
    rw [(h.gd x).eqv (h.gd a)] at k
    rw [← h.inj _ _ k]; exact hx
  · intro k
    exact ⟨a, k, by show PyData.eqv (enc a).p (enc a).p = true; rw [(h.gd a).eqv (h.gd a)]⟩
theorem EQ.inD_l (h : EQ enc) (a : α) (xs : List α) : inD (enc a) (.lst (xs.map enc)) = some (decide (a ∈ xs)) := by
  have k : inD (enc a) (.lst (xs.map enc)) = if okD (enc a) = true ∧ okD (.lst (xs.map enc)) = true then some (Ev.inB (enc a) (xs.map enc)) else none := by
    have := h.gd a
    generalize enc a = d at this ⊢
    cases this <;> rfl
  rw [k, if_pos ⟨(h.gd a).ok (by decide), (h.okL xs).1⟩, h.inB]
theorem EQ.inD_t (h : EQ enc) (a : α) (xs : List α) : inD (enc a) (.tup (xs.map enc)) = some (decide (a ∈ xs)) := by
  have k : inD (enc a) (.tup (xs.map enc)) = if okD (enc a) = true ∧ okD (.tup (xs.map enc)) = true then some (Ev.inB (enc a) (xs.map enc)) else none := by
    have := h.gd a
    generalize enc a = d at this ⊢
    cases this <;> rfl
  rw [k, if_pos ⟨(h.gd a).ok (by decide), (h.okL xs).2⟩, h.inB]
theorem EQ.in_l (h : EQ enc) (a : α) (xs : List α) : inO (enc a) (.lst (xs.map enc)) = some (.fz (.bl (decide (a ∈ xs)))) := by unfold inO; rw [h.inD_l]; rfl
theorem EQ.in_t (h : EQ enc) (a : α) (xs : List α) : inO (enc a) (.tup (xs.map enc)) = some (.fz (.bl (decide (a ∈ xs)))) := by unfold inO; rw [h.inD_t]; rfl
theorem EQ.nin_l (h : EQ enc) (a : α) (xs : List α) : ninO (enc a) (.lst (xs.map enc)) = some (.fz (.bl (!decide (a ∈ xs)))) := by unfold ninO; rw [h.inD_l]; rfl
theorem EQ.nin_t (h : EQ enc) (a : α) (xs : List α) : ninO (enc a) (.tup (xs.map enc)) = some (.fz (.bl (!decide (a ∈ xs)))) := by unfold ninO; rw [h.inD_t]; rfl
theorem EQ.index (h : EQ enc) (a : α) (xs : List α) (hm : a ∈ xs) : indexD (.lst (xs.map enc)) [enc a] = some (.fz (.int ((xs.idxOf a : Nat) : Int))) := by
  show (if okD (enc a) = true ∧ okD (.lst (xs.map enc)) = true then ((xs.map enc).findIdx? fun z => PyData.eqv z.p (enc a).p).map fun j => O.fz (.int ((j : Nat) : Int)) else none) = _
  rw [if_pos ⟨(h.gd a).ok (by decide), (h.okL xs).1⟩]
  have e : (xs.map enc).findIdx? (fun z => PyData.eqv z.p (enc a).p) = some (xs.idxOf a) := by
    rw [List.findIdx?_map]
    have e2 : ((fun z => PyData.eqv z.p (enc a).p) ∘ enc) = fun x => x == a := by
      funext x
      show PyData.eqv (enc x).p (enc a).p = _
      rw [(h.gd x).dec (h.gd a), h.dec]
      rw [Bool.eq_iff_iff]; simp
    rw [e2]
    unfold List.idxOf
    rw [List.findIdx?_eq_some_iff_findIdx_eq]
    exact ⟨List.findIdx_lt_length_of_exists ⟨a, hm, by simp⟩, rfl⟩
  rw [e]
  rfl
end
theorem eq_int : EQ D.int := ⟨fun a => .int a, fun a b h => D.int.inj h⟩
theorem eq_nm : EQ encN := ⟨fun a => .str _ a.ok, fun a b h => Nm.ext' (D.str.inj h)⟩
theorem encI_inj : ∀ {a b : List Int}, encI a = encI b → a = b := by
  intro a
  induction a with
  | nil => intro b h; cases b with
    | nil => rfl
    | cons y ys => cases h
  | cons x xs ih => intro b h; cases b with
    | nil => cases h
    | cons y ys =>
      have h : D.int x :: encI xs = D.int y :: encI ys := h
      simp only [List.cons.injEq, D.int.injEq] at h
      rw [h.1, ih h.2]
theorem gd_ints (n : Nat) (vs : List Int) : GdL (n + 1) (encI vs) := .of fun d hd => by
  obtain ⟨a, _, rfl⟩ := List.mem_map.1 hd
  exact .int a
theorem eq_row : EQ encRw := ⟨fun r => .tup (.cons (.str _ r.1.ok) (gd_ints _ _)), fun a b h => by
  unfold encRw at h
  simp only [D.tup.injEq, List.cons.injEq, D.str.injEq] at h
  exact Prod.ext (Nm.ext' h.1) (encI_inj h.2)⟩
theorem eq_ints : EQ fun vs : List Int => D.tup (encI vs) := ⟨fun r => .tup (gd_ints _ _), fun a b h => encI_inj (D.tup.inj h)⟩
/-- a pair of numbers -/
def encL (l : Nat × Nat) : D := .tup [.int l.1, .int l.2]
theorem eq_link : EQ encL := ⟨fun r => .tup (.cons (.int _) (.cons (.int _) .nil)), fun a b h => by
  unfold encL at h
  simp only [D.tup.injEq, List.cons.injEq, D.int.injEq, and_true] at h
  exact Prod.ext (by omega) (by omega)⟩
end Ev
-- P8
set_option Elab.async false
set_option linter.all false
set_option maxRecDepth 100000
set_option maxHeartbeats 4000000
namespace Ev
open PySem L2 PySem.W PyProof.Rows
/-- a plain pattern -/
structure Pn where
  rows : List Rw
  head : List Int
  size : Nat
def encP (p : Pn) : D := .tup [.lst (p.rows.map encRw), .tup (encI p.head), .int p.size]
structure Pn.Ok (p : Pn) : Prop where
  srt : SSrt ltR p.rows
  rv : ∀ r ∈ p.rows, ∀ v ∈ r.2, 0 ≤ v ∧ v < p.size
  hv : ∀ v ∈ p.head, 0 ≤ v ∧ v < p.size
  gap : ∀ k : Nat, k < p.size → (k : Int) ∈ p.head ∨ ∃ r ∈ p.rows, (k : Int) ∈ r.2
theorem inI_l (v : Int) (vs : List Int) : inO (.int v) (.lst (encI vs)) = some (.fz (.bl (decide (v ∈ vs)))) := eq_int.in_l v vs
theorem inI_t (v : Int) (vs : List Int) : inO (.int v) (.tup (encI vs)) = some (.fz (.bl (decide (v ∈ vs)))) := eq_int.in_t v vs
theorem ninI_l (v : Int) (vs : List Int) : ninO (.int v) (.lst (encI vs)) = some (.fz (.bl (!decide (v ∈ vs)))) := eq_int.nin_l v vs
theorem ninI_t (v : Int) (vs : List Int) : ninO (.int v) (.tup (encI vs)) = some (.fz (.bl (!decide (v ∈ vs)))) := eq_int.nin_t v vs
theorem sl_row (r : Rw) : slD (some 1) none (encRw r) = some (.fz (.tup (encI r.2))) := slD_t1 _ _
theorem idx_row0 (r : Rw) : idxD (encRw r) (.int 0) = some (.fz (encN r.1)) := by
  unfold encRw; rw [idxD_tup, atI_0]; rfl
theorem addI_l (a b : List Int) (h : a.length + b.length ≤ 1000000) : addD (.lst (encI a)) (.lst (encI b)) = some (.lst (encI (a ++ b))) := by
  show (if fits _ then _ else none) = _
  rw [if_pos (fits_le (by unfold encI; simpa using h))]
  unfold encI; rw [List.map_append]
theorem add_row (a : Nm) (vs : List Int) (h : vs.length ≤ 100000) : addD (.tup [encN a]) (.tup (encI vs)) = some (.fz (encRw (a, vs))) := by
  show (if fits _ then _ else none) = _
  rw [if_pos (fits_le (by unfold encI; simp; omega))]
  rfl
theorem encI_len (vs : List Int) : (encI vs).length = vs.length := by unfold encI; simp
theorem encI_app (a b : List Int) : encI (a ++ b) = encI a ++ encI b := by unfold encI; simp
theorem encI_one (a : Int) : encI [a] = [.int a] := rfl
theorem bif_and {a b : Bool} {P : Prop} : (bif a && b then P else True) = (bif a then (bif b then P else True) else True) := by cases a <;> rfl
/-- the values that stand -/
def usedV (rows : List Rw) (hd : List Int) : List Int := hd ++ (rows.map (·.2)).flatten
theorem mem_usedV {rows : List Rw} {hd : List Int} {v : Int} : v ∈ usedV rows hd ↔ v ∈ hd ∨ ∃ r ∈ rows, v ∈ r.2 := by
  unfold usedV
  rw [List.mem_append, List.mem_flatten]
  constructor
  · rintro (h | ⟨l, hl, h⟩)
    · exact .inl h
    · obtain ⟨r, hr, rfl⟩ := List.mem_map.1 hl
      exact .inr ⟨r, hr, h⟩
  · rintro (h | ⟨r, hr, h⟩)
    · exact .inl h
    · exact .inr ⟨_, List.mem_map.2 ⟨r, hr, rfl⟩, h⟩
def ren (kept : List Int) (v : Int) : Int := (kept.idxOf v : Nat)
def renR (kept : List Int) (r : Rw) : Rw := (r.1, r.2.map (ren kept))
structure Closed (rows : List Rw) (hd listed kept : List Int) (p : Pn) : Prop where
  nd : kept.Nodup
  mem : ∀ v, v ∈ kept ↔ v ∈ usedV rows hd ∧ v ∈ listed
  sub : kept.Sublist listed
  srt : SSrt ltR p.rows
  rows_ : ∀ r, r ∈ p.rows ↔ r ∈ rows.map (renR kept)
  head : p.head = hd.map (ren kept)
  size : p.size = kept.length
/-- renumbered values, by the law -/
theorem ren_lc {kept : List Int} (vs : List Int) (fi : SI) (s : List O) (hv : ∀ v ∈ vs, v ∈ kept) (hz : vs.length ≤ 100000) {Q : Rs → List O → Prop} (s1 : List O) (hsrc : wpM fi s fun a b => a = encI vs ∧ b = s1)
    (h5 : s1[5]? = some (.lst (encI kept))) (h6 : 6 < s1.length) (hq : Q (.ow (.lst (encI (vs.map (ren kept))))) (eraseS [6] s1)) :
    wpM (lcS fi (nameT 6) tYesS (metS "list" indexD (varB 5) (aCons (varB 6) aNil)) [6]) s Q := by
  refine wp_lc_map (hsrc.mono ?_)
  rintro a b ⟨rfl, rfl⟩
  refine ⟨by rw [encI_len]; exact le_sl (by omega), fun d => match d with | .int v => .int (ren kept v) | _ => .non, ?_, ?_⟩
  · intro d hd
    obtain ⟨v, hv', rfl⟩ := List.mem_map.1 hd
    have e5 : ((eraseS [6] b).set 6 (.fz (.int v)))[5]? = some (.lst (encI kept)) := by
      rw [List.getElem?_set_ne (by decide)]
      simp only [eraseS_cons, eraseS_nil]
      rw [List.getElem?_set_ne (by decide)]; exact h5
    have e6 : ((eraseS [6] b).set 6 (.fz (.int v)))[6]? = some (.fz (.int v)) := by
      rw [List.getElem?_set_self]
      simp only [eraseS_cons, eraseS_nil, List.length_set]; exact h6
    have ei : indexD (.lst (encI kept)) [.int v] = some (.fz (.int (ren kept v))) := eq_int.index v kept (hv v hv')
    simp only [nameT_eq, oP_some, wp_metS, wp_varB, e5, e6, getB_lst, getB_fz, opR_bor, opR_fz, vw_bor, vw_fz, bind_some', view_lst, tyD_lst, true_and, wp_aCons, wp_aNil, vws_cons, vws_nil, ei, resO_fz, rsO_fz, fP_fz]
    simp only [eraseS_cons, eraseS_nil, List.set_set]
  · have e : (encI vs).map (fun d => match d with | .int v => .int (ren kept v) | _ => .non) = encI (vs.map (ren kept)) := by
      unfold encI
      rw [List.map_map, List.map_map]
      rfl
    rw [e]; exact hq
theorem close_ok (rows : List Rw) (hd listed : List Int) (dh : D) (hi : iterD dh = some (encI hd)) (hl : listD [dh] = some (.lst (encI hd))) (hsub : ∀ v ∈ usedV rows hd, v ∈ listed)
    (hz : (usedV rows hd).length ≤ 100000) (hz2 : rows.length ≤ 100000) (hz3 : listed.length ≤ 100000) :
    wpF f_law_close [.fz (.lst (rows.map encRw)), .fz dh, .fz (.lst (encI listed))] fun r os => ∃ (p : Pn) (kept : List Int), r = .fz (encP p) ∧ os = [.no, .no, .no] ∧ Closed rows hd listed kept p := by
  refine wp_fun [.fz (.lst (rows.map encRw)), .fz dh, .fz (.lst (encI listed)), .no, .no, .no, .no, .no] ?_
  unfold b_law_close
  refine wp_cut (fun s => s = [.fz (.lst (rows.map encRw)), .fz dh, .fz (.lst (encI listed)), .lst (encI hd), .no, .no, .no, .no]) (by simp only [WPx, cond_true, cond_false, List.getElem?_cons_succ, List.getElem?_cons_zero, List.set_cons_succ, List.set_cons_zero, List.map_cons, List.map_nil, Option.getD_some, List.nodup_nil, true_and, and_true, hl]) ?_
  rintro _ rfl
  have hlu : ∀ i, (usedV (rows.take i) hd).length ≤ (usedV rows hd).length := fun i => by
    unfold usedV
    rw [List.length_append, List.length_append]
    have e : (rows.take i).map (·.2) = (rows.map (·.2)).take i := List.map_take
    rw [e]
    have := (take_flat i (rows.map (·.2))).length_le
    omega
  have hrl : ∀ r ∈ rows, r.2.length ≤ 100000 := fun r hr => by
    have := mem_len (List.mem_map_of_mem (f := fun r : Rw => r.2) hr)
    unfold usedV at hz
    rw [List.length_append] at hz
    omega
  refine wp_cut (fun s => s = [.fz (.lst (rows.map encRw)), .fz dh, .fz (.lst (encI listed)), .lst (encI (usedV rows hd)), .no, .no, .no, .no]) ?_ ?_
  · refine wp_for (rows.map encRw) [.fz (.lst (rows.map encRw)), .fz dh, .fz (.lst (encI listed)), .lst (encI hd), .no, .no, .no, .no] (by simp only [WPx, cond_true, cond_false, List.getElem?_cons_succ, List.getElem?_cons_zero, List.set_cons_succ, List.set_cons_zero, List.map_cons, List.map_nil, Option.getD_some, List.nodup_nil, true_and, and_true]) (fun i s => s = [.fz (.lst (rows.map encRw)), .fz dh, .fz (.lst (encI listed)), .lst (encI (usedV (rows.take i) hd)), .no, .no, .no, .no]) (by simp [usedV, eraseS]) ?_ ?_
    · rintro i d s hd' rfl
      obtain ⟨r, hr, rfl⟩ := map_get hd'
      have e : usedV (rows.take (i + 1)) hd = usedV (rows.take i) hd ++ r.2 := by
        unfold usedV
        rw [List.take_add_one, hr]; simp
      have hi' := hlu (i + 1)
      rw [e, List.length_append] at hi'
      simp only [WPx, cond_true, cond_false, List.getElem?_cons_succ, List.getElem?_cons_zero, List.set_cons_succ, List.set_cons_zero, List.map_cons, List.map_nil, Option.getD_some, List.nodup_nil, true_and, and_true, sl_row, addI_l _ r.2 (show (usedV (rows.take i) hd).length + r.2.length ≤ 1000000 by omega), e]
    · rintro s rfl
      rw [List.length_map, List.take_length]
      simp only [WPx, cond_true, cond_false, List.getElem?_cons_succ, List.getElem?_cons_zero, List.set_cons_succ, List.set_cons_zero, List.map_cons, List.map_nil, Option.getD_some, List.nodup_nil, true_and, and_true]
  rintro _ rfl
  refine wp_cut (fun s => s = [.fz (.lst (rows.map encRw)), .fz dh, .fz (.lst (encI listed)), .lst (encI (usedV rows hd)), .no, .lst (encI []), .no, .no]) (by simp only [WPx, cond_true, cond_false, List.getElem?_cons_succ, List.getElem?_cons_zero, List.set_cons_succ, List.set_cons_zero, List.map_cons, List.map_nil, Option.getD_some, List.nodup_nil, true_and, and_true]; exact ⟨fits_le (by simp), rfl⟩) ?_
  rintro _ rfl
  refine wp_cut (fun s => ∃ kept : List Int, s = [.fz (.lst (rows.map encRw)), .fz dh, .fz (.lst (encI listed)), .lst (encI (usedV rows hd)), .no, .lst (encI kept), .no, .no] ∧ kept.Nodup ∧ kept.Sublist listed ∧ ∀ v, v ∈ kept ↔ v ∈ usedV rows hd ∧ v ∈ listed) ?_ ?_
  · refine wp_for (encI listed) [.fz (.lst (rows.map encRw)), .fz dh, .fz (.lst (encI listed)), .lst (encI (usedV rows hd)), .no, .lst (encI []), .no, .no] (by simp only [WPx, cond_true, cond_false, List.getElem?_cons_succ, List.getElem?_cons_zero, List.set_cons_succ, List.set_cons_zero, List.map_cons, List.map_nil, Option.getD_some, List.nodup_nil, true_and, and_true]) (fun i s => ∃ kept : List Int, s = [.fz (.lst (rows.map encRw)), .fz dh, .fz (.lst (encI listed)), .lst (encI (usedV rows hd)), .no, .lst (encI kept), .no, .no] ∧ kept.Nodup ∧ kept.Sublist (listed.take i) ∧ ∀ v, v ∈ kept ↔ v ∈ usedV rows hd ∧ v ∈ listed.take i)
      ⟨[], rfl, .nil, by simp, by simp⟩ ?_ ?_
    · rintro i d s hd' ⟨kept, rfl, h1, h2, h3⟩
      obtain ⟨x, hx, rfl⟩ := map_get hd'
      have hkl : kept.length ≤ 100000 := Nat.le_trans h2.length_le (by simp; omega)
      have et : listed.take (i + 1) = listed.take i ++ [x] := by rw [List.take_add_one, hx]; rfl
      simp only [WPx, cond_true, cond_false, List.getElem?_cons_succ, List.getElem?_cons_zero, List.set_cons_succ, List.set_cons_zero, List.map_cons, List.map_nil, Option.getD_some, List.nodup_nil, true_and, and_true, inI_l, ninI_l]
      refine bif_split (fun q => ?_) fun q => ?_
      · refine bifN_split (fun q2 => ?_) fun q2 => ?_
        · rw [appD_eq _ _ (by rw [encI_len]; exact lt_sl (by omega))]
          simp only [WPx, cond_true, cond_false, List.getElem?_cons_succ, List.getElem?_cons_zero, List.set_cons_succ, List.set_cons_zero, List.map_cons, List.map_nil, Option.getD_some, List.nodup_nil, true_and, and_true]
          refine ⟨kept ++ [x], by rw [encI_app]; rfl, ?_, ?_, fun v => ?_⟩
          · rw [List.nodup_append]
            exact ⟨h1, by simp, fun a ha b hb => by rw [List.mem_singleton.1 hb]; rintro rfl; exact q2 ha⟩
          · rw [et]; exact h2.append (List.Sublist.refl _)
          · rw [et, List.mem_append, List.mem_append, h3 v, List.mem_singleton]
            constructor
            · rintro (⟨a, b⟩ | rfl)
              · exact ⟨a, .inl b⟩
              · exact ⟨q, .inr rfl⟩
            · rintro ⟨a, b | b⟩
              · exact .inl ⟨a, b⟩
              · exact .inr b
        · refine ⟨kept, rfl, h1, ?_, fun v => ?_⟩
          · rw [et]; exact h2.trans (List.sublist_append_left _ _)
          · rw [et, List.mem_append, h3 v, List.mem_singleton]
            constructor
            · rintro ⟨a, b⟩; exact ⟨a, .inl b⟩
            · rintro ⟨a, b | rfl⟩
              · exact ⟨a, b⟩
              · exact (h3 v).1 q2
      · refine ⟨kept, rfl, h1, ?_, fun v => ?_⟩
        · rw [et]; exact h2.trans (List.sublist_append_left _ _)
        · rw [et, List.mem_append, h3 v, List.mem_singleton]
          constructor
          · rintro ⟨a, b⟩; exact ⟨a, .inl b⟩
          · rintro ⟨a, b | rfl⟩
            · exact ⟨a, b⟩
            · exact absurd a q
    · rintro s ⟨kept, rfl, h1, h2, h3⟩
      rw [encI_len, List.take_length] at h2 h3
      simp only [WPx, cond_true, cond_false, List.getElem?_cons_succ, List.getElem?_cons_zero, List.set_cons_succ, List.set_cons_zero, List.map_cons, List.map_nil, Option.getD_some, List.nodup_nil, true_and, and_true]
      exact ⟨kept, rfl, h1, h2, h3⟩
  rintro _ ⟨kept, rfl, h1, h2, h3⟩
  have hkl : kept.length ≤ 100000 := Nat.le_trans h2.length_le hz3
  have hin : ∀ v ∈ usedV rows hd, v ∈ kept := fun v hv => (h3 v).2 ⟨hv, hsub v hv⟩
  refine wp_cut (fun s => s = [.fz (.lst (rows.map encRw)), .fz dh, .fz (.lst (encI listed)), .lst (encI (usedV rows hd)), .no, .lst (encI kept), .no, .lst []]) (by simp only [WPx, cond_true, cond_false, List.getElem?_cons_succ, List.getElem?_cons_zero, List.set_cons_succ, List.set_cons_zero, List.map_cons, List.map_nil, Option.getD_some, List.nodup_nil, true_and, and_true]; exact fits_le (by simp)) ?_
  rintro _ rfl
  refine wp_cut (fun s => s = [.fz (.lst (rows.map encRw)), .fz dh, .fz (.lst (encI listed)), .lst (encI (usedV rows hd)), .no, .lst (encI kept), .no, .lst ((rows.map (renR kept)).map encRw)]) ?_ ?_
  · refine wp_for (rows.map encRw) [.fz (.lst (rows.map encRw)), .fz dh, .fz (.lst (encI listed)), .lst (encI (usedV rows hd)), .no, .lst (encI kept), .no, .lst []] (by simp only [WPx, cond_true, cond_false, List.getElem?_cons_succ, List.getElem?_cons_zero, List.set_cons_succ, List.set_cons_zero, List.map_cons, List.map_nil, Option.getD_some, List.nodup_nil, true_and, and_true]) (fun i s => s = [.fz (.lst (rows.map encRw)), .fz dh, .fz (.lst (encI listed)), .lst (encI (usedV rows hd)), .no, .lst (encI kept), .no, .lst (((rows.take i).map (renR kept)).map encRw)]) (by simp [eraseS]) ?_ ?_
    · rintro i d s hd' rfl
      obtain ⟨r, hr, rfl⟩ := map_get hd'
      have hil : i < rows.length := (List.getElem?_eq_some_iff.mp hr).1
      have hrm : r ∈ rows := List.mem_of_getElem? hr
      simp only [WPx, cond_true, cond_false, List.getElem?_cons_succ, List.getElem?_cons_zero, List.set_cons_succ, List.set_cons_zero, List.map_cons, List.map_nil, Option.getD_some, List.nodup_nil, true_and, and_true, idx_row0]
      refine ⟨fits_le (by simp), ?_⟩
      refine ren_lc r.2 _ _ (fun v hv => hin v (mem_usedV.2 (.inr ⟨r, hrm, hv⟩))) (hrl r hrm) [.fz (.lst (rows.map encRw)), .fz dh, .fz (.lst (encI listed)), .lst (encI (usedV rows hd)), .fz (encRw r), .lst (encI kept), .no, .lst (((rows.take i).map (renR kept)).map encRw)] (by simp only [WPx, cond_true, cond_false, List.getElem?_cons_succ, List.getElem?_cons_zero, List.set_cons_succ, List.set_cons_zero, List.map_cons, List.map_nil, Option.getD_some, List.nodup_nil, true_and, and_true, sl_row]) rfl (by simp) ?_
      simp only [WPx, cond_true, cond_false, List.getElem?_cons_succ, List.getElem?_cons_zero, List.set_cons_succ, List.set_cons_zero, List.map_cons, List.map_nil, Option.getD_some, List.nodup_nil, true_and, and_true, add_row _ _ (show (r.2.map (ren kept)).length ≤ 100000 by rw [List.length_map]; exact hrl r hrm)]
      rw [appD_eq _ _ (by simp; exact lt_sl (by omega))]
      simp only [WPx, cond_true, cond_false, List.getElem?_cons_succ, List.getElem?_cons_zero, List.set_cons_succ, List.set_cons_zero, List.map_cons, List.map_nil, Option.getD_some, List.nodup_nil, true_and, and_true]
      rw [List.take_add_one, hr]
      simp [renR]
    · rintro s rfl
      rw [List.length_map, List.take_length]
      simp only [WPx, cond_true, cond_false, List.getElem?_cons_succ, List.getElem?_cons_zero, List.set_cons_succ, List.set_cons_zero, List.map_cons, List.map_nil, Option.getD_some, List.nodup_nil, true_and, and_true]
  rintro _ rfl
  simp only [WPx, cond_true, cond_false, List.getElem?_cons_succ, List.getElem?_cons_zero, List.set_cons_succ, List.set_cons_zero, List.map_cons, List.map_nil, Option.getD_some, List.nodup_nil, true_and, and_true]
  refine (sorted_ok to_rows (rows.map (renR kept)) (by simpa using hz2) _ (iterD_lst _)).mono ?_
  rintro r os ⟨m, rfl, rfl, hm, hmm⟩
  simp only [WPx, cond_true, cond_false, List.getElem?_cons_succ, List.getElem?_cons_zero, List.set_cons_succ, List.set_cons_zero, List.map_cons, List.map_nil, Option.getD_some, List.nodup_nil, true_and, and_true]
  refine ren_lc hd _ _ (fun v hv => hin v (mem_usedV.2 (.inl hv))) (by unfold usedV at hz; rw [List.length_append] at hz; omega) [.fz (.lst (rows.map encRw)), .fz dh, .fz (.lst (encI listed)), .lst (encI (usedV rows hd)), .no, .lst (encI kept), .no, .fz (.lst ((rows.map (renR kept)).map encRw))] (by simp only [WPx, cond_true, cond_false, List.getElem?_cons_succ, List.getElem?_cons_zero, List.set_cons_succ, List.set_cons_zero, List.map_cons, List.map_nil, Option.getD_some, List.nodup_nil, true_and, and_true, hi]) rfl (by simp) ?_
  simp only [WPx, cond_true, cond_false, List.getElem?_cons_succ, List.getElem?_cons_zero, List.set_cons_succ, List.set_cons_zero, List.map_cons, List.map_nil, Option.getD_some, List.nodup_nil, true_and, and_true]
  refine ⟨fits_le (by simp), ⟨m, hd.map (ren kept), kept.length⟩, kept, ?_, rfl, h1, h3, h2, hm, hmm, rfl, rfl⟩
  unfold encP
  rw [encI_len]
end Ev
-- P9
set_option Elab.async false
set_option linter.all false
set_option maxRecDepth 100000
set_option maxHeartbeats 4000000
namespace Ev
open PySem L2 PySem.W PyProof.Rows
theorem ssrt_nodup {α : Type} {enc : α → D} {lt : α → α → Bool} (t : TO enc lt) {l : List α} (h : SSrt lt l) : l.Nodup :=
  List.Pairwise.imp (fun {a b} h e => by subst e; rw [t.irr] at h; cases h) h
theorem ren_lt {kept : List Int} {v : Int} (h : v ∈ kept) : 0 ≤ ren kept v ∧ ren kept v < kept.length := by
  unfold ren
  have := List.idxOf_lt_length_of_mem h
  omega
theorem ren_get {kept : List Int} (h : kept.Nodup) (k : Nat) (hk : k < kept.length) : ren kept kept[k] = k := by
  unfold ren
  rw [h.idxOf_getElem k hk]
theorem ren_inj {kept : List Int} {v w : Int} (hv : v ∈ kept) (hw : w ∈ kept) (e : ren kept v = ren kept w) : v = w := by
  unfold ren at e
  have e : kept.idxOf v = kept.idxOf w := by omega
  have a := List.getElem_idxOf (List.idxOf_lt_length_of_mem hv)
  have b := List.getElem_idxOf (List.idxOf_lt_length_of_mem hw)
  rw [← a, ← b]; congr 1
theorem Closed.ok {rows : List Rw} {hd listed kept : List Int} {p : Pn} (c : Closed rows hd listed kept p) (hsub : ∀ v ∈ usedV rows hd, v ∈ listed) : p.Ok where
  srt := c.srt
  rv r hr v hv := by
    rw [c.rows_] at hr
    obtain ⟨q, hq, rfl⟩ := List.mem_map.1 hr
    obtain ⟨w, hw, rfl⟩ := List.mem_map.1 hv
    have hu : w ∈ usedV rows hd := mem_usedV.2 (.inr ⟨q, hq, hw⟩)
    have := ren_lt ((c.mem w).2 ⟨hu, hsub w hu⟩)
    rw [c.size]; exact this
  hv v hv := by
    rw [c.head] at hv
    obtain ⟨w, hw, rfl⟩ := List.mem_map.1 hv
    have hu : w ∈ usedV rows hd := mem_usedV.2 (.inl hw)
    have := ren_lt ((c.mem w).2 ⟨hu, hsub w hu⟩)
    rw [c.size]; exact this
  gap k hk := by
    rw [c.size] at hk
    have e := ren_get c.nd k hk
    rcases mem_usedV.1 ((c.mem _).1 (List.getElem_mem hk)).1 with h | ⟨r, hr, h⟩
    · left; rw [c.head, ← e]; exact List.mem_map_of_mem h
    · right; exact ⟨renR kept r, (c.rows_ _).2 (List.mem_map_of_mem hr), by rw [← e]; exact List.mem_map_of_mem h⟩
/-- a row over tables, its values below m -/
def RowIn (ts : List Tb) (m : Int) (r : Rw) : Prop := ∃ t ∈ ts, r.1 = t.1 ∧ r.2.length = t.2 ∧ ∀ c ∈ r.2, 0 ≤ c ∧ c < m
/-- a drawn pattern -/
structure Drawn (ts : List Tb) (cols nr ns : Nat) (p : Pn) : Prop where
  ok : p.Ok
  row : ∀ r ∈ p.rows, ∃ t ∈ ts, r.1 = t.1 ∧ r.2.length = t.2
  head : p.head.length = cols
  nrows : p.rows.length ≤ nr
  nsize : p.size ≤ ns
theorem Closed.drawn {ts : List Tb} {m : Int} {rows : List Rw} {hd listed kept : List Int} {p : Pn} (c : Closed rows hd listed kept p) (hsub : ∀ v ∈ usedV rows hd, v ∈ listed) (hr : ∀ r ∈ rows, RowIn ts m r) : Drawn ts hd.length rows.length listed.length p where
  ok := c.ok hsub
  row r h := by
    rw [c.rows_] at h
    obtain ⟨q, hq, rfl⟩ := List.mem_map.1 h
    obtain ⟨t, ht, h1, h2, _⟩ := hr q hq
    exact ⟨t, ht, h1, by show (q.2.map _).length = _; rw [List.length_map]; exact h2⟩
  head := by rw [c.head, List.length_map]
  nrows := by
    have := nd_len p.rows (rows.map (renR kept)) (ssrt_nodup to_rows c.srt) fun r h => (c.rows_ r).1 h
    rwa [List.length_map] at this
  nsize := by rw [c.size]; exact c.sub.length_le
theorem Drawn.mono {ts : List Tb} {cols nr ns nr' ns' : Nat} {p : Pn} (d : Drawn ts cols nr ns p) (h1 : nr ≤ nr') (h2 : ns ≤ ns') : Drawn ts cols nr' ns' p :=
  ⟨d.ok, d.row, d.head, Nat.le_trans d.nrows h1, Nat.le_trans d.nsize h2⟩
def rgI (n : Nat) : List Int := (List.range n).map fun (i : Nat) => (i : Int)
theorem rgD_rgI (n : Nat) : rgD n = encI (rgI n) := by unfold rgD encI rgI; rw [List.map_map]; rfl
theorem mem_rgI {n : Nat} {v : Int} : v ∈ rgI n ↔ 0 ≤ v ∧ v < n := by
  unfold rgI
  rw [List.mem_map]
  constructor
  · rintro ⟨i, hi, rfl⟩
    have := List.mem_range.1 hi
    omega
  · rintro ⟨h1, h2⟩
    exact ⟨v.toNat, List.mem_range.2 (by omega), by omega⟩
theorem rgI_len (n : Nat) : (rgI n).length = n := by unfold rgI; simp
theorem usedV_in {ts : List Tb} {n : Nat} {rows : List Rw} {hd : List Int} (h1 : ∀ r ∈ rows, RowIn ts n r) (h2 : ∀ v ∈ hd, 0 ≤ v ∧ v < (n : Int)) : ∀ v ∈ usedV rows hd, v ∈ rgI n := fun v hv => by
  rw [mem_rgI]
  rcases mem_usedV.1 hv with h | ⟨r, hr, h⟩
  · exact h2 v h
  · obtain ⟨t, _, _, _, k⟩ := h1 r hr
    exact k v h
theorem usedV_len {ts : List Tb} {n : Int} {rows : List Rw} {hd : List Int} (h1 : ∀ r ∈ rows, RowIn ts n r) (hw : ∀ t ∈ ts, t.2 ≤ 4) : (usedV rows hd).length ≤ hd.length + 4 * rows.length := by
  unfold usedV
  rw [List.length_append]
  have : ((rows.map (·.2)).flatten).length ≤ 4 * rows.length := by
    clear hd
    induction rows with
    | nil => simp
    | cons r rs ih =>
      have := ih fun r hr => h1 r (by simp [hr])
      obtain ⟨t, ht, _, hl, _⟩ := h1 r (by simp)
      have := hw t ht
      simp only [List.map_cons, List.flatten_cons, List.length_append, List.length_cons]
      omega
  omega
/-- [x for x in ..] -/
theorem id_lc (i : Nat) (src : SI) (s s1 : List O) (vs : List D) {Q : Rs → List O → Prop} (hsrc : wpM src s fun a b => a = vs ∧ b = s1) (hz : vs.length ≤ 1000000) (hi : i < s1.length) (hq : Q (.ow (.lst vs)) (eraseS [i] s1)) :
    wpM (lcS src (nameT i) tYesS (varS i) [i]) s Q := by
  refine wp_lc_map (hsrc.mono ?_)
  rintro a b ⟨rfl, rfl⟩
  refine ⟨le_sl hz, id, ?_, by rw [List.map_id]; exact hq⟩
  intro d hd
  simp only [nameT_eq, oP_some, wp_varS, eraseS_cons, eraseS_nil]
  rw [List.getElem?_set_self (by simp; exact hi)]
  simp only [bind_some', view_fz, oP_some, opR_fz, fP_fz, List.set_set]
  exact ⟨rfl, trivial⟩
/-- [c for x in ..] -/
theorem const_lc (i j : Nat) (src : SI) (s s1 : List O) (vs : List D) (c : D) {Q : Rs → List O → Prop} (hsrc : wpM src s fun a b => a = vs ∧ b = s1) (hz : vs.length ≤ 1000000) (hi : i ≠ j) (hj : s1[j]? = some (.fz c)) (hq : Q (.ow (.lst (List.replicate vs.length c))) (eraseS [i] s1)) :
    wpM (lcS src (nameT i) tYesS (varS j) [i]) s Q := by
  refine wp_lc_map (hsrc.mono ?_)
  rintro a b ⟨rfl, rfl⟩
  refine ⟨le_sl hz, fun _ => c, ?_, by rw [List.map_const']; exact hq⟩
  intro d hd
  have e : (b.set i (O.fz d))[j]? = some (.fz c) := by rw [List.getElem?_set_ne hi]; exact hj
  have e2 : (b.set i (O.fz d)).set j (.fz c) = b.set i (O.fz d) := by
    have := (List.getElem?_eq_some_iff.mp e).2
    rw [← this]; exact List.set_getElem_self _
  simp only [nameT_eq, oP_some, wp_varS, eraseS_cons, eraseS_nil, List.set_set, e, bind_some', view_fz, opR_fz, fP_fz, e2]
  exact ⟨trivial, trivial⟩
theorem idxP0 (p : Pn) : idxD (encP p) (.int 0) = some (.fz (.lst (p.rows.map encRw))) := by unfold encP; rw [idxD_tup, atI_0]; rfl
theorem idxP1 (p : Pn) : idxD (encP p) (.int 1) = some (.fz (.tup (encI p.head))) := by unfold encP; rw [idxD_tup, atI_1]; rfl
theorem idxP2 (p : Pn) : idxD (encP p) (.int 2) = some (.fz (.int p.size)) := by unfold encP; rw [idxD_tup, atI_2]; rfl
/-- tables as the laws draw them -/
structure Tbs (ts : List Tb) : Prop where
  ne : ts ≠ []
  len : ts.length ≤ 10
  nd : (ts.map (·.1)).Nodup
  w : ∀ t ∈ ts, 1 ≤ t.2 ∧ t.2 ≤ 4
theorem random_ok {o : O} (ts : List Tb) (cols size count : Nat) (h : Dr o) (ht : Tbs ts) (hc : cols ≤ 1000) (hs : 1 ≤ size ∧ size ≤ 1000) (hn : count ≤ 1000) :
    wpF f_law_random [o, .fz (.lst (ts.map encT)), .fz (.int cols), .fz (.int size), .fz (.int count)] fun r os => ∃ (p : Pn) (o' : O), r = .fz (encP p) ∧ os = [o', .no, .no, .no, .no] ∧ Dr o' ∧ Drawn ts cols count size p := by
  refine wp_fun [o, .fz (.lst (ts.map encT)), .fz (.int cols), .fz (.int size), .fz (.int count), .no, .no, .no, .no, .no] ?_
  unfold b_law_random
  refine wp_cut (fun s => ∃ (o : O) (hd : List Int), s = [o, .fz (.lst (ts.map encT)), .fz (.int cols), .fz (.int size), .fz (.int count), .lst (encI hd), .no, .no, .no, .no] ∧ Dr o ∧ hd.length = cols ∧ ∀ v ∈ hd, 0 ≤ v ∧ v < (size : Int)) ?_ ?_
  · rw [wp_setS]
    refine wp_lc (rgD cols) [o, .fz (.lst (ts.map encT)), .fz (.int cols), .fz (.int size), .fz (.int count), .no, .no, .no, .no, .no] (by simp only [WPx, cond_true, cond_false, List.getElem?_cons_succ, List.getElem?_cons_zero, List.set_cons_succ, List.set_cons_zero, List.map_cons, List.map_nil, Option.getD_some, List.nodup_nil, true_and, and_true, rng1_rgD cols (by omega)]) (by rw [rgD_len]; exact le_sl (by omega))
      (fun i acc s => ∃ (o : O) (hd : List Int), s = [o, .fz (.lst (ts.map encT)), .fz (.int cols), .fz (.int size), .fz (.int count), .no, .no, .no, .no, .no] ∧ acc = encI hd ∧ Dr o ∧ hd.length = i ∧ ∀ v ∈ hd, 0 ≤ v ∧ v < (size : Int)) ⟨o, [], rfl, rfl, h, rfl, by simp⟩ ?_ ?_
    · rintro j d acc s hj ⟨o, hd, rfl, rfl, h, hl, hv⟩
      simp only [WPx, cond_true, cond_false, List.getElem?_cons_succ, List.getElem?_cons_zero, List.set_cons_succ, List.set_cons_zero, List.map_cons, List.map_nil, Option.getD_some, List.nodup_nil, true_and, and_true, getB_dr h]
      refine ⟨by decide, (draw_ok h size (by omega)).mono ?_⟩
      rintro r os ⟨v, o', rfl, rfl, h', hv1, hv2⟩
      have hv2 := hv2 (by omega)
      simp only [WPx, cond_true, cond_false, List.getElem?_cons_succ, List.getElem?_cons_zero, List.set_cons_succ, List.set_cons_zero, List.map_cons, List.map_nil, Option.getD_some, List.nodup_nil, true_and, and_true]
      refine ⟨o', hd ++ [v], rfl, by rw [encI_app]; rfl, h', by simp [hl], fun x hx => ?_⟩
      rcases List.mem_append.1 hx with hx | hx
      · exact hv x hx
      · rw [List.mem_singleton.1 hx]; exact ⟨hv1, hv2⟩
    · rintro acc s ⟨o, hd, rfl, rfl, h, hl, hv⟩
      rw [rgD_len] at hl
      simp only [WPx, cond_true, cond_false, List.getElem?_cons_succ, List.getElem?_cons_zero, List.set_cons_succ, List.set_cons_zero, List.map_cons, List.map_nil, Option.getD_some, List.nodup_nil, true_and, and_true]
      exact ⟨o, hd, rfl, h, hl, hv⟩
  rintro _ ⟨o, hd, rfl, h, hl, hv⟩
  refine wp_cut (fun s => ∃ (o : O) (rows : List Rw), s = [o, .fz (.lst (ts.map encT)), .fz (.int cols), .fz (.int size), .fz (.int count), .lst (encI hd), .no, .lst (rows.map encRw), .no, .no] ∧ Dr o ∧ rows.length = count ∧ ∀ r ∈ rows, RowIn ts size r) ?_ ?_
  · rw [wp_setS]
    refine wp_lc (rgD count) [o, .fz (.lst (ts.map encT)), .fz (.int cols), .fz (.int size), .fz (.int count), .lst (encI hd), .no, .no, .no, .no] (by simp only [WPx, cond_true, cond_false, List.getElem?_cons_succ, List.getElem?_cons_zero, List.set_cons_succ, List.set_cons_zero, List.map_cons, List.map_nil, Option.getD_some, List.nodup_nil, true_and, and_true, rng1_rgD count (by omega)]) (by rw [rgD_len]; exact le_sl (by omega))
      (fun i acc s => ∃ (o : O) (rows : List Rw), s = [o, .fz (.lst (ts.map encT)), .fz (.int cols), .fz (.int size), .fz (.int count), .lst (encI hd), .no, .no, .no, .no] ∧ acc = rows.map encRw ∧ Dr o ∧ rows.length = i ∧ ∀ r ∈ rows, RowIn ts size r) ⟨o, [], rfl, rfl, h, rfl, by simp⟩ ?_ ?_
    · rintro j d acc s hj ⟨o, rows, rfl, rfl, h, hl, hv⟩
      simp only [WPx, cond_true, cond_false, List.getElem?_cons_succ, List.getElem?_cons_zero, List.set_cons_succ, List.set_cons_zero, List.map_cons, List.map_nil, Option.getD_some, List.nodup_nil, true_and, and_true, getB_dr h]
      refine ⟨by decide, (row_ok ts size h ht.ne (by have := ht.len; omega) (fun t h => by have := ht.w t h; omega) (by omega) (by omega)).mono ?_⟩
      rintro r os ⟨o', t, l, htm, rfl, rfl, h', hll, hlv⟩
      simp only [WPx, cond_true, cond_false, List.getElem?_cons_succ, List.getElem?_cons_zero, List.set_cons_succ, List.set_cons_zero, List.map_cons, List.map_nil, Option.getD_some, List.nodup_nil, true_and, and_true]
      refine ⟨o', rows ++ [(t.1, l)], rfl, by simp, h', by simp [hl], fun x hx => ?_⟩
      rcases List.mem_append.1 hx with hx | hx
      · exact hv x hx
      · rw [List.mem_singleton.1 hx]; exact ⟨t, htm, rfl, hll, hlv⟩
    · rintro acc s ⟨o, rows, rfl, rfl, h, hl, hv⟩
      rw [rgD_len] at hl
      simp only [WPx, cond_true, cond_false, List.getElem?_cons_succ, List.getElem?_cons_zero, List.set_cons_succ, List.set_cons_zero, List.map_cons, List.map_nil, Option.getD_some, List.nodup_nil, true_and, and_true]
      exact ⟨o, rows, rfl, h, hl, hv⟩
  rintro _ ⟨o, rows, rfl, h, hl2, hv2⟩
  simp only [WPx, cond_true, cond_false, List.getElem?_cons_succ, List.getElem?_cons_zero, List.set_cons_succ, List.set_cons_zero, List.map_cons, List.map_nil, Option.getD_some, List.nodup_nil, true_and, and_true]
  refine id_lc 9 _ _ [o, .fz (.lst (ts.map encT)), .fz (.int cols), .fz (.int size), .fz (.int count), .fz (.lst (encI hd)), .no, .fz (.lst (rows.map encRw)), .no, .no] (rgD size) (by simp only [WPx, cond_true, cond_false, List.getElem?_cons_succ, List.getElem?_cons_zero, List.set_cons_succ, List.set_cons_zero, List.map_cons, List.map_nil, Option.getD_some, List.nodup_nil, true_and, and_true, rng1_rgD size (by omega)]) (by rw [rgD_len]; omega) (by simp) ?_
  have hsub := usedV_in hv2 hv
  have hul := usedV_len (hd := hd) hv2 fun t h => (ht.w t h).2
  simp only [WPx, cond_true, cond_false, List.getElem?_cons_succ, List.getElem?_cons_zero, List.set_cons_succ, List.set_cons_zero, List.map_cons, List.map_nil, Option.getD_some, List.nodup_nil, true_and, and_true]
  rw [rgD_rgI]
  refine (close_ok rows hd (rgI size) _ (iterD_lst _) (listD_lst _) hsub (by omega) (by omega) (by rw [rgI_len]; omega)).mono ?_
  rintro r os ⟨p, kept, rfl, rfl, c⟩
  simp only [WPx, cond_true, cond_false, List.getElem?_cons_succ, List.getElem?_cons_zero, List.set_cons_succ, List.set_cons_zero, List.map_cons, List.map_nil, Option.getD_some, List.nodup_nil, true_and, and_true]
  refine ⟨p, o, rfl, rfl, h, ?_⟩
  have := c.drawn hsub hv2
  rw [hl, hl2, rgI_len] at this
  exact this
end Ev
-- PA
set_option Elab.async false
set_option linter.all false
set_option maxRecDepth 100000
set_option maxHeartbeats 4000000
namespace Ev
open PySem L2 PySem.W PyProof.Rows
theorem idxT0 (t : Tb) : idxD (encT t) (.int 0) = some (.fz (encN t.1)) := by unfold encT; rw [idxD_tup, atI_0]; rfl
theorem idxT1 (t : Tb) : idxD (encT t) (.int 1) = some (.fz (.int t.2)) := by unfold encT; rw [idxD_tup, atI_1]; rfl
theorem loop_ok {o : O} (ts : List Tb) (cols len : Nat) (h : Dr o) (ht : Tbs ts) (hc : cols ≤ 1000) (hs : 1 ≤ len ∧ len ≤ 1000) :
    wpF f_law_loop [o, .fz (.lst (ts.map encT)), .fz (.int cols), .fz (.int len)] fun r os => ∃ (p : Pn) (o' : O), r = .fz (encP p) ∧ os = [o', .no, .no, .no] ∧ Dr o' ∧ Drawn ts cols len (len + 1) p := by
  refine wp_fun [o, .fz (.lst (ts.map encT)), .fz (.int cols), .fz (.int len), .no, .no, .no, .no, .no, .no, .no] ?_
  unfold b_law_loop
  refine wp_cut (fun s => ∃ wide : List Tb, s = [o, .fz (.lst (ts.map encT)), .fz (.int cols), .fz (.int len), .lst (wide.map encT), .no, .no, .no, .no, .no, .no] ∧ (∀ t ∈ wide, t ∈ ts ∧ 2 ≤ t.2) ∧ wide.length ≤ ts.length) ?_ ?_
  · rw [wp_setS]
    refine wp_lc (ts.map encT) [o, .fz (.lst (ts.map encT)), .fz (.int cols), .fz (.int len), .no, .no, .no, .no, .no, .no, .no] (by simp only [WPx, cond_true, cond_false, List.getElem?_cons_succ, List.getElem?_cons_zero, List.set_cons_succ, List.set_cons_zero, List.map_cons, List.map_nil, Option.getD_some, List.nodup_nil, true_and, and_true]) (by rw [List.length_map]; have := ht.len; exact le_sl (by omega))
      (fun i acc s => ∃ wide : List Tb, s = [o, .fz (.lst (ts.map encT)), .fz (.int cols), .fz (.int len), .no, .no, .no, .no, .no, .no, .no] ∧ acc = wide.map encT ∧ (∀ t ∈ wide, t ∈ ts ∧ 2 ≤ t.2) ∧ wide.length ≤ i) ⟨[], rfl, rfl, by simp, by simp⟩ ?_ ?_
    · rintro j d acc s hj ⟨wide, rfl, rfl, h1, h2⟩
      obtain ⟨t, htj, rfl⟩ := map_get hj
      simp only [WPx, cond_true, cond_false, List.getElem?_cons_succ, List.getElem?_cons_zero, List.set_cons_succ, List.set_cons_zero, List.map_cons, List.map_nil, Option.getD_some, List.nodup_nil, true_and, and_true, idxT1]
      refine bif_split (fun q => ?_) fun q => ?_
      · refine ⟨wide ++ [t], by simp, fun x hx => ?_, by simp; omega⟩
        rcases List.mem_append.1 hx with hx | hx
        · exact h1 x hx
        · rw [List.mem_singleton.1 hx]; exact ⟨List.mem_of_getElem? htj, by omega⟩
      · exact ⟨wide, rfl, h1, by omega⟩
    · rintro acc s ⟨wide, rfl, rfl, h1, h2⟩
      rw [List.length_map] at h2
      simp only [WPx, cond_true, cond_false, List.getElem?_cons_succ, List.getElem?_cons_zero, List.set_cons_succ, List.set_cons_zero, List.map_cons, List.map_nil, Option.getD_some, List.nodup_nil, true_and, and_true]
      exact ⟨wide, rfl, h1, h2⟩
  rintro _ ⟨wide, rfl, hw, hwl⟩
  have htl := ht.len
  refine wp_cut (fun s => s = [o, .fz (.lst (ts.map encT)), .fz (.int cols), .fz (.int len), .lst (wide.map encT), .no, .lst [], .no, .no, .no, .no]) (by simp only [WPx, cond_true, cond_false, List.getElem?_cons_succ, List.getElem?_cons_zero, List.set_cons_succ, List.set_cons_zero, List.map_cons, List.map_nil, Option.getD_some, List.nodup_nil, true_and, and_true]; exact fits_le (by simp)) ?_
  rintro _ rfl
  refine wp_cut (fun s => ∃ (o : O) (rows : List Rw) (x : O), s = [o, .fz (.lst (ts.map encT)), .fz (.int cols), .fz (.int len), .lst (wide.map encT), x, .lst (rows.map encRw), .no, .no, .no, .no] ∧ Dr o ∧ rows.length ≤ len ∧ ∀ r ∈ rows, RowIn ts ((len + 1 : Nat) : Int) r) ?_ ?_
  · simp only [wp_ifS, wp_tstB, wp_prim2, wp_primN, wp_aCons, wp_aNil, wp_varB, wp_cst, List.getElem?_cons_succ, List.getElem?_cons_zero, getB_lst, opR_bor, opR_fz, vw_bor, vw_fz, vws_cons, vws_nil, bind_some', view_lst, lenD_lst, resO_fz, rsO_fz, gtD_int, bP_bl, List.length_map]
    refine bif_split (fun q => ?_) fun q => ?_
    · refine wp_cut (fun s => ∃ (o : O) (t : Tb), t ∈ wide ∧ s = [o, .fz (.lst (ts.map encT)), .fz (.int cols), .fz (.int len), .lst (wide.map encT), .fz (encT t), .lst [], .no, .no, .no, .no] ∧ Dr o) ?_ ?_
      · simp only [WPx, cond_true, cond_false, List.getElem?_cons_succ, List.getElem?_cons_zero, List.set_cons_succ, List.set_cons_zero, List.map_cons, List.map_nil, Option.getD_some, List.nodup_nil, true_and, and_true, getB_dr h, List.length_map]
        refine ⟨by decide, (draw_ok h wide.length (by omega)).mono ?_⟩
        rintro r os ⟨v, o', rfl, rfl, h', hv1, hv2⟩
        have hv2 := hv2 (by omega)
        obtain ⟨v, rfl⟩ := Int.eq_ofNat_of_zero_le hv1
        have hvl : v < wide.length := by omega
        simp only [WPx, cond_true, cond_false, List.getElem?_cons_succ, List.getElem?_cons_zero, List.set_cons_succ, List.set_cons_zero, List.map_cons, List.map_nil, Option.getD_some, List.nodup_nil, true_and, and_true, atI_map (f := encT) hvl]
        exact ⟨o', wide[v], List.getElem_mem _, rfl, h'⟩
      rintro _ ⟨o, t, htw, rfl, h⟩
      obtain ⟨htm, ht2⟩ := hw t htw
      obtain ⟨m, hm⟩ : ∃ m, t.2 = m + 2 := ⟨t.2 - 2, by omega⟩
      have hm4 := (ht.w t htm).2
      refine wp_for (rgD len) [o, .fz (.lst (ts.map encT)), .fz (.int cols), .fz (.int len), .lst (wide.map encT), .fz (encT t), .lst [], .no, .no, .no, .no] (by simp only [WPx, cond_true, cond_false, List.getElem?_cons_succ, List.getElem?_cons_zero, List.set_cons_succ, List.set_cons_zero, List.map_cons, List.map_nil, Option.getD_some, List.nodup_nil, true_and, and_true, rng1_rgD len (by omega)])
        (fun i s => ∃ rows : List Rw, s = [o, .fz (.lst (ts.map encT)), .fz (.int cols), .fz (.int len), .lst (wide.map encT), .fz (encT t), .lst (rows.map encRw), .no, .no, .no, .no] ∧ rows.length = i ∧ ∀ r ∈ rows, RowIn ts ((len + 1 : Nat) : Int) r) ⟨[], rfl, rfl, by simp⟩ ?_ ?_
      · rintro i d s hd ⟨rows, rfl, hrl, hr⟩
        obtain ⟨hil, rfl⟩ := rgD_get hd
        simp only [nameT_eq, oP_some, List.set_cons_succ, List.set_cons_zero]
        refine wp_cut (fun s => s = [o, .fz (.lst (ts.map encT)), .fz (.int cols), .fz (.int len), .lst (wide.map encT), .fz (encT t), .lst (rows.map encRw), .fz (.int i), .lst (List.replicate t.2 (.int len)), .no, .no]) ?_ ?_
        · rw [wp_setS]
          refine const_lc 9 3 _ _ [o, .fz (.lst (ts.map encT)), .fz (.int cols), .fz (.int len), .lst (wide.map encT), .fz (encT t), .lst (rows.map encRw), .fz (.int i), .no, .no, .no] (rgD t.2) (.int len) (by simp only [WPx, cond_true, cond_false, List.getElem?_cons_succ, List.getElem?_cons_zero, List.set_cons_succ, List.set_cons_zero, List.map_cons, List.map_nil, Option.getD_some, List.nodup_nil, true_and, and_true, idxT1, rng1_rgD t.2 (by omega)]) (by rw [rgD_len]; omega) (by decide) rfl ?_
          simp only [WPx, cond_true, cond_false, List.getElem?_cons_succ, List.getElem?_cons_zero, List.set_cons_succ, List.set_cons_zero, List.map_cons, List.map_nil, Option.getD_some, List.nodup_nil, true_and, and_true, rgD_len]
        rintro _ rfl
        rw [hm, List.replicate_succ, List.replicate_succ]
        refine wp_cut (fun s => s = [o, .fz (.lst (ts.map encT)), .fz (.int cols), .fz (.int len), .lst (wide.map encT), .fz (encT t), .lst (rows.map encRw), .fz (.int i), .lst (.int i :: .int len :: List.replicate m (.int len)), .no, .no]) ?_ ?_
        · simp only [WPx, cond_true, cond_false, List.getElem?_cons_succ, List.getElem?_cons_zero, List.set_cons_succ, List.set_cons_zero, List.map_cons, List.map_nil, Option.getD_some, List.nodup_nil, true_and, and_true]
        rintro _ rfl
        refine wp_cut (fun s => s = [o, .fz (.lst (ts.map encT)), .fz (.int cols), .fz (.int len), .lst (wide.map encT), .fz (encT t), .lst (rows.map encRw), .fz (.int i), .lst (.int i :: .int (((i : Int) + 1) % len) :: List.replicate m (.int len)), .no, .no]) ?_ ?_
        · simp only [WPx, cond_true, cond_false, List.getElem?_cons_succ, List.getElem?_cons_zero, List.set_cons_succ, List.set_cons_zero, List.map_cons, List.map_nil, Option.getD_some, List.nodup_nil, true_and, and_true, modD_int _ (len : Int) (by omega)]
        rintro _ rfl
        have ee : (D.int i :: D.int (((i : Int) + 1) % len) :: List.replicate m (D.int len)) = encI ((i : Int) :: (((i : Int) + 1) % len) :: List.replicate m (len : Int)) := by
          unfold encI; simp
        rw [ee]
        simp only [WPx, cond_true, cond_false, List.getElem?_cons_succ, List.getElem?_cons_zero, List.set_cons_succ, List.set_cons_zero, List.map_cons, List.map_nil, Option.getD_some, List.nodup_nil, true_and, and_true, idxT0]
        rw [add_row _ _ (by simp; omega)]
        simp only [WPx, cond_true, cond_false, List.getElem?_cons_succ, List.getElem?_cons_zero, List.set_cons_succ, List.set_cons_zero, List.map_cons, List.map_nil, Option.getD_some, List.nodup_nil, true_and, and_true]
        refine ⟨fits_le (by simp), ?_⟩
        rw [appD_eq _ _ (by simp; exact lt_sl (by omega))]
        simp only [WPx, cond_true, cond_false, List.getElem?_cons_succ, List.getElem?_cons_zero, List.set_cons_succ, List.set_cons_zero, List.map_cons, List.map_nil, Option.getD_some, List.nodup_nil, true_and, and_true]
        refine ⟨rows ++ [(t.1, (i : Int) :: (((i : Int) + 1) % len) :: List.replicate m (len : Int))], by simp, by simp [hrl], fun x hx => ?_⟩
        rcases List.mem_append.1 hx with hx | hx
        · exact hr x hx
        · rw [List.mem_singleton.1 hx]
          refine ⟨t, htm, rfl, by simp [hm], fun c hc => ?_⟩
          have h1 : 0 ≤ ((i : Int) + 1) % len := Int.emod_nonneg _ (by omega)
          have h2 : ((i : Int) + 1) % len < len := Int.emod_lt_of_pos _ (by omega)
          rcases List.mem_cons.1 hc with rfl | hc
          · omega
          · rcases List.mem_cons.1 hc with rfl | hc
            · omega
            · rw [List.eq_of_mem_replicate hc]; omega
      · rintro s ⟨rows, rfl, hrl, hr⟩
        rw [rgD_len] at hrl
        simp only [WPx, cond_true, cond_false, List.getElem?_cons_succ, List.getElem?_cons_zero, List.set_cons_succ, List.set_cons_zero, List.map_cons, List.map_nil, Option.getD_some, List.nodup_nil, true_and, and_true]
        exact ⟨o, rows, _, rfl, h, by omega, hr⟩
    · simp only [WPx, cond_true, cond_false, List.getElem?_cons_succ, List.getElem?_cons_zero, List.set_cons_succ, List.set_cons_zero, List.map_cons, List.map_nil, Option.getD_some, List.nodup_nil, true_and, and_true]
      exact ⟨o, [], _, rfl, h, by simp, by simp⟩
  rintro _ ⟨o, rows, x, rfl, h, hrl, hr⟩
  have ek : (List.replicate cols (D.int len)) = encI (List.replicate cols (len : Int)) := by unfold encI; simp
  simp only [WPx, cond_true, cond_false, List.getElem?_cons_succ, List.getElem?_cons_zero, List.set_cons_succ, List.set_cons_zero, List.map_cons, List.map_nil, Option.getD_some, List.nodup_nil, true_and, and_true]
  refine const_lc 9 3 _ _ [o, .fz (.lst (ts.map encT)), .fz (.int cols), .fz (.int len), .lst (wide.map encT), x, .fz (.lst (rows.map encRw)), .no, .no, .no, .no] (rgD cols) (.int len) (by simp only [WPx, cond_true, cond_false, List.getElem?_cons_succ, List.getElem?_cons_zero, List.set_cons_succ, List.set_cons_zero, List.map_cons, List.map_nil, Option.getD_some, List.nodup_nil, true_and, and_true, rng1_rgD cols (by omega)]) (by rw [rgD_len]; omega) (by decide) rfl ?_
  simp only [WPx, cond_true, cond_false, List.getElem?_cons_succ, List.getElem?_cons_zero, List.set_cons_succ, List.set_cons_zero, List.map_cons, List.map_nil, Option.getD_some, List.nodup_nil, true_and, and_true, rgD_len]
  refine id_lc 10 _ _ [o, .fz (.lst (ts.map encT)), .fz (.int cols), .fz (.int len), .lst (wide.map encT), x, .fz (.lst (rows.map encRw)), .no, .no, .no, .no] (rgD (len + 1)) ?_ (by rw [rgD_len]; omega) (by simp) ?_
  · have e1 : (len : Int) + 1 = ((len + 1 : Nat) : Int) := by omega
    simp only [WPx, cond_true, cond_false, List.getElem?_cons_succ, List.getElem?_cons_zero, List.set_cons_succ, List.set_cons_zero, List.map_cons, List.map_nil, Option.getD_some, List.nodup_nil, true_and, and_true, e1, rng1_rgD (len + 1) (by omega)]
  have hv : ∀ v ∈ List.replicate cols (len : Int), 0 ≤ v ∧ v < ((len + 1 : Nat) : Int) := fun v hv => by rw [List.eq_of_mem_replicate hv]; omega
  have hsub := usedV_in hr hv
  have hul := usedV_len (hd := List.replicate cols (len : Int)) hr fun t h => (ht.w t h).2
  rw [List.length_replicate] at hul
  simp only [WPx, cond_true, cond_false, List.getElem?_cons_succ, List.getElem?_cons_zero, List.set_cons_succ, List.set_cons_zero, List.map_cons, List.map_nil, Option.getD_some, List.nodup_nil, true_and, and_true, ek]
  rw [rgD_rgI]
  refine (close_ok rows _ (rgI (len + 1)) _ (iterD_lst _) (listD_lst _) hsub (by omega) (by omega) (by rw [rgI_len]; omega)).mono ?_
  rintro r os ⟨p, kept, rfl, rfl, c⟩
  simp only [WPx, cond_true, cond_false, List.getElem?_cons_succ, List.getElem?_cons_zero, List.set_cons_succ, List.set_cons_zero, List.map_cons, List.map_nil, Option.getD_some, List.nodup_nil, true_and, and_true]
  refine ⟨p, o, rfl, rfl, h, ?_⟩
  have := c.drawn hsub hr
  rw [List.length_replicate, rgI_len] at this
  exact this.mono hrl (Nat.le_refl _)
end Ev
-- PB
set_option Elab.async false
set_option linter.all false
set_option maxRecDepth 100000
set_option maxHeartbeats 4000000
namespace Ev
open PySem L2 PySem.W PyProof.Rows
theorem ite_nx {b : Bool} {P Q : Prop} (h1 : b = true → P) (h2 : b = false → Q) : bif b then P else Q := by cases b with
  | true => exact h1 rfl
  | false => exact h2 rfl
def encG (g : List Int) : D := .lst (encI g)
theorem encG_eq (g : List Int) : D.lst (encI g) = encG g := rfl
theorem addG (a : List (List Int)) (b : List (List Int)) (h : a.length + b.length ≤ 1000000) : addD (.lst (a.map encG)) (.lst (b.map encG)) = some (.lst ((a ++ b).map encG)) := by
  show (if fits _ then _ else none) = _
  rw [if_pos (fits_le (by simpa using h)), List.map_append]
/-- the law's look at a forest: it answers -/
theorem forest_ok (rows : List Rw) (hd : List Int) (hz : ∀ r ∈ rows, r.2.length ≤ 1000) (hn : rows.length ≤ 1000) :
    wpF f_law_forest [.fz (.lst (rows.map encRw)), .fz (.lst (encI hd))] fun r os => ∃ b : Bool, r = .fz (.bl b) ∧ os = [.no, .no] := by
  have X := D.lst (encI hd)
  refine wp_fun [.fz (.lst (rows.map encRw)), .fz (.lst (encI hd)), .no, .no, .no, .no, .no, .no, .no, .no] ?_
  unfold b_law_forest
  refine wp_cut (fun s => ∃ gs : List (List Int), s = [.fz (.lst (rows.map encRw)), .fz (.lst (encI hd)), .lst (gs.map encG), .no, .no, .no, .no, .no, .no, .no] ∧ gs.length ≤ 4 ∧ gs.flatten.length ≤ 4) ?_ ?_
  · rw [wp_setS]
    refine wp_lc (rgD 4) [.fz (.lst (rows.map encRw)), .fz (.lst (encI hd)), .no, .no, .no, .no, .no, .no, .no, .no] (by simp only [WPx, cond_true, cond_false, List.getElem?_cons_succ, List.getElem?_cons_zero, List.set_cons_succ, List.set_cons_zero, List.map_cons, List.map_nil, Option.getD_some, List.nodup_nil, true_and, and_true]; rw [show (4 : Int) = ((4 : Nat) : Int) from rfl, rng1_rgD 4 (by omega)]; simp only [WPx, cond_true, cond_false, List.getElem?_cons_succ, List.getElem?_cons_zero, List.set_cons_succ, List.set_cons_zero, List.map_cons, List.map_nil, Option.getD_some, List.nodup_nil, true_and, and_true]) (by rw [rgD_len]; exact le_sl (by omega))
      (fun i acc s => ∃ gs : List (List Int), s = [.fz (.lst (rows.map encRw)), .fz (.lst (encI hd)), .no, .no, .no, .no, .no, .no, .no, .no] ∧ acc = gs.map encG ∧ gs.length ≤ i ∧ gs.flatten.length ≤ i) ⟨[], rfl, rfl, by simp, by simp⟩ ?_ ?_
    · rintro j d acc s hj ⟨gs, rfl, rfl, h1, h2⟩
      obtain ⟨hj, rfl⟩ := rgD_get hj
      simp only [WPx, cond_true, cond_false, List.getElem?_cons_succ, List.getElem?_cons_zero, List.set_cons_succ, List.set_cons_zero, List.map_cons, List.map_nil, Option.getD_some, List.nodup_nil, true_and, and_true, ninI_l]
      refine bifN_split (fun q => ?_) fun q => ?_
      · refine ⟨fits_le (by simp), gs ++ [[(j : Int)]], ?_, by simp; omega, by simp; simp at h2; omega⟩
        rw [List.map_append]; rfl
      · exact ⟨gs, rfl, by omega, by omega⟩
    · rintro acc s ⟨gs, rfl, rfl, h1, h2⟩
      rw [rgD_len] at h1 h2
      simp only [WPx, cond_true, cond_false, List.getElem?_cons_succ, List.getElem?_cons_zero, List.set_cons_succ, List.set_cons_zero, List.map_cons, List.map_nil, Option.getD_some, List.nodup_nil, true_and, and_true]
      exact ⟨gs, rfl, h1, h2⟩
  rintro _ ⟨gs, rfl, hg1, hg2⟩
  refine wp_cut (fun s => ∃ gs : List (List Int), s = [.fz (.lst (rows.map encRw)), .fz (.lst (encI hd)), .lst (gs.map encG), .no, .no, .no, .no, .no, .no, .no]) ?_ ?_
  · refine wp_for (rows.map encRw) [.fz (.lst (rows.map encRw)), .fz (.lst (encI hd)), .lst (gs.map encG), .no, .no, .no, .no, .no, .no, .no] (by simp only [WPx, cond_true, cond_false, List.getElem?_cons_succ, List.getElem?_cons_zero, List.set_cons_succ, List.set_cons_zero, List.map_cons, List.map_nil, Option.getD_some, List.nodup_nil, true_and, and_true])
      (fun i s => ∃ gs : List (List Int), s = [.fz (.lst (rows.map encRw)), .fz (.lst (encI hd)), .lst (gs.map encG), .no, .no, .no, .no, .no, .no, .no] ∧ gs.length ≤ 4 + i ∧ gs.flatten.length ≤ 4) ⟨gs, rfl, hg1, hg2⟩ ?_ ?_
    · rintro i d s hd' ⟨gs, rfl, hg1, hg2⟩
      obtain ⟨r, hr, rfl⟩ := map_get hd'
      have hil : i < rows.length := (List.getElem?_eq_some_iff.mp hr).1
      have hrz := hz r (List.mem_of_getElem? hr)
      simp only [nameT_eq, oP_some, List.set_cons_succ, List.set_cons_zero]
      refine wp_cut (fun s => s = [.fz (.lst (rows.map encRw)), .fz (.lst (encI hd)), .lst (gs.map encG), .no, .fz (encRw r), .lst [], .no, .no, .no, .no]) (by simp only [WPx, cond_true, cond_false, List.getElem?_cons_succ, List.getElem?_cons_zero, List.set_cons_succ, List.set_cons_zero, List.map_cons, List.map_nil, Option.getD_some, List.nodup_nil, true_and, and_true]; exact fits_le (by simp)) ?_
      rintro _ rfl
      refine wp_cut (fun s => s = [.fz (.lst (rows.map encRw)), .fz (.lst (encI hd)), .lst (gs.map encG), .no, .fz (encRw r), .lst [], .lst [], .no, .no, .no]) (by simp only [WPx, cond_true, cond_false, List.getElem?_cons_succ, List.getElem?_cons_zero, List.set_cons_succ, List.set_cons_zero, List.map_cons, List.map_nil, Option.getD_some, List.nodup_nil, true_and, and_true]; exact fits_le (by simp)) ?_
      rintro _ rfl
      refine wp_cut (fun s => s = [.fz (.lst (rows.map encRw)), .fz (.lst (encI hd)), .lst (gs.map encG), .no, .fz (encRw r), .lst [], .lst [], .lst [], .no, .no]) (by simp only [WPx, cond_true, cond_false, List.getElem?_cons_succ, List.getElem?_cons_zero, List.set_cons_succ, List.set_cons_zero, List.map_cons, List.map_nil, Option.getD_some, List.nodup_nil, true_and, and_true]; exact fits_le (by simp)) ?_
      rintro _ rfl
      refine wp_cut (fun s => ∃ tc : List Int, s = [.fz (.lst (rows.map encRw)), .fz (.lst (encI hd)), .lst (gs.map encG), .no, .fz (encRw r), .lst (encI tc), .lst [], .lst [], .no, .no]) ?_ ?_
      · refine wp_for (encI r.2) [.fz (.lst (rows.map encRw)), .fz (.lst (encI hd)), .lst (gs.map encG), .no, .fz (encRw r), .lst [], .lst [], .lst [], .no, .no] (by simp only [WPx, cond_true, cond_false, List.getElem?_cons_succ, List.getElem?_cons_zero, List.set_cons_succ, List.set_cons_zero, List.map_cons, List.map_nil, Option.getD_some, List.nodup_nil, true_and, and_true, sl_row])
          (fun j s => ∃ tc : List Int, s = [.fz (.lst (rows.map encRw)), .fz (.lst (encI hd)), .lst (gs.map encG), .no, .fz (encRw r), .lst (encI tc), .lst [], .lst [], .no, .no] ∧ tc.length = j) ⟨[], rfl, rfl⟩ ?_ ?_
        · rintro j d s hdj ⟨tc, rfl, htc⟩
          obtain ⟨v, hv, rfl⟩ := map_get hdj
          have hjl : j < r.2.length := (List.getElem?_eq_some_iff.mp hv).1
          simp only [nameT_eq, oP_some, List.set_cons_succ, List.set_cons_zero]
          refine wp_cut (fun s => s = [.fz (.lst (rows.map encRw)), .fz (.lst (encI hd)), .lst (gs.map encG), .fz (.int v), .fz (encRw r), .lst (encI tc), .lst [], .lst [], .no, .no]) ?_ ?_
          · simp only [WPx, cond_true, cond_false, List.getElem?_cons_succ, List.getElem?_cons_zero, List.set_cons_succ, List.set_cons_zero, List.map_cons, List.map_nil, Option.getD_some, List.nodup_nil, true_and, and_true, inI_l, ninI_l]
            refine bif_split (fun q => ?_) fun q => ?_
            · refine bifN_split (fun q => ?_) fun q => ?_
              · exact ⟨false, rfl, rfl⟩
              · trivial
            · trivial
          rintro _ rfl
          simp only [WPx, cond_true, cond_false, List.getElem?_cons_succ, List.getElem?_cons_zero, List.set_cons_succ, List.set_cons_zero, List.map_cons, List.map_nil, Option.getD_some, List.nodup_nil, true_and, and_true]
          rw [appD_eq _ _ (by rw [encI_len]; exact lt_sl (by omega))]
          simp only [WPx, cond_true, cond_false, List.getElem?_cons_succ, List.getElem?_cons_zero, List.set_cons_succ, List.set_cons_zero, List.map_cons, List.map_nil, Option.getD_some, List.nodup_nil, true_and, and_true]
          exact ⟨tc ++ [v], by rw [encI_app]; rfl, by simp [htc]⟩
        · rintro s ⟨tc, rfl, _⟩
          simp only [WPx, cond_true, cond_false, List.getElem?_cons_succ, List.getElem?_cons_zero, List.set_cons_succ, List.set_cons_zero, List.map_cons, List.map_nil, Option.getD_some, List.nodup_nil, true_and, and_true]
          exact ⟨tc, rfl⟩
      rintro _ ⟨tc, rfl⟩
      refine wp_cut (fun s => ∃ (kp : List (List Int)) (jn : List Int), s = [.fz (.lst (rows.map encRw)), .fz (.lst (encI hd)), .fz (.lst (gs.map encG)), .no, .fz (encRw r), .lst (encI tc), .lst (kp.map encG), .lst (encI jn), .no, .no] ∧ kp.length ≤ gs.length ∧ kp.flatten.length + jn.length = gs.flatten.length) ?_ ?_
      · refine wp_for (gs.map encG) [.fz (.lst (rows.map encRw)), .fz (.lst (encI hd)), .fz (.lst (gs.map encG)), .no, .fz (encRw r), .lst (encI tc), .lst [], .lst [], .no, .no] (by simp only [WPx, cond_true, cond_false, List.getElem?_cons_succ, List.getElem?_cons_zero, List.set_cons_succ, List.set_cons_zero, List.map_cons, List.map_nil, Option.getD_some, List.nodup_nil, true_and, and_true])
          (fun j s => ∃ (kp : List (List Int)) (jn : List Int), s = [.fz (.lst (rows.map encRw)), .fz (.lst (encI hd)), .fz (.lst (gs.map encG)), .no, .fz (encRw r), .lst (encI tc), .lst (kp.map encG), .lst (encI jn), .no, .no] ∧ kp.length ≤ j ∧ kp.flatten.length + jn.length = (gs.take j).flatten.length) ⟨[], [], rfl, by simp, by simp⟩ ?_ ?_
        · rintro j d s hdj ⟨kp, jn, rfl, hk1, hk2⟩
          obtain ⟨g, hg, rfl⟩ := map_get hdj
          have hjl : j < gs.length := (List.getElem?_eq_some_iff.mp hg).1
          have hgl : g.length ≤ 4 := Nat.le_trans (mem_len (List.mem_of_getElem? hg)) hg2
          have ht1 : (gs.take (j + 1)).flatten.length = (gs.take j).flatten.length + g.length := by rw [List.take_add_one, hg]; simp
          have ht2 := (take_flat (j + 1) gs).length_le
          simp only [nameT_eq, oP_some, List.set_cons_succ, List.set_cons_zero]
          refine wp_cut (fun s => ∃ n : Nat, s = [.fz (.lst (rows.map encRw)), .fz (.lst (encI hd)), .fz (.lst (gs.map encG)), .no, .fz (encRw r), .lst (encI tc), .lst (kp.map encG), .lst (encI jn), .fz (encG g), .fz (.int n)]) ?_ ?_
          · simp only [wp_setS, wp_primN, wp_aCons, wp_aNil]
            refine wp_lc (encI g) [.fz (.lst (rows.map encRw)), .fz (.lst (encI hd)), .fz (.lst (gs.map encG)), .no, .fz (encRw r), .lst (encI tc), .lst (kp.map encG), .lst (encI jn), .fz (encG g), .no] (by unfold encG; simp only [WPx, cond_true, cond_false, List.getElem?_cons_succ, List.getElem?_cons_zero, List.set_cons_succ, List.set_cons_zero, List.map_cons, List.map_nil, Option.getD_some, List.nodup_nil, true_and, and_true]) (by rw [encI_len]; exact le_sl (by omega))
              (fun k acc s => ∃ l : List Int, s = [.fz (.lst (rows.map encRw)), .fz (.lst (encI hd)), .fz (.lst (gs.map encG)), .no, .fz (encRw r), .lst (encI tc), .lst (kp.map encG), .lst (encI jn), .fz (encG g), .no] ∧ acc = encI l) ⟨[], rfl, rfl⟩ ?_ ?_
            · rintro k d acc s hdk ⟨l, rfl, rfl⟩
              obtain ⟨v, hv, rfl⟩ := map_get hdk
              simp only [WPx, cond_true, cond_false, List.getElem?_cons_succ, List.getElem?_cons_zero, List.set_cons_succ, List.set_cons_zero, List.map_cons, List.map_nil, Option.getD_some, List.nodup_nil, true_and, and_true, sl_row, inI_t]
              refine bif_split (fun q => ?_) fun q => ?_
              · exact ⟨l ++ [v], by rw [encI_app]; rfl⟩
              · exact ⟨l, rfl⟩
            · rintro acc s ⟨l, rfl, rfl⟩
              simp only [WPx, cond_true, cond_false, List.getElem?_cons_succ, List.getElem?_cons_zero, List.set_cons_succ, List.set_cons_zero, List.map_cons, List.map_nil, Option.getD_some, List.nodup_nil, true_and, and_true]
              exact ⟨_, rfl⟩
          rintro _ ⟨n, rfl⟩
          refine wp_cut (fun s => s = [.fz (.lst (rows.map encRw)), .fz (.lst (encI hd)), .fz (.lst (gs.map encG)), .no, .fz (encRw r), .lst (encI tc), .lst (kp.map encG), .lst (encI jn), .fz (encG g), .fz (.int n)]) ?_ ?_
          · simp only [WPx, cond_true, cond_false, List.getElem?_cons_succ, List.getElem?_cons_zero, List.set_cons_succ, List.set_cons_zero, List.map_cons, List.map_nil, Option.getD_some, List.nodup_nil, true_and, and_true]
            refine bif_split (fun q => ?_) fun q => ?_
            · exact ⟨false, rfl, rfl⟩
            · trivial
          rintro _ rfl
          have ea : addD (.lst (encI jn)) (encG g) = some (.lst (encI (jn ++ g))) := addI_l jn g (by omega)
          simp only [WPx, cond_true, cond_false, List.getElem?_cons_succ, List.getElem?_cons_zero, List.set_cons_succ, List.set_cons_zero, List.map_cons, List.map_nil, Option.getD_some, List.nodup_nil, true_and, and_true, ea]
          refine bif_split (fun q => ?_) fun q => ?_
          · exact ⟨kp, jn ++ g, rfl, by omega, by rw [List.length_append]; omega⟩
          · rw [appD_eq _ _ (by rw [List.length_map]; exact lt_sl (by omega))]
            simp only [WPx, cond_true, cond_false, List.getElem?_cons_succ, List.getElem?_cons_zero, List.set_cons_succ, List.set_cons_zero, List.map_cons, List.map_nil, Option.getD_some, List.nodup_nil, true_and, and_true]
            exact ⟨kp ++ [g], jn, by rw [List.map_append]; rfl, by simp; omega, by simp only [List.flatten_append, List.length_append, List.flatten_cons, List.flatten_nil, List.length_nil]; omega⟩
        · rintro s ⟨kp, jn, rfl, hk1, hk2⟩
          rw [List.length_map, List.take_length] at hk2
          rw [List.length_map] at hk1
          simp only [WPx, cond_true, cond_false, List.getElem?_cons_succ, List.getElem?_cons_zero, List.set_cons_succ, List.set_cons_zero, List.map_cons, List.map_nil, Option.getD_some, List.nodup_nil, true_and, and_true]
          exact ⟨kp, jn, rfl, hk1, hk2⟩
      rintro _ ⟨kp, jn, rfl, hk1, hk2⟩
      have ea : addD (.lst (kp.map encG)) (.lst [.lst (encI jn)]) = some (.lst ((kp ++ [jn]).map encG)) := addG kp [jn] (by simp; omega)
      simp only [WPx, cond_true, cond_false, List.getElem?_cons_succ, List.getElem?_cons_zero, List.set_cons_succ, List.set_cons_zero, List.map_cons, List.map_nil, Option.getD_some, List.nodup_nil, true_and, and_true, ea]
      refine ⟨fits_le (by simp), kp ++ [jn], rfl, by simp; omega, by simp only [List.flatten_append, List.length_append, List.flatten_cons, List.flatten_nil, List.length_nil]; omega⟩
    · rintro s ⟨gs, rfl, _, _⟩
      simp only [WPx, cond_true, cond_false, List.getElem?_cons_succ, List.getElem?_cons_zero, List.set_cons_succ, List.set_cons_zero, List.map_cons, List.map_nil, Option.getD_some, List.nodup_nil, true_and, and_true]
      exact ⟨gs, rfl⟩
  rintro _ ⟨gs, rfl⟩
  simp only [WPx, cond_true, cond_false, List.getElem?_cons_succ, List.getElem?_cons_zero, List.set_cons_succ, List.set_cons_zero, List.map_cons, List.map_nil, Option.getD_some, List.nodup_nil, true_and, and_true]
  exact ⟨true, rfl, rfl⟩
end Ev
-- PC
set_option Elab.async false
set_option linter.all false
set_option maxRecDepth 100000
set_option maxHeartbeats 4000000
namespace Ev
open PySem L2 PySem.W PyProof.Rows
theorem addRw (a b : List Rw) (h : a.length + b.length ≤ 1000000) : addD (.lst (a.map encRw)) (.lst (b.map encRw)) = some (.lst ((a ++ b).map encRw)) := by
  show (if fits _ then _ else none) = _
  rw [if_pos (fits_le (by simpa using h)), List.map_append]
theorem tree_ok {o : O} (ts : List Tb) (cols count : Nat) (h : Dr o) (ht : Tbs ts) (hc : cols ≤ 1000) (hn : count ≤ 1000) :
    wpF f_law_tree [o, .fz (.lst (ts.map encT)), .fz (.int cols), .fz (.int count)] fun r os => ∃ (p : Pn) (o' : O), r = .fz (encP p) ∧ os = [o', .no, .no, .no] ∧ Dr o' ∧ Drawn ts cols count 4 p := by
  refine wp_fun [o, .fz (.lst (ts.map encT)), .fz (.int cols), .fz (.int count), .no, .no, .no, .no, .no] ?_
  unfold b_law_tree
  refine wp_cut (fun s => ∃ (o : O) (hd : List Int), s = [o, .fz (.lst (ts.map encT)), .fz (.int cols), .fz (.int count), .lst (encI hd), .no, .no, .no, .no] ∧ Dr o ∧ hd.length = cols ∧ ∀ v ∈ hd, 0 ≤ v ∧ v < ((4 : Nat) : Int)) ?_ ?_
  · rw [wp_setS]
    refine wp_lc (rgD cols) [o, .fz (.lst (ts.map encT)), .fz (.int cols), .fz (.int count), .no, .no, .no, .no, .no] (by simp only [WPx, cond_true, cond_false, List.getElem?_cons_succ, List.getElem?_cons_zero, List.set_cons_succ, List.set_cons_zero, List.map_cons, List.map_nil, Option.getD_some, List.nodup_nil, true_and, and_true, rng1_rgD cols (by omega)]) (by rw [rgD_len]; exact le_sl (by omega))
      (fun i acc s => ∃ (o : O) (hd : List Int), s = [o, .fz (.lst (ts.map encT)), .fz (.int cols), .fz (.int count), .no, .no, .no, .no, .no] ∧ acc = encI hd ∧ Dr o ∧ hd.length = i ∧ ∀ v ∈ hd, 0 ≤ v ∧ v < ((4 : Nat) : Int)) ⟨o, [], rfl, rfl, h, rfl, by simp⟩ ?_ ?_
    · rintro j d acc s hj ⟨o, hd, rfl, rfl, h, hl, hv⟩
      simp only [WPx, cond_true, cond_false, List.getElem?_cons_succ, List.getElem?_cons_zero, List.set_cons_succ, List.set_cons_zero, List.map_cons, List.map_nil, Option.getD_some, List.nodup_nil, true_and, and_true, getB_dr h]
      refine ⟨by decide, (draw_ok h 4 (by omega)).mono ?_⟩
      rintro r os ⟨w, o', rfl, rfl, h', hw1, hw2⟩
      have hw2 := hw2 (by omega)
      simp only [WPx, cond_true, cond_false, List.getElem?_cons_succ, List.getElem?_cons_zero, List.set_cons_succ, List.set_cons_zero, List.map_cons, List.map_nil, Option.getD_some, List.nodup_nil, true_and, and_true]
      refine ⟨by decide, (draw_ok h' (1 + w) (by omega)).mono ?_⟩
      rintro r os ⟨v, o', rfl, rfl, h', hv1, hv2⟩
      have hv2 := hv2 (by omega)
      simp only [WPx, cond_true, cond_false, List.getElem?_cons_succ, List.getElem?_cons_zero, List.set_cons_succ, List.set_cons_zero, List.map_cons, List.map_nil, Option.getD_some, List.nodup_nil, true_and, and_true]
      refine ⟨o', hd ++ [v], rfl, by rw [encI_app]; rfl, h', by simp [hl], fun x hx => ?_⟩
      rcases List.mem_append.1 hx with hx | hx
      · exact hv x hx
      · rw [List.mem_singleton.1 hx]; omega
    · rintro acc s ⟨o, hd, rfl, rfl, h, hl, hv⟩
      rw [rgD_len] at hl
      simp only [WPx, cond_true, cond_false, List.getElem?_cons_succ, List.getElem?_cons_zero, List.set_cons_succ, List.set_cons_zero, List.map_cons, List.map_nil, Option.getD_some, List.nodup_nil, true_and, and_true]
      exact ⟨o, hd, rfl, h, hl, hv⟩
  rintro _ ⟨o, hd, rfl, h, hl, hv⟩
  refine wp_cut (fun s => s = [o, .fz (.lst (ts.map encT)), .fz (.int cols), .fz (.int count), .lst (encI hd), .no, .lst [], .no, .no]) (by simp only [WPx, cond_true, cond_false, List.getElem?_cons_succ, List.getElem?_cons_zero, List.set_cons_succ, List.set_cons_zero, List.map_cons, List.map_nil, Option.getD_some, List.nodup_nil, true_and, and_true]; exact fits_le (by simp)) ?_
  rintro _ rfl
  refine wp_cut (fun s => ∃ (o y : O) (rows : List Rw), s = [o, .fz (.lst (ts.map encT)), .fz (.int cols), .fz (.int count), y, .no, .lst (rows.map encRw), .no, .no] ∧ (y = .lst (encI hd) ∨ y = .fz (.lst (encI hd))) ∧ Dr o ∧ rows.length ≤ count ∧ ∀ r ∈ rows, RowIn ts 4 r) ?_ ?_
  · refine wp_for (rgD count) [o, .fz (.lst (ts.map encT)), .fz (.int cols), .fz (.int count), .lst (encI hd), .no, .lst [], .no, .no] (by simp only [WPx, cond_true, cond_false, List.getElem?_cons_succ, List.getElem?_cons_zero, List.set_cons_succ, List.set_cons_zero, List.map_cons, List.map_nil, Option.getD_some, List.nodup_nil, true_and, and_true, rng1_rgD count (by omega)])
      (fun i s => ∃ (o y : O) (rows : List Rw), s = [o, .fz (.lst (ts.map encT)), .fz (.int cols), .fz (.int count), y, .no, .lst (rows.map encRw), .no, .no] ∧ (y = .lst (encI hd) ∨ y = .fz (.lst (encI hd))) ∧ Dr o ∧ rows.length ≤ i ∧ ∀ r ∈ rows, RowIn ts 4 r) ⟨o, _, [], rfl, .inl rfl, h, by simp, by simp⟩ ?_ ?_
    · rintro i d s hd' ⟨o, y, rows, rfl, hy, h, hrl, hr⟩
      have hil : i < count := by have := (List.getElem?_eq_some_iff.mp hd').1; rwa [rgD_len] at this
      simp only [nameT_eq, oP_some, List.set_cons_succ, List.set_cons_zero]
      refine wp_cut (fun s => ∃ (o : O) (row : Rw), s = [o, .fz (.lst (ts.map encT)), .fz (.int cols), .fz (.int count), y, .no, .lst (rows.map encRw), .fz d, .fz (encRw row)] ∧ Dr o ∧ RowIn ts 4 row) ?_ ?_
      · simp only [WPx, cond_true, cond_false, List.getElem?_cons_succ, List.getElem?_cons_zero, List.set_cons_succ, List.set_cons_zero, List.map_cons, List.map_nil, Option.getD_some, List.nodup_nil, true_and, and_true, getB_dr h]
        refine ⟨by decide, (row_ok ts 4 h ht.ne (by have := ht.len; omega) (fun t h => by have := ht.w t h; omega) (by omega) (by omega)).mono ?_⟩
        rintro r os ⟨o', t, l, htm, rfl, rfl, h', hll, hlv⟩
        simp only [WPx, cond_true, cond_false, List.getElem?_cons_succ, List.getElem?_cons_zero, List.set_cons_succ, List.set_cons_zero, List.map_cons, List.map_nil, Option.getD_some, List.nodup_nil, true_and, and_true]
        exact ⟨o', (t.1, l), rfl, h', t, htm, rfl, hll, hlv⟩
      rintro _ ⟨o, row, rfl, h, hrow⟩
      have hrw : ∀ r ∈ rows ++ [row], RowIn ts 4 r := fun r hr' => by
        rcases List.mem_append.1 hr' with hx | hx
        · exact hr r hx
        · rw [List.mem_singleton.1 hx]; exact hrow
      have ea : addD (.lst (rows.map encRw)) (.lst [encRw row]) = some (.lst ((rows ++ [row]).map encRw)) := addRw rows [row] (by simp; omega)
      have ev : O.view y = some (.lst (encI hd)) := by rcases hy with rfl | rfl <;> rfl
      simp only [wp_ifS, wp_tAn, wp_tstB, wp_tstU, wp_prim2, wp_varB, List.getElem?_cons_succ, List.getElem?_cons_zero, getB_lst, getB_fz, opR_bor, opR_fz, vw_bor, vw_fz, bind_some', view_lst, eq_row.nin_l, resO_fz, bP_bl]
      refine bifN_split (fun q => ?_) fun q => ?_
      · simp only [WPx, cond_true, cond_false, List.getElem?_cons_succ, List.getElem?_cons_zero, List.set_cons_succ, List.set_cons_zero, List.map_cons, List.map_nil, Option.getD_some, List.nodup_nil, true_and, and_true, ea, ev]
        refine ⟨fits_le (by simp), ?_⟩
        refine (forest_ok (rows ++ [row]) hd (fun r hr' => ?_) (by simp; omega)).mono ?_
        · obtain ⟨t, ht', _, hl, _⟩ := hrw r hr'
          have := ht.w t ht'; omega
        rintro r os ⟨b, rfl, rfl⟩
        simp only [WPx, cond_true, cond_false, List.getElem?_cons_succ, List.getElem?_cons_zero, List.set_cons_succ, List.set_cons_zero, List.map_cons, List.map_nil, Option.getD_some, List.nodup_nil, true_and, and_true, truD_bl]
        cases b with
        | true =>
          simp only [WPx, cond_true, cond_false, List.getElem?_cons_succ, List.getElem?_cons_zero, List.set_cons_succ, List.set_cons_zero, List.map_cons, List.map_nil, Option.getD_some, List.nodup_nil, true_and, and_true]
          rw [appD_eq _ _ (by rw [List.length_map]; exact lt_sl (by omega))]
          simp only [WPx, cond_true, cond_false, List.getElem?_cons_succ, List.getElem?_cons_zero, List.set_cons_succ, List.set_cons_zero, List.map_cons, List.map_nil, Option.getD_some, List.nodup_nil, true_and, and_true]
          exact ⟨o, _, rows ++ [row], by rw [List.map_append]; rfl, .inr rfl, h, by simp; omega, hrw⟩
        | false =>
          simp only [WPx, cond_true, cond_false, List.getElem?_cons_succ, List.getElem?_cons_zero, List.set_cons_succ, List.set_cons_zero, List.map_cons, List.map_nil, Option.getD_some, List.nodup_nil, true_and, and_true]
          exact ⟨o, _, rows, rfl, .inr rfl, h, by omega, hr⟩
      · simp only [WPx, cond_true, cond_false, List.getElem?_cons_succ, List.getElem?_cons_zero, List.set_cons_succ, List.set_cons_zero, List.map_cons, List.map_nil, Option.getD_some, List.nodup_nil, true_and, and_true]
        exact ⟨o, _, rows, rfl, hy, h, by omega, hr⟩
    · rintro s ⟨o, y, rows, rfl, hy, h, hrl, hr⟩
      rw [rgD_len] at hrl
      simp only [WPx, cond_true, cond_false, List.getElem?_cons_succ, List.getElem?_cons_zero, List.set_cons_succ, List.set_cons_zero, List.map_cons, List.map_nil, Option.getD_some, List.nodup_nil, true_and, and_true]
      exact ⟨o, y, rows, rfl, hy, h, hrl, hr⟩
  rintro _ ⟨o, y, rows, rfl, hy, h, hrl, hr⟩
  have ev : O.view y = some (.lst (encI hd)) := by rcases hy with rfl | rfl <;> rfl
  have e4 : D.lst [.int 0, .int 1, .int 2, .int 3] = .lst (encI (rgI 4)) := rfl
  have hr : ∀ r ∈ rows, RowIn ts ((4 : Nat) : Int) r := hr
  have hsub := usedV_in hr hv
  have hul := usedV_len (hd := hd) hr fun t h => (ht.w t h).2
  simp only [WPx, cond_true, cond_false, List.getElem?_cons_succ, List.getElem?_cons_zero, List.set_cons_succ, List.set_cons_zero, List.map_cons, List.map_nil, Option.getD_some, List.nodup_nil, true_and, and_true, ev, e4]
  refine ⟨fits_le (by simp), ?_⟩
  refine (close_ok rows _ (rgI 4) _ (iterD_lst _) (listD_lst _) hsub (by omega) (by omega) (by rw [rgI_len]; omega)).mono ?_
  rintro r os ⟨p, kept, rfl, rfl, c⟩
  simp only [WPx, cond_true, cond_false, List.getElem?_cons_succ, List.getElem?_cons_zero, List.set_cons_succ, List.set_cons_zero, List.map_cons, List.map_nil, Option.getD_some, List.nodup_nil, true_and, and_true]
  refine ⟨p, o, rfl, rfl, h, ?_⟩
  have := c.drawn hsub hr
  rw [hl, rgI_len] at this
  exact this.mono hrl (Nat.le_refl _)
theorem drawn_ok {o : O} (ts : List Tb) (cols : Nat) (h : Dr o) (ht : Tbs ts) (hc : cols ≤ 1000) :
    wpF f_law_drawn [o, .fz (.lst (ts.map encT)), .fz (.int cols)] fun r os => ∃ (p : Pn) (o' : O), r = .fz (encP p) ∧ os = [o', .no, .no] ∧ Dr o' ∧ Drawn ts cols 4 4 p := by
  refine wp_fun [o, .fz (.lst (ts.map encT)), .fz (.int cols), .no] ?_
  unfold b_law_drawn
  refine wp_cut (fun s => ∃ (o : O) (v : Int), s = [o, .fz (.lst (ts.map encT)), .fz (.int cols), .fz (.int v)] ∧ Dr o) ?_ ?_
  · simp only [WPx, cond_true, cond_false, List.getElem?_cons_succ, List.getElem?_cons_zero, List.set_cons_succ, List.set_cons_zero, List.map_cons, List.map_nil, Option.getD_some, List.nodup_nil, true_and, and_true, getB_dr h]
    refine ⟨by decide, (draw_ok h 4 (by omega)).mono ?_⟩
    rintro r os ⟨v, o', rfl, rfl, h', -, -⟩
    simp only [WPx, cond_true, cond_false, List.getElem?_cons_succ, List.getElem?_cons_zero, List.set_cons_succ, List.set_cons_zero, List.map_cons, List.map_nil, Option.getD_some, List.nodup_nil, true_and, and_true]
    exact ⟨o', v, rfl, h'⟩
  rintro _ ⟨o, v, rfl, h⟩
  refine wp_cut (fun s => s = [o, .fz (.lst (ts.map encT)), .fz (.int cols), .fz (.int v)]) ?_ ?_
  · simp only [WPx, cond_true, cond_false, List.getElem?_cons_succ, List.getElem?_cons_zero, List.set_cons_succ, List.set_cons_zero, List.map_cons, List.map_nil, Option.getD_some, List.nodup_nil, true_and, and_true, getB_dr h]
    refine bif_split (fun q => ?_) fun q => ?_
    · refine ⟨by decide, (draw_ok h 3 (by omega)).mono ?_⟩
      rintro r os ⟨v, o', rfl, rfl, h', hv1, hv2⟩
      have hv2 := hv2 (by omega)
      obtain ⟨n, hn⟩ := Int.eq_ofNat_of_zero_le (show 0 ≤ 1 + v by omega)
      simp only [WPx, cond_true, cond_false, List.getElem?_cons_succ, List.getElem?_cons_zero, List.set_cons_succ, List.set_cons_zero, List.map_cons, List.map_nil, Option.getD_some, List.nodup_nil, true_and, and_true, hn]
      refine ⟨by decide, (loop_ok ts cols n h' ht hc (by omega)).mono ?_⟩
      rintro r os ⟨p, o', rfl, rfl, h', hd⟩
      simp only [WPx, cond_true, cond_false, List.getElem?_cons_succ, List.getElem?_cons_zero, List.set_cons_succ, List.set_cons_zero, List.map_cons, List.map_nil, Option.getD_some, List.nodup_nil, true_and, and_true]
      exact ⟨p, o', rfl, rfl, h', hd.mono (by omega) (by omega)⟩
    · trivial
  rintro _ rfl
  refine wp_cut (fun s => s = [o, .fz (.lst (ts.map encT)), .fz (.int cols), .fz (.int v)]) ?_ ?_
  · simp only [WPx, cond_true, cond_false, List.getElem?_cons_succ, List.getElem?_cons_zero, List.set_cons_succ, List.set_cons_zero, List.map_cons, List.map_nil, Option.getD_some, List.nodup_nil, true_and, and_true, getB_dr h]
    refine bif_split (fun q => ?_) fun q => ?_
    · refine ⟨by decide, (draw_ok h 4 (by omega)).mono ?_⟩
      rintro r os ⟨v, o', rfl, rfl, h', hv1, hv2⟩
      have hv2 := hv2 (by omega)
      obtain ⟨n, hn⟩ := Int.eq_ofNat_of_zero_le (show 0 ≤ 1 + v by omega)
      simp only [WPx, cond_true, cond_false, List.getElem?_cons_succ, List.getElem?_cons_zero, List.set_cons_succ, List.set_cons_zero, List.map_cons, List.map_nil, Option.getD_some, List.nodup_nil, true_and, and_true, hn, getB_dr h']
      refine ⟨by decide, (draw_ok h' 5 (by omega)).mono ?_⟩
      rintro r os ⟨w, o', rfl, rfl, h', hw1, hw2⟩
      have hw2 := hw2 (by omega)
      obtain ⟨w, rfl⟩ := Int.eq_ofNat_of_zero_le hw1
      simp only [WPx, cond_true, cond_false, List.getElem?_cons_succ, List.getElem?_cons_zero, List.set_cons_succ, List.set_cons_zero, List.map_cons, List.map_nil, Option.getD_some, List.nodup_nil, true_and, and_true]
      refine ⟨by decide, (random_ok ts cols n w h' ht hc (by omega) (by omega)).mono ?_⟩
      rintro r os ⟨p, o', rfl, rfl, h', hd⟩
      simp only [WPx, cond_true, cond_false, List.getElem?_cons_succ, List.getElem?_cons_zero, List.set_cons_succ, List.set_cons_zero, List.map_cons, List.map_nil, Option.getD_some, List.nodup_nil, true_and, and_true]
      exact ⟨p, o', rfl, rfl, h', hd.mono (by omega) (by omega)⟩
    · trivial
  rintro _ rfl
  simp only [WPx, cond_true, cond_false, List.getElem?_cons_succ, List.getElem?_cons_zero, List.set_cons_succ, List.set_cons_zero, List.map_cons, List.map_nil, Option.getD_some, List.nodup_nil, true_and, and_true, getB_dr h]
  refine ⟨by decide, (draw_ok h 4 (by omega)).mono ?_⟩
  rintro r os ⟨v, o', rfl, rfl, h', hv1, hv2⟩
  have hv2 := hv2 (by omega)
  obtain ⟨n, hn⟩ := Int.eq_ofNat_of_zero_le (show 0 ≤ 1 + v by omega)
  simp only [WPx, cond_true, cond_false, List.getElem?_cons_succ, List.getElem?_cons_zero, List.set_cons_succ, List.set_cons_zero, List.map_cons, List.map_nil, Option.getD_some, List.nodup_nil, true_and, and_true, hn]
  refine ⟨by decide, (tree_ok ts cols n h' ht hc (by omega)).mono ?_⟩
  rintro r os ⟨p, o', rfl, rfl, h', hd⟩
  simp only [WPx, cond_true, cond_false, List.getElem?_cons_succ, List.getElem?_cons_zero, List.set_cons_succ, List.set_cons_zero, List.map_cons, List.map_nil, Option.getD_some, List.nodup_nil, true_and, and_true]
  exact ⟨p, o', rfl, rfl, h', hd.mono (by omega) (by omega)⟩
end Ev
-- PD
set_option Elab.async false
set_option linter.all false
set_option maxRecDepth 100000
set_option maxHeartbeats 4000000
namespace Ev
open PySem L2 PySem.W PyProof.Rows
/-! ## dicts -/
section
variable {α β : Type} [DecidableEq α] {enc : α → D} {encv : β → D}
def encK (enc : α → D) (encv : β → D) (l : List (α × β)) : List (D × D) := l.map fun p => (enc p.1, encv p.2)
def dget (l : List (α × β)) (a : α) : Option β := (l.find? fun p => decide (p.1 = a)).map (·.2)
def dset (l : List (α × β)) (a : α) (b : β) : List (α × β) := if a ∈ l.map (·.1) then l.map fun p => if p.1 = a then (p.1, b) else p else l ++ [(a, b)]
theorem dfind_enc (hi : ∀ a b, enc a = enc b → a = b) (l : List (α × β)) (a : α) : dfind (encK enc encv l) (enc a) = (dget l a).map encv := by
  unfold dfind dget encK
  rw [List.find?_map]
  have e : ((fun p : D × D => decide (p.1 = enc a)) ∘ fun p : α × β => (enc p.1, encv p.2)) = fun p => decide (p.1 = a) := by
    funext p
    show decide (enc p.1 = enc a) = _
    rw [decide_eq_decide]
    exact ⟨hi _ _, fun h => by rw [h]⟩
  rw [e, Option.map_map, Option.map_map]
  rfl
theorem dget_some (l : List (α × β)) (a : α) : (dget l a).isSome = decide (a ∈ l.map (·.1)) := by
  unfold dget
  rw [Bool.eq_iff_iff, Option.isSome_map, List.find?_isSome, decide_eq_true_eq, List.mem_map]
  simp
theorem dget_nd {l : List (α × β)} (h : (l.map (·.1)).Nodup) {a : α} {b : β} (hm : (a, b) ∈ l) : dget l a = some b := by
  unfold dget
  induction l with
  | nil => cases hm
  | cons p l ih =>
    rw [List.map_cons, List.nodup_cons] at h
    rw [List.find?_cons]
    rcases List.mem_cons.1 hm with e | hm
    · subst e; simp
    · have : p.1 ≠ a := fun e => h.1 (by rw [e]; exact List.mem_map.2 ⟨_, hm, rfl⟩)
      simp only [this, decide_false]
      exact ih h.2 hm
theorem dput_enc (hi : ∀ a b, enc a = enc b → a = b) (l : List (α × β)) (a : α) (b : β) : dput (encK enc encv l) (enc a) (encv b) = encK enc encv (dset l a b) := by
  unfold dput dset encK
  have e : (l.map fun p => (enc p.1, encv p.2)).any (fun p => decide (p.1 = enc a)) = decide (a ∈ l.map (·.1)) := by
    rw [List.any_map, Bool.eq_iff_iff, List.any_eq_true, decide_eq_true_eq, List.mem_map]
    constructor
    · rintro ⟨p, hp, h⟩
      have h : decide (enc p.1 = enc a) = true := h
      rw [decide_eq_true_eq] at h
      exact ⟨p, hp, hi _ _ h⟩
    · rintro ⟨p, hp, h⟩
      refine ⟨p, hp, ?_⟩
      show decide (enc p.1 = enc a) = true
      rw [h, decide_eq_true_eq]
  rw [e]
  by_cases h : a ∈ l.map (·.1)
  · rw [if_pos (decide_eq_true h), if_pos h, List.map_map, List.map_map]
    refine List.map_congr_left fun p _ => ?_
    show (if enc p.1 = enc a then (enc p.1, encv b) else (enc p.1, encv p.2)) = _
    by_cases e : p.1 = a
    · rw [if_pos (by rw [e])]
      show _ = (fun p : α × β => (enc p.1, encv p.2)) (if p.1 = a then (p.1, b) else p)
      rw [if_pos e]
    · rw [if_neg fun z => e (hi _ _ z)]
      show _ = (fun p : α × β => (enc p.1, encv p.2)) (if p.1 = a then (p.1, b) else p)
      rw [if_neg e]
  · rw [if_neg (by simpa using h), if_neg h, List.map_append]; rfl
theorem dset_keys (l : List (α × β)) (a : α) (b : β) : (dset l a b).map (·.1) = if a ∈ l.map (·.1) then l.map (·.1) else l.map (·.1) ++ [a] := by
  unfold dset
  split
  · rw [List.map_map]
    refine List.map_congr_left fun p _ => ?_
    show (if p.1 = a then (p.1, b) else p).1 = p.1
    split <;> rfl
  · rw [List.map_append]; rfl
theorem dget_set_self (l : List (α × β)) (a : α) (b : β) : dget (dset l a b) a = some b := by
  unfold dset
  split
  · rename_i h
    unfold dget
    rw [List.find?_map]
    have e : ((fun p : α × β => decide (p.1 = a)) ∘ fun p => if p.1 = a then (p.1, b) else p) = fun p => decide (p.1 = a) := by
      funext p
      show decide ((if p.1 = a then (p.1, b) else p).1 = a) = _
      split <;> rfl
    rw [e]
    cases hf : l.find? fun p => decide (p.1 = a) with
    | none =>
      rw [List.find?_eq_none] at hf
      obtain ⟨p, hp, h⟩ := List.mem_map.1 h
      exact absurd h (by simpa using hf p hp)
    | some p =>
      have h := List.find?_some hf
      have h : p.1 = a := by simpa using h
      simp [h]
  · rename_i h
    unfold dget
    rw [List.find?_append]
    have : l.find? (fun p => decide (p.1 = a)) = none := by
      rw [List.find?_eq_none]
      intro p hp e
      exact h (List.mem_map.2 ⟨p, hp, by simpa using e⟩)
    rw [this]
    simp
theorem dget_set_ne (l : List (α × β)) {a c : α} (b : β) (hc : c ≠ a) : dget (dset l a b) c = dget l c := by
  unfold dset
  split
  · unfold dget
    induction l with
    | nil => rfl
    | cons p l ih =>
      rw [List.map_cons, List.find?_cons, List.find?_cons]
      have e : (if p.1 = a then (p.1, b) else p).1 = p.1 := by split <;> rfl
      by_cases hp : p.1 = c
      · have : p.1 ≠ a := fun z => hc (hp ▸ z)
        simp [hp, hc]
      · rw [e]
        simp only [hp, decide_false]
        by_cases hm : a ∈ l.map (·.1)
        · exact ih hm
        · have em : (l.map fun p => if p.1 = a then (p.1, b) else p) = l := by
            conv => rhs; rw [← List.map_id l]
            refine List.map_congr_left fun q hq => ?_
            show (if q.1 = a then (q.1, b) else q) = q
            rw [if_neg fun z => hm (List.mem_map.2 ⟨q, hq, z⟩)]
          rw [em]
  · unfold dget
    rw [List.find?_append]
    cases hf : l.find? fun p => decide (p.1 = c) with
    | none => simp [hc.symm]
    | some p => simp
end
/-- keys of a flat dict -/
structure KF {α : Type} (enc : α → D) : Prop where
  ok : ∀ a, keyOk false (enc a) = true
  inj : ∀ a b, enc a = enc b → a = b
structure KT {α : Type} (enc : α → D) : Prop where
  ok : ∀ a, keyOk true (enc a) = true
  inj : ∀ a b, enc a = enc b → a = b
theorem kf_int : KF D.int := ⟨fun _ => rfl, fun _ _ h => D.int.inj h⟩
theorem kf_nm : KF encN := ⟨fun _ => rfl, fun _ _ h => Nm.ext' (D.str.inj h)⟩
section
variable {α β : Type} [DecidableEq α] {enc : α → D} {encv : β → D}
theorem KF.in_ (k : KF enc) (l : List (α × β)) (a : α) : inO (enc a) (.dct false (encK enc encv l)) = some (.fz (.bl (decide (a ∈ l.map (·.1))))) := by
  have e : inD (enc a) (.dct false (encK enc encv l)) = if keyOk false (enc a) = true then some (dfind (encK enc encv l) (enc a)).isSome else none := by
    cases enc a <;> rfl
  unfold inO
  rw [e, if_pos (k.ok a), dfind_enc k.inj, Option.isSome_map, dget_some]; rfl
theorem KF.nin_ (k : KF enc) (l : List (α × β)) (a : α) : ninO (enc a) (.dct false (encK enc encv l)) = some (.fz (.bl (!decide (a ∈ l.map (·.1))))) := by
  have e : inD (enc a) (.dct false (encK enc encv l)) = if keyOk false (enc a) = true then some (dfind (encK enc encv l) (enc a)).isSome else none := by
    cases enc a <;> rfl
  unfold ninO
  rw [e, if_pos (k.ok a), dfind_enc k.inj, Option.isSome_map, dget_some]; rfl
theorem KF.put (k : KF enc) (l : List (α × β)) (a : α) (b : β) (h : l.length ≤ 1000000) : putD (.dct false (encK enc encv l)) (enc a) (encv b) = some (.dct false (encK enc encv (dset l a b))) := by
  have e : putD (.dct false (encK enc encv l)) (enc a) (encv b) = if keyOk false (enc a) = true ∧ (encK enc encv l).length < sizeLine then some (.dct false (dput (encK enc encv l) (enc a) (encv b))) else none := by
    cases enc a <;> rfl
  rw [e, if_pos ⟨k.ok a, by unfold encK; rw [List.length_map]; exact lt_sl h⟩, dput_enc k.inj]
theorem KF.get (k : KF enc) (l : List (α × β)) (a : α) : idxD (.dct false (encK enc encv l)) (enc a) = ((dget l a).map encv).map .fz := by
  have e : idxD (.dct false (encK enc encv l)) (enc a) = if keyOk false (enc a) = true then (dfind (encK enc encv l) (enc a)).map .fz else none := by
    cases enc a <;> rfl
  rw [e, if_pos (k.ok a), dfind_enc k.inj]
theorem KT.in_ (k : KT enc) (l : List (α × β)) (a : α) : inO (enc a) (.dct true (encK enc encv l)) = some (.fz (.bl (decide (a ∈ l.map (·.1))))) := by
  have e : inD (enc a) (.dct true (encK enc encv l)) = if keyOk true (enc a) = true then some (dfind (encK enc encv l) (enc a)).isSome else none := by
    cases enc a <;> rfl
  unfold inO
  rw [e, if_pos (k.ok a), dfind_enc k.inj, Option.isSome_map, dget_some]; rfl
theorem KT.nin_ (k : KT enc) (l : List (α × β)) (a : α) : ninO (enc a) (.dct true (encK enc encv l)) = some (.fz (.bl (!decide (a ∈ l.map (·.1))))) := by
  have e : inD (enc a) (.dct true (encK enc encv l)) = if keyOk true (enc a) = true then some (dfind (encK enc encv l) (enc a)).isSome else none := by
    cases enc a <;> rfl
  unfold ninO
  rw [e, if_pos (k.ok a), dfind_enc k.inj, Option.isSome_map, dget_some]; rfl
theorem KT.put (k : KT enc) (l : List (α × β)) (a : α) (b : β) (h : l.length ≤ 1000000) : putD (.dct true (encK enc encv l)) (enc a) (encv b) = some (.dct true (encK enc encv (dset l a b))) := by
  have e : putD (.dct true (encK enc encv l)) (enc a) (encv b) = if keyOk true (enc a) = true ∧ (encK enc encv l).length < sizeLine then some (.dct true (dput (encK enc encv l) (enc a) (encv b))) else none := by
    cases enc a <;> rfl
  rw [e, if_pos ⟨k.ok a, by unfold encK; rw [List.length_map]; exact lt_sl h⟩, dput_enc k.inj]
theorem KT.get (k : KT enc) (l : List (α × β)) (a : α) : idxD (.dct true (encK enc encv l)) (enc a) = ((dget l a).map encv).map .fz := by
  have e : idxD (.dct true (encK enc encv l)) (enc a) = if keyOk true (enc a) = true then (dfind (encK enc encv l) (enc a)).map .fz else none := by
    cases enc a <;> rfl
  rw [e, if_pos (k.ok a), dfind_enc k.inj]
end
/-! ## words, numbers -/
theorem wcs_in : ∀ c ∈ wcs, ninO (.str ⟨#[c]⟩) (.str "ABCDEFGHIJKLMNOPQRSTUVWXYZabcdefghijklmnopqrstuvwxyz0123456789_") = some (.fz (.bl false)) := by
  have k : ∀ c ∈ wcs, (Builtin.Str.occurrences "ABCDEFGHIJKLMNOPQRSTUVWXYZabcdefghijklmnopqrstuvwxyz0123456789_" ⟨#[c]⟩ 0 ("ABCDEFGHIJKLMNOPQRSTUVWXYZabcdefghijklmnopqrstuvwxyz0123456789_" : Str).length 1).isEmpty = false := by decide +kernel
  intro c hc
  show some (O.fz (.bl (!(!(Builtin.Str.occurrences _ ⟨#[c]⟩ 0 ("ABCDEFGHIJKLMNOPQRSTUVWXYZabcdefghijklmnopqrstuvwxyz0123456789_" : Str).length 1).isEmpty)))) = _
  rw [k c hc]; rfl
theorem is_word_ok (a : Nm) : wpF f_is_word [.fz (encN a)] fun r os => r = .fz (.bl true) ∧ os = [.no] := by
  refine wp_fun [.fz (encN a), .no] ?_
  unfold b_is_word
  have h1 := a.len1
  have h2 := a.len2
  have el : lenD [encN a] = some (.fz (.int a.s.length)) := lenD_str _ (fits_le (by omega))
  refine wp_cut (fun s => s = [.fz (encN a), .no]) ?_ ?_
  · simp only [WPx, cond_true, cond_false, List.getElem?_cons_succ, List.getElem?_cons_zero, List.set_cons_succ, List.set_cons_zero, List.map_cons, List.map_nil, Option.getD_some, List.nodup_nil, true_and, and_true, el]
    rw [decide_eq_true (show (1 : Int) ≤ a.s.length by omega)]
    simp only [WPx, cond_true, cond_false, List.getElem?_cons_succ, List.getElem?_cons_zero, List.set_cons_succ, List.set_cons_zero, List.map_cons, List.map_nil, Option.getD_some, List.nodup_nil, true_and, and_true]
    rw [decide_eq_true (show (a.s.length : Int) ≤ 20 by omega)]
    simp only [WPx, cond_true, cond_false, List.getElem?_cons_succ, List.getElem?_cons_zero, List.set_cons_succ, List.set_cons_zero, List.map_cons, List.map_nil, Option.getD_some, List.nodup_nil, true_and, and_true, Bool.not_true]
  rintro _ rfl
  refine wp_cut (fun s => s = [.fz (encN a), .no]) ?_ ?_
  · refine wp_for (a.s.cps.toList.map fun c => D.str ⟨#[c]⟩) [.fz (encN a), .no] (by unfold encN; simp only [WPx, cond_true, cond_false, List.getElem?_cons_succ, List.getElem?_cons_zero, List.set_cons_succ, List.set_cons_zero, List.map_cons, List.map_nil, Option.getD_some, List.nodup_nil, true_and, and_true]; rfl) (fun i s => s = [.fz (encN a), .no]) rfl ?_ ?_
    · rintro j d s hj rfl
      obtain ⟨c, hc, rfl⟩ := map_get hj
      simp only [WPx, cond_true, cond_false, List.getElem?_cons_succ, List.getElem?_cons_zero, List.set_cons_succ, List.set_cons_zero, List.map_cons, List.map_nil, Option.getD_some, List.nodup_nil, true_and, and_true, wcs_in c (a.cs c (List.mem_of_getElem? hc))]
    · rintro s rfl
      simp only [WPx, cond_true, cond_false, List.getElem?_cons_succ, List.getElem?_cons_zero, List.set_cons_succ, List.set_cons_zero, List.map_cons, List.map_nil, Option.getD_some, List.nodup_nil, true_and, and_true]
  rintro _ rfl
  simp only [WPx, cond_true, cond_false, List.getElem?_cons_succ, List.getElem?_cons_zero, List.set_cons_succ, List.set_cons_zero, List.map_cons, List.map_nil, Option.getD_some, List.nodup_nil, true_and, and_true]
  rfl
theorem is_integer_ok (v a b : Int) : wpF f_is_integer [.fz (.int v), .fz (.int a), .fz (.int b)] fun r os => r = .fz (.bl (decide (a ≤ v ∧ v ≤ b))) ∧ os = [.no, .no, .no] := by
  refine wp_fun [.fz (.int v), .fz (.int a), .fz (.int b)] ?_
  unfold b_is_integer
  simp only [WPx, cond_true, cond_false, List.getElem?_cons_succ, List.getElem?_cons_zero, List.set_cons_succ, List.set_cons_zero, List.map_cons, List.map_nil, Option.getD_some, List.nodup_nil, true_and, and_true, (isi_i _).1, (isi_i _).2.1, oB_eq, Bool.not_false]
  by_cases h1 : a ≤ v
  · rw [decide_eq_true h1]
    by_cases h2 : v ≤ b
    · simp only [WPx, cond_true, cond_false, List.getElem?_cons_succ, List.getElem?_cons_zero, List.set_cons_succ, List.set_cons_zero, List.map_cons, List.map_nil, Option.getD_some, List.nodup_nil, true_and, and_true, h1, h2]
      simp [List.replicate]
    · simp only [WPx, cond_true, cond_false, List.getElem?_cons_succ, List.getElem?_cons_zero, List.set_cons_succ, List.set_cons_zero, List.map_cons, List.map_nil, Option.getD_some, List.nodup_nil, true_and, and_true, h1, h2]
      simp [List.replicate]
  · rw [decide_eq_false h1]
    simp only [WPx, cond_true, cond_false, List.getElem?_cons_succ, List.getElem?_cons_zero, List.set_cons_succ, List.set_cons_zero, List.map_cons, List.map_nil, Option.getD_some, List.nodup_nil, true_and, and_true, h1]
    simp [List.replicate]
theorem is_natural_ok (v : Int) : wpF f_is_natural [.fz (.int v)] fun r os => r = .fz (.bl (decide (0 ≤ v))) ∧ os = [.no] := by
  refine wp_fun [.fz (.int v)] ?_
  unfold b_is_natural
  simp only [WPx, cond_true, cond_false, List.getElem?_cons_succ, List.getElem?_cons_zero, List.set_cons_succ, List.set_cons_zero, List.map_cons, List.map_nil, Option.getD_some, List.nodup_nil, true_and, and_true, (isi_i _).1, (isi_i _).2.1, oB_eq, Bool.not_false]
  simp [List.replicate]
end Ev
-- PF
set_option Elab.async false
set_option linter.all false
set_option maxRecDepth 100000
set_option maxHeartbeats 4000000
namespace Ev
open PySem L2 PySem.W PyProof.Rows
/-! ## schemas -/
def natD (n : Nat) : D := .int (n : Int)
def sfs (ts : List Tb) (m : List Nm) : List (String × D) := [("names", .tup (m.map encN)), ("widths", .dct false (encK encN natD ts))]
def encS (ts : List Tb) (m : List Nm) : D := .ins "Schema" (sfs ts m)
structure Sch (ts : List Tb) (m : List Nm) : Prop where
  srt : SSrt ltN m
  mem : ∀ a, a ∈ m ↔ a ∈ ts.map (·.1)
  nd : (ts.map (·.1)).Nodup
  w : ∀ t ∈ ts, 1 ≤ t.2 ∧ t.2 ≤ 4
  len : ts.length ≤ 8
theorem schema_ok (ts : List Tb) (hl : ts.length ≤ 8) (hn : (ts.map (·.1)).Nodup) (hw : ∀ t ∈ ts, 1 ≤ t.2 ∧ t.2 ≤ 4) :
    wpF f_Schema_init [.ins "Schema" [], .fz (.lst (ts.map encT))] fun r os => r = .fz .non ∧ ∃ m : List Nm, os = [.ins "Schema" (sfs ts m), .no] ∧ Sch ts m := by
  refine wp_fun [.ins "Schema" [], .fz (.lst (ts.map encT)), .no, .no, .no] ?_
  unfold b_Schema_init
  refine wp_cut (fun s => s = [.ins "Schema" [], .fz (.lst (ts.map encT)), .no, .no, .no]) ?_ ?_
  · simp only [WPx, cond_true, cond_false, List.getElem?_cons_succ, List.getElem?_cons_zero, List.set_cons_succ, List.set_cons_zero, List.map_cons, List.map_nil, Option.getD_some, List.nodup_nil, true_and, and_true, List.length_map]
    rw [decide_eq_false (by omega)]
    simp only [WPx, cond_true, cond_false, List.getElem?_cons_succ, List.getElem?_cons_zero, List.set_cons_succ, List.set_cons_zero, List.map_cons, List.map_nil, Option.getD_some, List.nodup_nil, true_and, and_true]
  rintro _ rfl
  refine wp_cut (fun s => s = [.ins "Schema" [], .fz (.lst (ts.map encT)), .dct false (encK encN natD ([] : List Tb)), .no, .no]) ?_ ?_
  · simp only [WPx, cond_true, cond_false, List.getElem?_cons_succ, List.getElem?_cons_zero, List.set_cons_succ, List.set_cons_zero, List.map_cons, List.map_nil, Option.getD_some, List.nodup_nil, true_and, and_true]
    rfl
  rintro _ rfl
  refine wp_cut (fun s => s = [.ins "Schema" [], .fz (.lst (ts.map encT)), .dct false (encK encN natD ts), .no, .no]) ?_ ?_
  · refine wp_for (ts.map encT) [.ins "Schema" [], .fz (.lst (ts.map encT)), .dct false (encK encN natD ([] : List Tb)), .no, .no] (by simp only [WPx, cond_true, cond_false, List.getElem?_cons_succ, List.getElem?_cons_zero, List.set_cons_succ, List.set_cons_zero, List.map_cons, List.map_nil, Option.getD_some, List.nodup_nil, true_and, and_true]) (fun i s => s = [.ins "Schema" [], .fz (.lst (ts.map encT)), .dct false (encK encN natD (ts.take i)), .no, .no]) (by simp [eraseS]) ?_ ?_
    · rintro i d s hd rfl
      obtain ⟨t, ht, rfl⟩ := map_get hd
      have htm := List.mem_of_getElem? ht
      have hil : i < ts.length := (List.getElem?_eq_some_iff.mp ht).1
      have htn : t.1 ∉ (ts.take i).map (·.1) := by
        have e : ts.map (·.1) = (ts.take i).map (·.1) ++ t.1 :: (ts.drop (i + 1)).map (·.1) := by
          rw [← List.map_cons, ← List.map_append]
          have : t = ts[i] := (List.getElem?_eq_some_iff.mp ht).2.symm
          rw [this, ← List.drop_eq_getElem_cons hil, List.take_append_drop]
        rw [e, List.nodup_append] at hn
        exact fun h => hn.2.2 _ h _ (by simp) rfl
      have eset : dset (ts.take i) t.1 t.2 = ts.take (i + 1) := by
        unfold dset
        rw [if_neg htn, List.take_add_one, ht]; rfl
      have et : encT t = .tup [encN t.1, natD t.2] := rfl
      rw [et]
      simp only [tupT2, consT_eq, nameT_eq, nilT_eq, bind_some', oP_some, List.set_cons_succ, List.set_cons_zero]
      refine wp_cut (fun s => s = [.ins "Schema" [], .fz (.lst (ts.map encT)), .dct false (encK encN natD (ts.take i)), .fz (encN t.1), .fz (natD t.2)]) ?_ ?_
      · simp only [WPx, cond_true, cond_false, List.getElem?_cons_succ, List.getElem?_cons_zero, List.set_cons_succ, List.set_cons_zero, List.map_cons, List.map_nil, Option.getD_some, List.nodup_nil, true_and, and_true]
        refine (is_word_ok t.1).mono ?_
        rintro r os ⟨rfl, rfl⟩
        simp only [WPx, cond_true, cond_false, List.getElem?_cons_succ, List.getElem?_cons_zero, List.set_cons_succ, List.set_cons_zero, List.map_cons, List.map_nil, Option.getD_some, List.nodup_nil, true_and, and_true, truD_bl, Bool.not_true]
      rintro _ rfl
      refine wp_cut (fun s => s = [.ins "Schema" [], .fz (.lst (ts.map encT)), .dct false (encK encN natD (ts.take i)), .fz (encN t.1), .fz (natD t.2)]) ?_ ?_
      · simp only [WPx, cond_true, cond_false, List.getElem?_cons_succ, List.getElem?_cons_zero, List.set_cons_succ, List.set_cons_zero, List.map_cons, List.map_nil, Option.getD_some, List.nodup_nil, true_and, and_true]
        refine (is_integer_ok t.2 1 4).mono ?_
        rintro r os ⟨rfl, rfl⟩
        have := hw t htm
        rw [decide_eq_true (show (1 : Int) ≤ t.2 ∧ (t.2 : Int) ≤ 4 by omega)]
        simp only [WPx, cond_true, cond_false, List.getElem?_cons_succ, List.getElem?_cons_zero, List.set_cons_succ, List.set_cons_zero, List.map_cons, List.map_nil, Option.getD_some, List.nodup_nil, true_and, and_true, truD_bl, Bool.not_true]
      rintro _ rfl
      refine wp_cut (fun s => s = [.ins "Schema" [], .fz (.lst (ts.map encT)), .dct false (encK encN natD (ts.take i)), .fz (encN t.1), .fz (natD t.2)]) ?_ ?_
      · simp only [WPx, cond_true, cond_false, List.getElem?_cons_succ, List.getElem?_cons_zero, List.set_cons_succ, List.set_cons_zero, List.map_cons, List.map_nil, Option.getD_some, List.nodup_nil, true_and, and_true, kf_nm.in_]
        rw [decide_eq_false htn]
        simp only [WPx, cond_true, cond_false, List.getElem?_cons_succ, List.getElem?_cons_zero, List.set_cons_succ, List.set_cons_zero, List.map_cons, List.map_nil, Option.getD_some, List.nodup_nil, true_and, and_true]
      rintro _ rfl
      simp only [WPx, cond_true, cond_false, List.getElem?_cons_succ, List.getElem?_cons_zero, List.set_cons_succ, List.set_cons_zero, List.map_cons, List.map_nil, Option.getD_some, List.nodup_nil, true_and, and_true, kf_nm.put (ts.take i) t.1 t.2 (by simp; omega), eset]
    · rintro s rfl
      rw [List.length_map, List.take_length]
      simp only [WPx, cond_true, cond_false, List.getElem?_cons_succ, List.getElem?_cons_zero, List.set_cons_succ, List.set_cons_zero, List.map_cons, List.map_nil, Option.getD_some, List.nodup_nil, true_and, and_true]
  rintro _ rfl
  have el : (encK encN natD ts).map (·.1) = (ts.map (·.1)).map encN := by unfold encK; rw [List.map_map, List.map_map]; rfl
  refine wp_cut (fun s => ∃ m : List Nm, s = [.ins "Schema" [("names", .tup (m.map encN))], .fz (.lst (ts.map encT)), .dct false (encK encN natD ts), .no, .no] ∧ SSrt ltN m ∧ ∀ a, a ∈ m ↔ a ∈ ts.map (·.1)) ?_ ?_
  · simp only [WPx, cond_true, cond_false, List.getElem?_cons_succ, List.getElem?_cons_zero, List.set_cons_succ, List.set_cons_zero, List.map_cons, List.map_nil, Option.getD_some, List.nodup_nil, true_and, and_true, el]
    refine (ascending_ok to_names (ts.map (·.1)) (by rw [List.length_map]; omega) _ (iterD_lst _)).mono ?_
    rintro r os ⟨m, rfl, rfl, h1, h2⟩
    simp only [WPx, cond_true, cond_false, List.getElem?_cons_succ, List.getElem?_cons_zero, List.set_cons_succ, List.set_cons_zero, List.map_cons, List.map_nil, Option.getD_some, List.nodup_nil, true_and, and_true]
    exact ⟨rfl, by decide, m, rfl, h1, h2⟩
  rintro _ ⟨m, rfl, h1, h2⟩
  simp only [WPx, cond_true, cond_false, List.getElem?_cons_succ, List.getElem?_cons_zero, List.set_cons_succ, List.set_cons_zero, List.map_cons, List.map_nil, Option.getD_some, List.nodup_nil, true_and, and_true]
  refine ⟨rfl, by simp, ?_⟩
  exact ⟨m, rfl, h1, h2, hn, hw, hl⟩
theorem fld_names (ts : List Tb) (m : List Nm) : fldD "names" (encS ts m) = some (.fz (.tup (m.map encN))) := rfl
theorem fld_widths (ts : List Tb) (m : List Nm) : fldD "widths" (encS ts m) = some (.fz (.dct false (encK encN natD ts))) := rfl
theorem isIns_S (ts : List Tb) (m : List Nm) : isIns "Schema" (some (encS ts m)) = true := rfl
theorem contains_ok {ts : List Tb} {m : List Nm} (h : Sch ts m) (a : Nm) : wpF f_Schema_contains [.fz (encS ts m), .fz (encN a)] fun r os => r = .fz (.bl (decide (a ∈ ts.map (·.1)))) ∧ os = [.no, .no] := by
  refine wp_fun [.fz (encS ts m), .fz (encN a)] ?_
  unfold b_Schema_contains
  simp only [WPx, cond_true, cond_false, List.getElem?_cons_succ, List.getElem?_cons_zero, List.set_cons_succ, List.set_cons_zero, List.map_cons, List.map_nil, Option.getD_some, List.nodup_nil, true_and, and_true, fld_names, eq_nm.in_t]
  have e : decide (a ∈ m) = decide (a ∈ ts.map (·.1)) := decide_eq_decide.mpr (h.mem a)
  rw [e]
  exact ⟨rfl, rfl⟩
theorem getitem_ok {ts : List Tb} {m : List Nm} (h : Sch ts m) (t : Tb) (ht : t ∈ ts) : wpF f_Schema_getitem [.fz (encS ts m), .fz (encN t.1)] fun r os => r = .fz (natD t.2) ∧ os = [.no, .no] := by
  refine wp_fun [.fz (encS ts m), .fz (encN t.1)] ?_
  unfold b_Schema_getitem
  refine wp_cut (fun s => s = [.fz (encS ts m), .fz (encN t.1)]) ?_ ?_
  · simp only [WPx, cond_true, cond_false, List.getElem?_cons_succ, List.getElem?_cons_zero, List.set_cons_succ, List.set_cons_zero, List.map_cons, List.map_nil, Option.getD_some, List.nodup_nil, true_and, and_true, fld_names, eq_nm.nin_t]
    rw [decide_eq_true ((h.mem _).2 (List.mem_map.2 ⟨t, ht, rfl⟩))]
    simp only [WPx, cond_true, cond_false, List.getElem?_cons_succ, List.getElem?_cons_zero, List.set_cons_succ, List.set_cons_zero, List.map_cons, List.map_nil, Option.getD_some, List.nodup_nil, true_and, and_true, Bool.not_true]
  rintro _ rfl
  simp only [WPx, cond_true, cond_false, List.getElem?_cons_succ, List.getElem?_cons_zero, List.set_cons_succ, List.set_cons_zero, List.map_cons, List.map_nil, Option.getD_some, List.nodup_nil, true_and, and_true, fld_widths, kf_nm.get, dget_nd h.nd ht]
  exact rfl
theorem lenRw (r : Rw) : lenD [encRw r] = some (.fz (.int ((r.2.length + 1 : Nat) : Int))) := by
  unfold encRw
  rw [lenD_tup, List.length_cons, encI_len]
theorem check_row_ok {ts : List Tb} {m : List Nm} (h : Sch ts m) (r : Rw) (t : Tb) (ht : t ∈ ts) (h1 : r.1 = t.1) (h2 : r.2.length = t.2) (h3 : ∀ v ∈ r.2, 0 ≤ v) : wpF f_check_row [.fz (encS ts m), .fz (encRw r)] fun r os => r = .fz .non ∧ os = [.no, .no] := by
  refine wp_fun [.fz (encS ts m), .fz (encRw r), .no] ?_
  unfold b_check_row
  refine wp_cut (fun s => s = [.fz (encS ts m), .fz (encRw r), .no]) ?_ ?_
  · rw [wp_ifS, wp_tstB]
    refine wp_inOwnS _ _ _ _ _ _ _ ?_
    simp only [WPx, cond_true, cond_false, List.getElem?_cons_succ, List.getElem?_cons_zero, List.set_cons_succ, List.set_cons_zero, List.map_cons, List.map_nil, Option.getD_some, List.nodup_nil, true_and, and_true, idx_row0]
    refine ⟨isIns_S ts m, ?_⟩
    rw [h1]
    refine (contains_ok h t.1).mono ?_
    rintro r os ⟨rfl, rfl⟩
    rw [decide_eq_true (List.mem_map.2 ⟨t, ht, rfl⟩)]
    refine ⟨true, rfl, ?_⟩
    simp only [WPx, cond_true, cond_false, List.getElem?_cons_succ, List.getElem?_cons_zero, List.set_cons_succ, List.set_cons_zero, List.map_cons, List.map_nil, Option.getD_some, List.nodup_nil, true_and, and_true, if_true, Bool.not_true]
  rintro _ rfl
  refine wp_cut (fun s => s = [.fz (encS ts m), .fz (encRw r), .no]) ?_ ?_
  · simp only [WPx, cond_true, cond_false, List.getElem?_cons_succ, List.getElem?_cons_zero, List.set_cons_succ, List.set_cons_zero, List.map_cons, List.map_nil, Option.getD_some, List.nodup_nil, true_and, and_true, lenRw, idx_row0]
    refine ⟨isIns_S ts m, ?_⟩
    rw [h1]
    refine (getitem_ok h t ht).mono ?_
    rintro r os ⟨rfl, rfl⟩
    have e : neD (.int (((r.2.length + 1 : Nat) : Int) - 1)) (natD t.2) = some (.fz (.bl false)) := by
      unfold natD
      rw [neD_int, h2, decide_eq_true (by omega)]; rfl
    simp only [WPx, cond_true, cond_false, List.getElem?_cons_succ, List.getElem?_cons_zero, List.set_cons_succ, List.set_cons_zero, List.map_cons, List.map_nil, Option.getD_some, List.nodup_nil, true_and, and_true, e]
  rintro _ rfl
  refine wp_for (encI r.2) [.fz (encS ts m), .fz (encRw r), .no] (by simp only [WPx, cond_true, cond_false, List.getElem?_cons_succ, List.getElem?_cons_zero, List.set_cons_succ, List.set_cons_zero, List.map_cons, List.map_nil, Option.getD_some, List.nodup_nil, true_and, and_true, sl_row]) (fun i s => s = [.fz (encS ts m), .fz (encRw r), .no]) rfl ?_ ?_
  · rintro j d s hj rfl
    obtain ⟨v, hv, rfl⟩ := map_get hj
    simp only [WPx, cond_true, cond_false, List.getElem?_cons_succ, List.getElem?_cons_zero, List.set_cons_succ, List.set_cons_zero, List.map_cons, List.map_nil, Option.getD_some, List.nodup_nil, true_and, and_true]
    refine (is_natural_ok v).mono ?_
    rintro r os ⟨rfl, rfl⟩
    rw [decide_eq_true (h3 v (List.mem_of_getElem? hv))]
    simp only [WPx, cond_true, cond_false, List.getElem?_cons_succ, List.getElem?_cons_zero, List.set_cons_succ, List.set_cons_zero, List.map_cons, List.map_nil, Option.getD_some, List.nodup_nil, true_and, and_true, truD_bl, Bool.not_true]
  · rintro s rfl
    simp only [WPx, cond_true, cond_false, List.getElem?_cons_succ, List.getElem?_cons_zero, List.set_cons_succ, List.set_cons_zero, List.map_cons, List.map_nil, Option.getD_some, List.nodup_nil, true_and, and_true]
    exact rfl
end Ev
-- PG
set_option Elab.async false
set_option linter.all false
set_option maxRecDepth 100000
set_option maxHeartbeats 4000000
namespace Ev
open PySem L2 PySem.W PyProof.Rows
/-! ## patterns -/
def pfs (S : D) (rows : List Rw) (hd : List Int) (size : Nat) : List (String × D) := [("schema", S), ("rows", .tup (rows.map encRw)), ("head", .tup (encI hd)), ("size", .int size)]
theorem rgI_nd (n : Nat) : (rgI n).Nodup := by
  unfold rgI
  rw [List.nodup_iff_pairwise_ne, List.pairwise_map]
  exact (List.nodup_iff_pairwise_ne.mp List.nodup_range).imp fun h e => h (by omega)
theorem len_of_rg {l : List Int} {n : Nat} (h : l.Nodup) (k : ∀ v, v ∈ l ↔ 0 ≤ v ∧ v < (n : Int)) : l.length = n := by
  have a := nd_len l (rgI n) h fun v hv => mem_rgI.2 ((k v).1 hv)
  have b := nd_len (rgI n) l (rgI_nd n) fun v hv => (k v).2 (mem_rgI.1 hv)
  rw [rgI_len] at a b
  omega
/-- the keys of a set: a dict with True behind each key -/
structure Ks (l : List (Int × Bool)) (seen : List Int) : Prop where
  nd : (l.map (·.1)).Nodup
  mem : ∀ v, v ∈ l.map (·.1) ↔ v ∈ seen
theorem Ks.put {l : List (Int × Bool)} {seen : List Int} (k : Ks l seen) (v : Int) : Ks (dset l v true) (seen ++ [v]) := by
  constructor
  · rw [dset_keys]
    split
    · exact k.nd
    · rename_i h
      rw [List.nodup_append]
      exact ⟨k.nd, by simp, fun a ha b hb => by rw [List.mem_singleton.1 hb]; rintro rfl; exact h ha⟩
  · intro w
    rw [dset_keys, List.mem_append, List.mem_singleton, ← k.mem w]
    split
    · rename_i h
      constructor
      · exact .inl
      · rintro (h2 | rfl)
        · exact h2
        · exact h
    · rw [List.mem_append, List.mem_singleton]
theorem Ks.len {l : List (Int × Bool)} {seen : List Int} (k : Ks l seen) {n : Nat} (h : ∀ v ∈ seen, 0 ≤ v ∧ v < (n : Int)) : l.length ≤ n := by
  have := nd_len _ (rgI n) k.nd fun v hv => mem_rgI.2 (h v ((k.mem v).1 hv))
  rw [List.length_map, rgI_len] at this
  exact this
theorem mem_take_flat {l : List (List Int)} {i : Nat} {v : Int} (h : v ∈ (l.take i).flatten) : v ∈ l.flatten := (take_flat i l).subset h
theorem pattern_ok {ts : List Tb} {m : List Nm} (h : Sch ts m) (rows : List Rw) (hd : List Int) (size : Nat) (ms : List Rw) (dr dh : D)
    (hdr : iterD dr = some (rows.map encRw)) (hdh : iterD dh = some (encI hd) ∧ tupleD [dh] = some (.fz (.tup (encI hd))) ∧ lenD [dh] = some (.fz (.int hd.length)))
    (hr : ∀ r ∈ rows, ∃ t ∈ ts, r.1 = t.1 ∧ r.2.length = t.2) (hu : ∀ v, v ∈ usedV rows hd ↔ 0 ≤ v ∧ v < (size : Int)) (hh : hd.length ≤ 4) (hz : rows.length ≤ 100000) (hs : size ≤ 300)
    (hms : SSrt ltR ms) (hmm : ∀ r, r ∈ ms ↔ r ∈ rows) (hml : ms.length ≤ 600) :
    wpF f_Pattern_init [.ins "Pattern" [], .fz (encS ts m), .fz dr, .fz dh] fun r os => r = .fz .non ∧ os = [.ins "Pattern" (pfs (encS ts m) ms hd size), .no, .no, .no] := by
  obtain ⟨hd1, hd2, hd3⟩ := hdh
  refine wp_fun [.ins "Pattern" [], .fz (encS ts m), .fz dr, .fz dh, .no, .no, .no, .no] ?_
  unfold b_Pattern_init
  refine wp_cut (fun s => s = [.ins "Pattern" [], .fz (encS ts m), .fz dr, .fz dh, .no, .no, .no, .no]) ?_ ?_
  · refine wp_for (rows.map encRw) [.ins "Pattern" [], .fz (encS ts m), .fz dr, .fz dh, .no, .no, .no, .no] (by simp only [WPx, cond_true, cond_false, List.getElem?_cons_succ, List.getElem?_cons_zero, List.set_cons_succ, List.set_cons_zero, List.map_cons, List.map_nil, Option.getD_some, List.nodup_nil, true_and, and_true, hdr]) (fun i s => s = [.ins "Pattern" [], .fz (encS ts m), .fz dr, .fz dh, .no, .no, .no, .no]) rfl ?_ ?_
    · rintro j d s hj rfl
      obtain ⟨r, hrj, rfl⟩ := map_get hj
      have hrm := List.mem_of_getElem? hrj
      obtain ⟨t, ht, h1, h2⟩ := hr r hrm
      simp only [WPx, cond_true, cond_false, List.getElem?_cons_succ, List.getElem?_cons_zero, List.set_cons_succ, List.set_cons_zero, List.map_cons, List.map_nil, Option.getD_some, List.nodup_nil, true_and, and_true, view_fz]
      refine (check_row_ok h r t ht h1 h2 fun v hv => ((hu v).1 (mem_usedV.2 (.inr ⟨r, hrm, hv⟩))).1).mono ?_
      rintro r os ⟨rfl, rfl⟩
      simp only [WPx, cond_true, cond_false, List.getElem?_cons_succ, List.getElem?_cons_zero, List.set_cons_succ, List.set_cons_zero, List.map_cons, List.map_nil, Option.getD_some, List.nodup_nil, true_and, and_true]
    · rintro s rfl
      simp only [WPx, cond_true, cond_false, List.getElem?_cons_succ, List.getElem?_cons_zero, List.set_cons_succ, List.set_cons_zero, List.map_cons, List.map_nil, Option.getD_some, List.nodup_nil, true_and, and_true]
  rintro _ rfl
  refine wp_cut (fun s => s = [.ins "Pattern" [], .fz (encS ts m), .fz dr, .fz dh, .no, .no, .no, .no]) ?_ ?_
  · refine wp_for (encI hd) [.ins "Pattern" [], .fz (encS ts m), .fz dr, .fz dh, .no, .no, .no, .no] (by simp only [WPx, cond_true, cond_false, List.getElem?_cons_succ, List.getElem?_cons_zero, List.set_cons_succ, List.set_cons_zero, List.map_cons, List.map_nil, Option.getD_some, List.nodup_nil, true_and, and_true, hd1]) (fun i s => s = [.ins "Pattern" [], .fz (encS ts m), .fz dr, .fz dh, .no, .no, .no, .no]) rfl ?_ ?_
    · rintro j d s hj rfl
      obtain ⟨v, hv, rfl⟩ := map_get hj
      simp only [WPx, cond_true, cond_false, List.getElem?_cons_succ, List.getElem?_cons_zero, List.set_cons_succ, List.set_cons_zero, List.map_cons, List.map_nil, Option.getD_some, List.nodup_nil, true_and, and_true]
      refine (is_natural_ok v).mono ?_
      rintro r os ⟨rfl, rfl⟩
      rw [decide_eq_true ((hu v).1 (mem_usedV.2 (.inl (List.mem_of_getElem? hv)))).1]
      simp only [WPx, cond_true, cond_false, List.getElem?_cons_succ, List.getElem?_cons_zero, List.set_cons_succ, List.set_cons_zero, List.map_cons, List.map_nil, Option.getD_some, List.nodup_nil, true_and, and_true, truD_bl, Bool.not_true]
    · rintro s rfl
      simp only [WPx, cond_true, cond_false, List.getElem?_cons_succ, List.getElem?_cons_zero, List.set_cons_succ, List.set_cons_zero, List.map_cons, List.map_nil, Option.getD_some, List.nodup_nil, true_and, and_true]
  rintro _ rfl
  refine wp_cut (fun s => s = [.ins "Pattern" [], .fz (encS ts m), .fz dr, .fz dh, .no, .no, .no, .no]) ?_ ?_
  · simp only [WPx, cond_true, cond_false, List.getElem?_cons_succ, List.getElem?_cons_zero, List.set_cons_succ, List.set_cons_zero, List.map_cons, List.map_nil, Option.getD_some, List.nodup_nil, true_and, and_true, hd3]
    rw [decide_eq_false (by omega)]
    simp only [WPx, cond_true, cond_false, List.getElem?_cons_succ, List.getElem?_cons_zero, List.set_cons_succ, List.set_cons_zero, List.map_cons, List.map_nil, Option.getD_some, List.nodup_nil, true_and, and_true]
  rintro _ rfl
  refine wp_cut (fun s => s = [.ins "Pattern" [], .fz (encS ts m), .fz dr, .fz dh, .no, .no, .lst (ms.map encRw), .no]) ?_ ?_
  · simp only [WPx, cond_true, cond_false, List.getElem?_cons_succ, List.getElem?_cons_zero, List.set_cons_succ, List.set_cons_zero, List.map_cons, List.map_nil, Option.getD_some, List.nodup_nil, true_and, and_true]
    refine (ascending_ok to_rows rows hz dr hdr).mono ?_
    rintro r os ⟨k, rfl, rfl, h1, h2⟩
    have : k = ms := to_rows.unique h1 hms fun a => by rw [h2, hmm]
    subst this
    simp only [WPx, cond_true, cond_false, List.getElem?_cons_succ, List.getElem?_cons_zero, List.set_cons_succ, List.set_cons_zero, List.map_cons, List.map_nil, Option.getD_some, List.nodup_nil, true_and, and_true]
  rintro _ rfl
  refine wp_cut (fun s => s = [.ins "Pattern" [], .fz (encS ts m), .fz dr, .fz dh, .no, .no, .lst (ms.map encRw), .no]) ?_ ?_
  · simp only [WPx, cond_true, cond_false, List.getElem?_cons_succ, List.getElem?_cons_zero, List.set_cons_succ, List.set_cons_zero, List.map_cons, List.map_nil, Option.getD_some, List.nodup_nil, true_and, and_true, List.length_map]
    rw [decide_eq_false (by omega)]
    simp only [WPx, cond_true, cond_false, List.getElem?_cons_succ, List.getElem?_cons_zero, List.set_cons_succ, List.set_cons_zero, List.map_cons, List.map_nil, Option.getD_some, List.nodup_nil, true_and, and_true]
  rintro _ rfl
  refine wp_cut (fun s => s = [.ins "Pattern" [], .fz (encS ts m), .fz dr, .fz dh, .no, .no, .lst (ms.map encRw), .dct false (encK D.int D.bl ([] : List (Int × Bool)))]) ?_ ?_
  · simp only [WPx, cond_true, cond_false, List.getElem?_cons_succ, List.getElem?_cons_zero, List.set_cons_succ, List.set_cons_zero, List.map_cons, List.map_nil, Option.getD_some, List.nodup_nil, true_and, and_true]
    rfl
  rintro _ rfl
  refine wp_cut (fun s => ∃ l, s = [.ins "Pattern" [], .fz (encS ts m), .fz dr, .fz dh, .no, .no, .lst (ms.map encRw), .dct false (encK D.int D.bl l)] ∧ Ks l hd) ?_ ?_
  · refine wp_for (encI hd) [.ins "Pattern" [], .fz (encS ts m), .fz dr, .fz dh, .no, .no, .lst (ms.map encRw), .dct false (encK D.int D.bl ([] : List (Int × Bool)))] (by simp only [WPx, cond_true, cond_false, List.getElem?_cons_succ, List.getElem?_cons_zero, List.set_cons_succ, List.set_cons_zero, List.map_cons, List.map_nil, Option.getD_some, List.nodup_nil, true_and, and_true, hd1]) (fun i s => ∃ l, s = [.ins "Pattern" [], .fz (encS ts m), .fz dr, .fz dh, .no, .no, .lst (ms.map encRw), .dct false (encK D.int D.bl l)] ∧ Ks l (hd.take i)) ⟨[], rfl, .nil, by simp⟩ ?_ ?_
    · rintro j d s hj ⟨l, rfl, hk⟩
      obtain ⟨v, hv, rfl⟩ := map_get hj
      have hl := hk.len (n := size) fun v hv => (hu v).1 (mem_usedV.2 (.inl (List.mem_of_mem_take hv)))
      simp only [WPx, cond_true, cond_false, List.getElem?_cons_succ, List.getElem?_cons_zero, List.set_cons_succ, List.set_cons_zero, List.map_cons, List.map_nil, Option.getD_some, List.nodup_nil, true_and, and_true, kf_int.put (encv := D.bl) l v true (by omega)]
      exact ⟨_, rfl, by rw [List.take_add_one, hv]; exact hk.put v⟩
    · rintro s ⟨l, rfl, hk⟩
      rw [encI_len, List.take_length] at hk
      simp only [WPx, cond_true, cond_false, List.getElem?_cons_succ, List.getElem?_cons_zero, List.set_cons_succ, List.set_cons_zero, List.map_cons, List.map_nil, Option.getD_some, List.nodup_nil, true_and, and_true]
      exact ⟨l, rfl, hk⟩
  rintro _ ⟨l, rfl, hk⟩
  have hum : ∀ v, v ∈ usedV ms hd ↔ 0 ≤ v ∧ v < (size : Int) := fun v => by
    rw [← hu v, mem_usedV, mem_usedV]
    simp only [hmm]
  refine wp_cut (fun s => ∃ l, s = [.ins "Pattern" [], .fz (encS ts m), .fz dr, .fz dh, .no, .no, .fz (.lst (ms.map encRw)), .dct false (encK D.int D.bl l)] ∧ Ks l (usedV ms hd)) ?_ ?_
  · refine wp_for (ms.map encRw) [.ins "Pattern" [], .fz (encS ts m), .fz dr, .fz dh, .no, .no, .fz (.lst (ms.map encRw)), .dct false (encK D.int D.bl l)] (by simp only [WPx, cond_true, cond_false, List.getElem?_cons_succ, List.getElem?_cons_zero, List.set_cons_succ, List.set_cons_zero, List.map_cons, List.map_nil, Option.getD_some, List.nodup_nil, true_and, and_true]) (fun i s => ∃ l, s = [.ins "Pattern" [], .fz (encS ts m), .fz dr, .fz dh, .no, .no, .fz (.lst (ms.map encRw)), .dct false (encK D.int D.bl l)] ∧ Ks l (usedV (ms.take i) hd)) ⟨l, rfl, by simpa [usedV] using hk⟩ ?_ ?_
    · rintro i d s hi ⟨l, rfl, hk⟩
      obtain ⟨r, hrj, rfl⟩ := map_get hi
      have hrm := List.mem_of_getElem? hrj
      have e : usedV (ms.take (i + 1)) hd = usedV (ms.take i) hd ++ r.2 := by
        unfold usedV
        rw [List.take_add_one, hrj]; simp
      have hsb : ∀ v ∈ usedV (ms.take i) hd, 0 ≤ v ∧ v < (size : Int) := fun v hv => (hum v).1 (by
        rw [mem_usedV] at hv ⊢
        rcases hv with hv | ⟨r, hr, hv⟩
        · exact .inl hv
        · exact .inr ⟨r, List.mem_of_mem_take hr, hv⟩)
      simp only [nameT_eq, oP_some, List.set_cons_succ, List.set_cons_zero]
      refine wp_for (encI r.2) [.ins "Pattern" [], .fz (encS ts m), .fz dr, .fz dh, .fz (encRw r), .no, .fz (.lst (ms.map encRw)), .dct false (encK D.int D.bl l)] (by simp only [WPx, cond_true, cond_false, List.getElem?_cons_succ, List.getElem?_cons_zero, List.set_cons_succ, List.set_cons_zero, List.map_cons, List.map_nil, Option.getD_some, List.nodup_nil, true_and, and_true, sl_row]) (fun j s => ∃ l, s = [.ins "Pattern" [], .fz (encS ts m), .fz dr, .fz dh, .fz (encRw r), .no, .fz (.lst (ms.map encRw)), .dct false (encK D.int D.bl l)] ∧ Ks l (usedV (ms.take i) hd ++ r.2.take j)) ⟨l, rfl, by simpa using hk⟩ ?_ ?_
      · rintro j d s hj ⟨l, rfl, hk⟩
        obtain ⟨v, hv, rfl⟩ := map_get hj
        have hl := hk.len (n := size) fun v hv => by
          rcases List.mem_append.1 hv with hv | hv
          · exact hsb v hv
          · exact (hum v).1 (mem_usedV.2 (.inr ⟨r, hrm, List.mem_of_mem_take hv⟩))
        simp only [WPx, cond_true, cond_false, List.getElem?_cons_succ, List.getElem?_cons_zero, List.set_cons_succ, List.set_cons_zero, List.map_cons, List.map_nil, Option.getD_some, List.nodup_nil, true_and, and_true, kf_int.put (encv := D.bl) l v true (by omega)]
        refine ⟨_, rfl, ?_⟩
        rw [List.take_add_one, hv, Option.toList_some, ← List.append_assoc]; exact hk.put v
      · rintro s ⟨l, rfl, hk⟩
        rw [encI_len, List.take_length] at hk
        simp only [WPx, cond_true, cond_false, List.getElem?_cons_succ, List.getElem?_cons_zero, List.set_cons_succ, List.set_cons_zero, List.map_cons, List.map_nil, Option.getD_some, List.nodup_nil, true_and, and_true]
        exact ⟨l, rfl, by rw [e]; exact hk⟩
    · rintro s ⟨l, rfl, hk⟩
      rw [List.length_map, List.take_length] at hk
      simp only [WPx, cond_true, cond_false, List.getElem?_cons_succ, List.getElem?_cons_zero, List.set_cons_succ, List.set_cons_zero, List.map_cons, List.map_nil, Option.getD_some, List.nodup_nil, true_and, and_true]
      exact ⟨l, rfl, hk⟩
  rintro _ ⟨l, rfl, hk⟩
  have hll : l.length = size := by
    have := len_of_rg hk.nd (n := size) fun v => by rw [hk.mem, hum]
    rwa [List.length_map] at this
  have ell : lenD [.dct false (encK D.int D.bl l)] = some (.fz (.int size)) := by
    rw [lenD_dK]
    unfold encK
    rw [List.length_map, hll]
  refine wp_cut (fun s => s = [.ins "Pattern" [], .fz (encS ts m), .fz dr, .fz dh, .no, .no, .fz (.lst (ms.map encRw)), .dct false (encK D.int D.bl l)]) ?_ ?_
  · simp only [wp_ifS, wp_tstB, wp_prim2, wp_primN, wp_aCons, wp_aNil, wp_varB, wp_cst, List.getElem?_cons_succ, List.getElem?_cons_zero, getB_dct, opR_bor, opR_fz, vw_bor, vw_fz, vws_cons, vws_nil, bind_some', view_dct, ell, resO_fz, rsO_fz, gtD_int, bP_bl]
    rw [decide_eq_false (by omega)]
    simp only [WPx, cond_true, cond_false, List.getElem?_cons_succ, List.getElem?_cons_zero, List.set_cons_succ, List.set_cons_zero, List.map_cons, List.map_nil, Option.getD_some, List.nodup_nil, true_and, and_true]
  rintro _ rfl
  refine wp_cut (fun s => s = [.ins "Pattern" [], .fz (encS ts m), .fz dr, .fz dh, .no, .no, .fz (.lst (ms.map encRw)), .dct false (encK D.int D.bl l)]) ?_ ?_
  · refine wp_for (rgD size) [.ins "Pattern" [], .fz (encS ts m), .fz dr, .fz dh, .no, .no, .fz (.lst (ms.map encRw)), .dct false (encK D.int D.bl l)] ?_ (fun j s => s = [.ins "Pattern" [], .fz (encS ts m), .fz dr, .fz dh, .no, .no, .fz (.lst (ms.map encRw)), .dct false (encK D.int D.bl l)]) rfl ?_ ?_
    · simp only [wp_rngS, wp_prim2, wp_primN, wp_aCons, wp_aNil, wp_varB, wp_cst, List.getElem?_cons_succ, List.getElem?_cons_zero, getB_dct, opR_bor, opR_fz, vw_bor, vw_fz, vws_cons, vws_nil, bind_some', view_dct, ell, resO_fz, rsO_fz, rng1_rgD size (by omega), oP_some]
      exact ⟨trivial, trivial⟩
    · rintro j d s hj rfl
      obtain ⟨hj, rfl⟩ := rgD_get hj
      simp only [WPx, cond_true, cond_false, List.getElem?_cons_succ, List.getElem?_cons_zero, List.set_cons_succ, List.set_cons_zero, List.map_cons, List.map_nil, Option.getD_some, List.nodup_nil, true_and, and_true, kf_int.nin_]
      rw [decide_eq_true ((hk.mem _).2 ((hum _).2 (by omega)))]
      simp only [WPx, cond_true, cond_false, List.getElem?_cons_succ, List.getElem?_cons_zero, List.set_cons_succ, List.set_cons_zero, List.map_cons, List.map_nil, Option.getD_some, List.nodup_nil, true_and, and_true, Bool.not_true]
    · rintro s rfl
      simp only [WPx, cond_true, cond_false, List.getElem?_cons_succ, List.getElem?_cons_zero, List.set_cons_succ, List.set_cons_zero, List.map_cons, List.map_nil, Option.getD_some, List.nodup_nil, true_and, and_true]
  rintro _ rfl
  refine wp_cut (fun s => s = [.ins "Pattern" [("schema", encS ts m)], .fz (encS ts m), .fz dr, .fz dh, .no, .no, .fz (.lst (ms.map encRw)), .dct false (encK D.int D.bl l)]) ?_ ?_
  · simp only [WPx, cond_true, cond_false, List.getElem?_cons_succ, List.getElem?_cons_zero, List.set_cons_succ, List.set_cons_zero, List.map_cons, List.map_nil, Option.getD_some, List.nodup_nil, true_and, and_true]
    exact ⟨rfl, by simp, rfl⟩
  rintro _ rfl
  refine wp_cut (fun s => s = [.ins "Pattern" [("schema", encS ts m), ("rows", .tup (ms.map encRw))], .fz (encS ts m), .fz dr, .fz dh, .no, .no, .fz (.lst (ms.map encRw)), .dct false (encK D.int D.bl l)]) ?_ ?_
  · simp only [WPx, cond_true, cond_false, List.getElem?_cons_succ, List.getElem?_cons_zero, List.set_cons_succ, List.set_cons_zero, List.map_cons, List.map_nil, Option.getD_some, List.nodup_nil, true_and, and_true]
    exact ⟨rfl, by simp, rfl⟩
  rintro _ rfl
  refine wp_cut (fun s => s = [.ins "Pattern" [("schema", encS ts m), ("rows", .tup (ms.map encRw)), ("head", .tup (encI hd))], .fz (encS ts m), .fz dr, .fz dh, .no, .no, .fz (.lst (ms.map encRw)), .dct false (encK D.int D.bl l)]) ?_ ?_
  · simp only [WPx, cond_true, cond_false, List.getElem?_cons_succ, List.getElem?_cons_zero, List.set_cons_succ, List.set_cons_zero, List.map_cons, List.map_nil, Option.getD_some, List.nodup_nil, true_and, and_true, hd2]
    exact ⟨rfl, by simp, rfl⟩
  rintro _ rfl
  simp only [wp_fldS, wp_primN, wp_aCons, wp_aNil, wp_varB, wp_cst, List.getElem?_cons_succ, List.getElem?_cons_zero, getB_dct, opR_bor, opR_fz, vw_bor, vw_fz, vws_cons, vws_nil, bind_some', view_dct, ell, resO_fz, rsO_fz, fP_fz]
  refine ⟨rfl, by simp, ?_⟩
  simp only [WPx, cond_true, cond_false, List.getElem?_cons_succ, List.getElem?_cons_zero, List.set_cons_succ, List.set_cons_zero, List.map_cons, List.map_nil, Option.getD_some, List.nodup_nil, true_and, and_true]
  exact rfl
end Ev
-- PH
set_option Elab.async false
set_option linter.all false
set_option maxRecDepth 100000
set_option maxHeartbeats 4000000
namespace Ev
open PySem L2 PySem.W PyProof.Rows
/-! ## links -/
def rowV (rows : List Rw) (i : Nat) : List Int := ((rows[i]?).map (·.2)).getD []
def lnkRow (hd : List Int) (i : Nat) (vs : List Int) (n : Nat) : List (Nat × Nat) := ((List.range n).filter fun c => decide (vs.getD c 0 ∉ hd)).map fun c => (i, c)
def lnks (rows : List Rw) (hd : List Int) (n : Nat) : List (Nat × Nat) := ((List.range n).map fun i => lnkRow hd i (rowV rows i) (rowV rows i).length).flatten
def linksOf (rows : List Rw) (hd : List Int) : List (Nat × Nat) := lnks rows hd rows.length
def linkV (rows : List Rw) (l : Nat × Nat) : Int := (rowV rows l.1).getD l.2 0
theorem rowV_eq {rows : List Rw} {i : Nat} {r : Rw} (h : rows[i]? = some r) : rowV rows i = r.2 := by unfold rowV; rw [h]; rfl
theorem lnkRow_succ (hd : List Int) (i : Nat) (vs : List Int) (n : Nat) : lnkRow hd i vs (n + 1) = lnkRow hd i vs n ++ if vs.getD n 0 ∈ hd then [] else [(i, n)] := by
  unfold lnkRow
  rw [List.range_succ, List.filter_append, List.map_append]
  congr 1
  by_cases h : vs.getD n 0 ∈ hd
  · simp only [List.filter_cons, h, not_true_eq_false, decide_false, if_true]; rfl
  · simp only [List.filter_cons, h, not_false_eq_true, decide_true, if_true, if_false]; rfl
theorem lnks_succ (rows : List Rw) (hd : List Int) (n : Nat) : lnks rows hd (n + 1) = lnks rows hd n ++ lnkRow hd n (rowV rows n) (rowV rows n).length := by
  unfold lnks
  rw [List.range_succ, List.map_append, List.flatten_append]
  simp
theorem lnkRow_len (hd : List Int) (i : Nat) (vs : List Int) (n : Nat) : (lnkRow hd i vs n).length ≤ n := by
  unfold lnkRow
  rw [List.length_map]
  exact Nat.le_trans (List.length_filter_le _ _) (by rw [List.length_range]; exact Nat.le_refl _)
theorem rowV_len {rows : List Rw} (hw : ∀ r ∈ rows, r.2.length ≤ 4) (i : Nat) : (rowV rows i).length ≤ 4 := by
  unfold rowV
  cases h : rows[i]? with
  | none => simp
  | some r => exact hw r (List.mem_of_getElem? h)
theorem lnks_len {rows : List Rw} (hw : ∀ r ∈ rows, r.2.length ≤ 4) (hd : List Int) : ∀ n, (lnks rows hd n).length ≤ 4 * n
  | 0 => by simp [lnks]
  | n + 1 => by
    rw [lnks_succ, List.length_append]
    have := lnks_len hw hd n
    have := lnkRow_len hd n (rowV rows n) (rowV rows n).length
    have := rowV_len hw n
    omega
theorem mem_links {rows : List Rw} {hd : List Int} {l : Nat × Nat} (h : l ∈ linksOf rows hd) : ∃ r v, rows[l.1]? = some r ∧ r.2[l.2]? = some v ∧ v ∉ hd ∧ linkV rows l = v := by
  unfold linksOf lnks at h
  obtain ⟨x, hx, hl⟩ := List.mem_flatten.1 h
  obtain ⟨i, hi, rfl⟩ := List.mem_map.1 hx
  have hi := List.mem_range.1 hi
  unfold lnkRow at hl
  obtain ⟨c, hc, rfl⟩ := List.mem_map.1 hl
  obtain ⟨hc1, hc2⟩ := List.mem_filter.1 hc
  have hc1 := List.mem_range.1 hc1
  have e : rows[i]? = some rows[i] := List.getElem?_eq_getElem hi
  rw [rowV_eq e] at hc1 hc2
  have e2 : rows[i].2[c]? = some (rows[i].2[c]) := List.getElem?_eq_getElem hc1
  have e3 : linkV rows (i, c) = rows[i].2[c] := by
    unfold linkV
    show (rowV rows i).getD c 0 = _
    rw [rowV_eq e, List.getD_eq_getElem?_getD, e2]; rfl
  rw [List.getD_eq_getElem?_getD, e2] at hc2
  exact ⟨rows[i], _, e, e2, by simpa using hc2, e3⟩
theorem idx_row (r : Rw) {c : Nat} {v : Int} (h : r.2[c]? = some v) : idxD (encRw r) (.int ((c : Int) + 1)) = some (.fz (.int v)) := by
  unfold encRw
  rw [idxD_tup]
  have e : atI (D.str r.1.s :: encI r.2) ((c : Int) + 1) = some (.int v) := atI_nat (k := c + 1) (by unfold encI; rw [List.getElem?_cons_succ, List.getElem?_map, h]; rfl)
  rw [e]; rfl
theorem idxL0 (l : Nat × Nat) : idxD (encL l) (.int 0) = some (.fz (.int l.1)) := by unfold encL; rw [idxD_tup, atI_0]; rfl
theorem idxL1 (l : Nat × Nat) : idxD (encL l) (.int 1) = some (.fz (.int l.2)) := by unfold encL; rw [idxD_tup, atI_1]; rfl
theorem getD_of {vs : List Int} {c : Nat} {v : Int} (h : vs[c]? = some v) : vs.getD c 0 = v := by rw [List.getD_eq_getElem?_getD, h]; rfl
/-- the law's links -/
theorem law_links_ok (p : Pn) (hz : p.rows.length ≤ 1000) (hw : ∀ r ∈ p.rows, r.2.length ≤ 4) : wpF f_law_links [.fz (encP p)] fun r os => r = .lst ((linksOf p.rows p.head).map encL) ∧ os = [.no] := by
  refine wp_fun [.fz (encP p), .no, .no, .no, .no] ?_
  unfold b_law_links
  refine wp_cut (fun s => s = [.fz (encP p), .lst ((lnks p.rows p.head 0).map encL), .no, .no, .no]) (by simp only [WPx, cond_true, cond_false, List.getElem?_cons_succ, List.getElem?_cons_zero, List.set_cons_succ, List.set_cons_zero, List.map_cons, List.map_nil, Option.getD_some, List.nodup_nil, true_and, and_true]; exact ⟨fits_le (by simp), rfl⟩) ?_
  rintro _ rfl
  refine wp_cut (fun s => s = [.fz (encP p), .lst ((linksOf p.rows p.head).map encL), .no, .no, .no]) ?_ ?_
  · refine wp_for (rgD p.rows.length) [.fz (encP p), .lst ((lnks p.rows p.head 0).map encL), .no, .no, .no] (by simp only [WPx, cond_true, cond_false, List.getElem?_cons_succ, List.getElem?_cons_zero, List.set_cons_succ, List.set_cons_zero, List.map_cons, List.map_nil, Option.getD_some, List.nodup_nil, true_and, and_true, idxP0, List.length_map, rng1_rgD p.rows.length (by omega)]) (fun i s => s = [.fz (encP p), .lst ((lnks p.rows p.head i).map encL), .no, .no, .no]) rfl ?_ ?_
    · rintro i d s hi rfl
      replace ⟨hi, hd'⟩ := rgD_get hi
      subst hd'
      have e : p.rows[i]? = some p.rows[i] := List.getElem?_eq_getElem hi
      have hrw := hw _ (List.getElem_mem hi)
      simp only [nameT_eq, oP_some, List.set_cons_succ, List.set_cons_zero]
      refine wp_cut (fun s => s = [.fz (encP p), .lst ((lnks p.rows p.head i).map encL), .fz (.int i), .fz (encRw p.rows[i]), .no]) ?_ ?_
      · simp only [WPx, cond_true, cond_false, List.getElem?_cons_succ, List.getElem?_cons_zero, List.set_cons_succ, List.set_cons_zero, List.map_cons, List.map_nil, Option.getD_some, List.nodup_nil, true_and, and_true, idxP0, atI_map (f := encRw) hi]
      rintro _ rfl
      have hl := lnks_len hw p.head i
      refine wp_for (rgD p.rows[i].2.length) [.fz (encP p), .lst ((lnks p.rows p.head i).map encL), .fz (.int i), .fz (encRw p.rows[i]), .no] ?_ (fun j s => s = [.fz (encP p), .lst ((lnks p.rows p.head i ++ lnkRow p.head i p.rows[i].2 j).map encL), .fz (.int i), .fz (encRw p.rows[i]), .no]) (by simp [lnkRow, eraseS]) ?_ ?_
      · have e2 : (((p.rows[i].2.length + 1 : Nat) : Int) - 1) = ((p.rows[i].2.length : Nat) : Int) := by omega
        simp only [WPx, cond_true, cond_false, List.getElem?_cons_succ, List.getElem?_cons_zero, List.set_cons_succ, List.set_cons_zero, List.map_cons, List.map_nil, Option.getD_some, List.nodup_nil, true_and, and_true, lenRw, e2, rng1_rgD p.rows[i].2.length (by omega)]
      · rintro j d s hj rfl
        replace ⟨hj, hd'⟩ := rgD_get hj
        subst hd'
        have e2 : p.rows[i].2[j]? = some p.rows[i].2[j] := List.getElem?_eq_getElem hj
        have hl2 := lnkRow_len p.head i p.rows[i].2 j
        rw [lnkRow_succ, getD_of e2]
        simp only [WPx, cond_true, cond_false, List.getElem?_cons_succ, List.getElem?_cons_zero, List.set_cons_succ, List.set_cons_zero, List.map_cons, List.map_nil, Option.getD_some, List.nodup_nil, true_and, and_true, idx_row _ e2, idxP1, ninI_t]
        refine bifN_split (fun q => ?_) fun q => ?_
        · refine ⟨fits_le (by simp), ?_⟩
          rw [appD_eq _ _ (by rw [List.length_map, List.length_append]; exact lt_sl (by omega))]
          simp only [WPx, cond_true, cond_false, List.getElem?_cons_succ, List.getElem?_cons_zero, List.set_cons_succ, List.set_cons_zero, List.map_cons, List.map_nil, Option.getD_some, List.nodup_nil, true_and, and_true]
          rw [if_neg q]
          simp [encL]
        · rw [if_pos q, List.append_nil]
      · rintro s rfl
        rw [rgD_len, lnks_succ, rowV_eq e]
        simp only [WPx, cond_true, cond_false, List.getElem?_cons_succ, List.getElem?_cons_zero, List.set_cons_succ, List.set_cons_zero, List.map_cons, List.map_nil, Option.getD_some, List.nodup_nil, true_and, and_true]
    · rintro s rfl
      rw [rgD_len]
      simp only [WPx, cond_true, cond_false, List.getElem?_cons_succ, List.getElem?_cons_zero, List.set_cons_succ, List.set_cons_zero, List.map_cons, List.map_nil, Option.getD_some, List.nodup_nil, true_and, and_true]
      rfl
  rintro _ rfl
  simp only [WPx, cond_true, cond_false, List.getElem?_cons_succ, List.getElem?_cons_zero, List.set_cons_succ, List.set_cons_zero, List.map_cons, List.map_nil, Option.getD_some, List.nodup_nil, true_and, and_true]
  exact rfl
/-- a pattern as it lies -/
def encPat (S : D) (p : Pn) : D := .ins "Pattern" (pfs S p.rows p.head p.size)
theorem fldP_rows (S : D) (p : Pn) : fldD "rows" (encPat S p) = some (.fz (.tup (p.rows.map encRw))) := rfl
theorem fldP_head (S : D) (p : Pn) : fldD "head" (encPat S p) = some (.fz (.tup (encI p.head))) := rfl
theorem fldP_size (S : D) (p : Pn) : fldD "size" (encPat S p) = some (.fz (.int p.size)) := rfl
theorem links_ok (S : D) (p : Pn) (hz : p.rows.length ≤ 1000) (hw : ∀ r ∈ p.rows, r.2.length ≤ 4) : wpF f_links [.fz (encPat S p)] fun r os => r = .lst ((linksOf p.rows p.head).map encL) ∧ os = [.no] := by
  refine wp_fun [.fz (encPat S p), .no, .no, .no, .no, .no] ?_
  unfold b_links
  refine wp_cut (fun s => s = [.fz (encPat S p), .lst ((lnks p.rows p.head 0).map encL), .no, .no, .no, .no]) (by simp only [WPx, cond_true, cond_false, List.getElem?_cons_succ, List.getElem?_cons_zero, List.set_cons_succ, List.set_cons_zero, List.map_cons, List.map_nil, Option.getD_some, List.nodup_nil, true_and, and_true]; exact ⟨fits_le (by simp), rfl⟩) ?_
  rintro _ rfl
  refine wp_cut (fun s => s = [.fz (encPat S p), .lst ((linksOf p.rows p.head).map encL), .no, .no, .no, .no]) ?_ ?_
  · refine wp_for (enumL 0 (p.rows.map encRw)) [.fz (encPat S p), .lst ((lnks p.rows p.head 0).map encL), .no, .no, .no, .no] (by simp only [WPx, cond_true, cond_false, List.getElem?_cons_succ, List.getElem?_cons_zero, List.set_cons_succ, List.set_cons_zero, List.map_cons, List.map_nil, Option.getD_some, List.nodup_nil, true_and, and_true, fldP_rows]) (fun i s => s = [.fz (encPat S p), .lst ((lnks p.rows p.head i).map encL), .no, .no, .no, .no]) rfl ?_ ?_
    · rintro i d s hi rfl
      obtain ⟨x, hx, rfl⟩ := enumL_get _ _ _ _ hi
      obtain ⟨r, hr, rfl⟩ := map_get hx
      have hi : i < p.rows.length := (List.getElem?_eq_some_iff.mp hr).1
      have hrw := hw _ (List.mem_of_getElem? hr)
      have hl := lnks_len hw p.head i
      rw [Nat.zero_add]
      simp only [tupT2, consT_eq, nameT_eq, nilT_eq, bind_some', oP_some, List.set_cons_succ, List.set_cons_zero]
      refine wp_for (enumL 0 (encI r.2)) [.fz (encPat S p), .lst ((lnks p.rows p.head i).map encL), .fz (.int i), .fz (encRw r), .no, .no] (by simp only [WPx, cond_true, cond_false, List.getElem?_cons_succ, List.getElem?_cons_zero, List.set_cons_succ, List.set_cons_zero, List.map_cons, List.map_nil, Option.getD_some, List.nodup_nil, true_and, and_true, sl_row]) (fun j s => s = [.fz (encPat S p), .lst ((lnks p.rows p.head i ++ lnkRow p.head i r.2 j).map encL), .fz (.int i), .fz (encRw r), .no, .no]) (by simp [lnkRow, eraseS]) ?_ ?_
      · rintro j d s hj rfl
        obtain ⟨x, hx, rfl⟩ := enumL_get _ _ _ _ hj
        obtain ⟨v, hv, rfl⟩ := map_get hx
        have hj : j < r.2.length := (List.getElem?_eq_some_iff.mp hv).1
        have hl2 := lnkRow_len p.head i r.2 j
        rw [lnkRow_succ, getD_of hv, Nat.zero_add]
        simp only [WPx, cond_true, cond_false, List.getElem?_cons_succ, List.getElem?_cons_zero, List.set_cons_succ, List.set_cons_zero, List.map_cons, List.map_nil, Option.getD_some, List.nodup_nil, true_and, and_true, fldP_head, ninI_t]
        refine bifN_split (fun q => ?_) fun q => ?_
        · refine ⟨fits_le (by simp), ?_⟩
          rw [appD_eq _ _ (by rw [List.length_map, List.length_append]; exact lt_sl (by omega))]
          simp only [WPx, cond_true, cond_false, List.getElem?_cons_succ, List.getElem?_cons_zero, List.set_cons_succ, List.set_cons_zero, List.map_cons, List.map_nil, Option.getD_some, List.nodup_nil, true_and, and_true]
          rw [if_neg q]
          simp [encL]
        · rw [if_pos q, List.append_nil]
      · rintro s rfl
        rw [enumL_length, encI_len, lnks_succ, rowV_eq hr]
        simp only [WPx, cond_true, cond_false, List.getElem?_cons_succ, List.getElem?_cons_zero, List.set_cons_succ, List.set_cons_zero, List.map_cons, List.map_nil, Option.getD_some, List.nodup_nil, true_and, and_true]
    · rintro s rfl
      rw [enumL_length, List.length_map]
      simp only [WPx, cond_true, cond_false, List.getElem?_cons_succ, List.getElem?_cons_zero, List.set_cons_succ, List.set_cons_zero, List.map_cons, List.map_nil, Option.getD_some, List.nodup_nil, true_and, and_true]
      rfl
  rintro _ rfl
  simp only [WPx, cond_true, cond_false, List.getElem?_cons_succ, List.getElem?_cons_zero, List.set_cons_succ, List.set_cons_zero, List.map_cons, List.map_nil, Option.getD_some, List.nodup_nil, true_and, and_true]
  exact rfl
theorem link_value_ok (S : D) (p : Pn) (l : Nat × Nat) (h : l ∈ linksOf p.rows p.head) : wpF f_link_value [.fz (encPat S p), .fz (encL l)] fun r os => r = .fz (.int (linkV p.rows l)) ∧ os = [.no, .no] := by
  refine wp_fun [.fz (encPat S p), .fz (encL l)] ?_
  obtain ⟨r, v, h1, h2, _, h4⟩ := mem_links h
  have hi := (List.getElem?_eq_some_iff.mp h1).1
  have e : p.rows[l.1] = r := (List.getElem?_eq_some_iff.mp h1).2
  unfold b_link_value
  simp only [WPx, cond_true, cond_false, List.getElem?_cons_succ, List.getElem?_cons_zero, List.set_cons_succ, List.set_cons_zero, List.map_cons, List.map_nil, Option.getD_some, List.nodup_nil, true_and, and_true, fldP_rows, idxL0, idxL1, atI_map (f := encRw) hi, e, idx_row _ h2, h4]
  exact rfl
end Ev
-- PI
set_option Elab.async false
set_option linter.all false
set_option maxRecDepth 100000
set_option maxHeartbeats 4000000
namespace Ev
open PySem L2 PySem.W PyProof.Rows
/-! ## what neighbouring links reach -/
inductive Rc (os : List (Int × Int)) (r0 : Int) : Bool → Int → Prop
  | st : Rc os r0 false r0
  | v {o : Int × Int} : o ∈ os → Rc os r0 false o.1 → Rc os r0 true o.2
  | r {o : Int × Int} : o ∈ os → Rc os r0 true o.2 → Rc os r0 false o.1
def cnt (os : List (Int × Int)) (P : Bool → Int → Bool) : Nat := os.countP fun o => P false o.1 && P true o.2
def Cl (os : List (Int × Int)) (P : Bool → Int → Bool) : Prop := ∀ o ∈ os, P false o.1 = P true o.2
structure Snd (os : List (Int × Int)) (r0 : Int) (P : Bool → Int → Bool) : Prop where
  st : P false r0 = true
  rc : ∀ b i, P b i = true → Rc os r0 b i
theorem Cl.all {os : List (Int × Int)} {r0 : Int} {P : Bool → Int → Bool} (c : Cl os P) (s : Snd os r0 P) {b : Bool} {i : Int} (h : Rc os r0 b i) : P b i = true := by
  induction h with
  | st => exact s.st
  | v ho _ ih => rw [← c _ ho]; exact ih
  | r ho _ ih => rw [c _ ho]; exact ih
theorem cnt_le (os : List (Int × Int)) (P : Bool → Int → Bool) : cnt os P ≤ os.length := List.countP_le_length
theorem cl_of_cnt {os : List (Int × Int)} {P : Bool → Int → Bool} (h : os.length ≤ cnt os P) : Cl os P := by
  have e : cnt os P = os.length := Nat.le_antisymm (cnt_le os P) h
  unfold cnt at e
  rw [List.countP_eq_length] at e
  intro o ho
  have := e o ho
  rw [Bool.and_eq_true] at this
  rw [this.1, this.2]
theorem cnt_mono {os : List (Int × Int)} {P Q : Bool → Int → Bool} (h : ∀ b i, P b i = true → Q b i = true) : cnt os P ≤ cnt os Q := by
  unfold cnt
  refine List.countP_mono_left fun o _ k => ?_
  rw [Bool.and_eq_true] at k ⊢
  exact ⟨h _ _ k.1, h _ _ k.2⟩
theorem cnt_lt {os : List (Int × Int)} {P Q : Bool → Int → Bool} (h : ∀ b i, P b i = true → Q b i = true) {o : Int × Int} (ho : o ∈ os) (h1 : (P false o.1 && P true o.2) = false) (h2 : (Q false o.1 && Q true o.2) = true) : cnt os P < cnt os Q := by
  induction os with
  | nil => cases ho
  | cons x xs ih =>
    unfold cnt at ih ⊢
    rw [List.countP_cons, List.countP_cons]
    have hm : cnt xs P ≤ cnt xs Q := cnt_mono h
    unfold cnt at hm
    rcases List.mem_cons.1 ho with e | ho
    · subst e
      rw [h1, h2]
      simp only [Bool.false_eq_true, if_true, if_false]
      omega
    · have := ih ho
      have : (if (P false x.1 && P true x.2) = true then 1 else 0) ≤ (if (Q false x.1 && Q true x.2) = true then 1 else 0) := by
        by_cases k : (P false x.1 && P true x.2) = true
        · rw [if_pos k, if_pos (by rw [Bool.and_eq_true] at k ⊢; exact ⟨h _ _ k.1, h _ _ k.2⟩)]; omega
        · rw [if_neg k]; omega
      omega
/-- [x for x in .. if f x] -/
theorem filter_lc {α : Type} {enc : α → D} (i : Nat) (src : SI) (s s1 : List O) (xs : List α) (f : α → Bool) (tt : ST) {Q : Rs → List O → Prop} (hsrc : wpM src s fun a b => a = xs.map enc ∧ b = s1) (hz : xs.length ≤ 1000000) (hi : i < s1.length)
    (ht : ∀ x ∈ xs, ∀ Q : Bool → List O → Prop, Q (f x) (s1.set i (.fz (enc x))) → wpM tt (s1.set i (.fz (enc x))) Q) (hq : Q (.ow (.lst ((xs.filter f).map enc))) (s1.set i .no)) :
    wpM (lcS src (nameT i) tt (varS i) [i]) s Q := by
  refine wp_lc (xs.map enc) s1 hsrc (by rw [List.length_map]; exact le_sl hz) (fun j acc s => acc = ((xs.take j).filter f).map enc ∧ s = s1.set i .no) ⟨by simp, by simp only [eraseS_cons, eraseS_nil]⟩ ?_ ?_
  · rintro j d acc s hj ⟨rfl, rfl⟩
    obtain ⟨x, hx, rfl⟩ := map_get hj
    simp only [nameT_eq, oP_some, List.set_set]
    refine ht x (List.mem_of_getElem? hx) _ ?_
    have et : (xs.take (j + 1)).filter f = (xs.take j).filter f ++ if f x = true then [x] else [] := by
      rw [List.take_add_one, hx, List.filter_append]
      congr 1
      by_cases h : f x = true <;> simp [h]
    rw [et]
    cases hf : f x with
    | true =>
      simp only [cond_true, if_true, wp_varS]
      rw [List.getElem?_set_self hi]
      simp only [bind_some', view_fz, oP_some, opR_fz, fP_fz, List.set_set, eraseS_cons, eraseS_nil, List.map_append]
      exact ⟨rfl, trivial⟩
    | false =>
      simp only [cond_false, Bool.false_eq_true, if_false, eraseS_cons, eraseS_nil, List.set_set, List.append_nil]
      exact ⟨trivial, trivial⟩
  · rintro acc s ⟨rfl, rfl⟩
    rw [List.length_map, List.take_length]
    exact hq
def prs (rows : List Rw) (ls : List (Nat × Nat)) : List (Int × Int) := ls.map fun l => ((l.1 : Int), linkV rows l)
def othersOf (rows : List Rw) (hd : List Int) (l : Nat × Nat) : List (Nat × Nat) := (linksOf rows hd).filter fun o => !decide (o = l)
noncomputable def ringB (rows : List Rw) (hd : List Int) (l : Nat × Nat) : Bool := @decide (Rc (prs rows (othersOf rows hd l)) l.1 true (linkV rows l)) (Classical.propDecidable _)
theorem ringB_of {rows : List Rw} {hd : List Int} {l : Nat × Nat} {P : Bool → Int → Bool} (c : Cl (prs rows (othersOf rows hd l)) P) (s : Snd (prs rows (othersOf rows hd l)) l.1 P) : P true (linkV rows l) = ringB rows hd l := by
  unfold ringB
  rw [Bool.eq_iff_iff, @decide_eq_true_eq _ (Classical.propDecidable _)]
  exact ⟨s.rc _ _, fun h => c.all s h⟩
def pL (R V : List Int) : Bool → Int → Bool := fun b i => match b with
  | true => decide (i ∈ V)
  | false => decide (i ∈ R)
theorem pL_addV {R V : List Int} {v : Int} : ∀ b i, pL R V b i = true → pL R (V ++ [v]) b i = true := fun b i h => by
  cases b <;> simp [pL] at h ⊢ <;> simp [h]
theorem pL_addR {R V : List Int} {v : Int} : ∀ b i, pL R V b i = true → pL (R ++ [v]) V b i = true := fun b i h => by
  cases b <;> simp [pL] at h ⊢ <;> simp [h]
theorem links_len (p : Pn) (hw : ∀ r ∈ p.rows, r.2.length ≤ 4) : (linksOf p.rows p.head).length ≤ 4 * p.rows.length := lnks_len hw _ _
theorem others_len (p : Pn) (hw : ∀ r ∈ p.rows, r.2.length ≤ 4) (l : Nat × Nat) : (othersOf p.rows p.head l).length ≤ 4 * p.rows.length := Nat.le_trans (List.length_filter_le _ _) (links_len p hw)
theorem mem_others {rows : List Rw} {hd : List Int} {l o : Nat × Nat} (h : o ∈ othersOf rows hd l) : o ∈ linksOf rows hd := (List.mem_filter.1 h).1
theorem law_ring_ok (p : Pn) (l : Nat × Nat) (hl : l ∈ linksOf p.rows p.head) (hz : p.rows.length ≤ 1000) (hw : ∀ r ∈ p.rows, r.2.length ≤ 4) : wpF f_law_is_ring_link [.fz (encP p), .fz (encL l)] fun r os => r = .fz (.bl (ringB p.rows p.head l)) ∧ os = [.no, .no] := by
  refine wp_fun [.fz (encP p), .fz (encL l), .no, .no, .no, .no, .no, .no] ?_
  unfold b_law_is_ring_link
  generalize hot : othersOf p.rows p.head l = ot
  have hotl := others_len p hw l
  rw [hot] at hotl
  refine wp_cut (fun s => s = [.fz (encP p), .fz (encL l), .lst (ot.map encL), .no, .no, .no, .no, .no]) ?_ ?_
  · rw [wp_setS]
    refine filter_lc (enc := encL) 3 _ _ [.fz (encP p), .fz (encL l), .no, .no, .no, .no, .no, .no] (linksOf p.rows p.head) (fun o => !decide (o = l)) _ ?_ (by have := links_len p hw; omega) (by simp) ?_ ?_
    · simp only [WPx, cond_true, cond_false, List.getElem?_cons_succ, List.getElem?_cons_zero, List.set_cons_succ, List.set_cons_zero, List.map_cons, List.map_nil, Option.getD_some, List.nodup_nil, true_and, and_true]
      refine (law_links_ok p hz hw).mono ?_
      rintro r os ⟨rfl, rfl⟩
      simp only [WPx, cond_true, cond_false, List.getElem?_cons_succ, List.getElem?_cons_zero, List.set_cons_succ, List.set_cons_zero, List.map_cons, List.map_nil, Option.getD_some, List.nodup_nil, true_and, and_true]
    · intro o ho Q hQ
      simp only [List.set_cons_succ, List.set_cons_zero] at hQ ⊢
      simp only [WPx, cond_true, cond_false, List.getElem?_cons_succ, List.getElem?_cons_zero, List.set_cons_succ, List.set_cons_zero, List.map_cons, List.map_nil, Option.getD_some, List.nodup_nil, true_and, and_true, eq_link.ne_]
      exact hQ
    · simp only [WPx, cond_true, cond_false, List.getElem?_cons_succ, List.getElem?_cons_zero, List.set_cons_succ, List.set_cons_zero, List.map_cons, List.map_nil, Option.getD_some, List.nodup_nil, true_and, and_true]
      rw [← hot]; rfl
  rintro _ rfl
  refine wp_cut (fun s => s = [.fz (encP p), .fz (encL l), .lst (ot.map encL), .no, .lst (encI [(l.1 : Int)]), .no, .no, .no]) (by simp only [WPx, cond_true, cond_false, List.getElem?_cons_succ, List.getElem?_cons_zero, List.set_cons_succ, List.set_cons_zero, List.map_cons, List.map_nil, Option.getD_some, List.nodup_nil, true_and, and_true, idxL0]; exact ⟨fits_le (by simp), rfl⟩) ?_
  rintro _ rfl
  refine wp_cut (fun s => s = [.fz (encP p), .fz (encL l), .lst (ot.map encL), .no, .lst (encI [(l.1 : Int)]), .lst (encI []), .no, .no]) (by simp only [WPx, cond_true, cond_false, List.getElem?_cons_succ, List.getElem?_cons_zero, List.set_cons_succ, List.set_cons_zero, List.map_cons, List.map_nil, Option.getD_some, List.nodup_nil, true_and, and_true]; exact ⟨fits_le (by simp), rfl⟩) ?_
  rintro _ rfl
  generalize hos : prs p.rows ot = os
  have hosl : os.length = ot.length := by rw [← hos]; unfold prs; simp
  have s0 : Snd os l.1 (pL [(l.1 : Int)] []) := ⟨by simp [pL], fun b i h => by
    cases b with
    | true => simp [pL] at h
    | false => simp [pL] at h; subst h; exact .st⟩
  refine wp_cut (fun s => ∃ (y : O) (R V : List Int), s = [.fz (encP p), .fz (encL l), y, .no, .lst (encI R), .lst (encI V), .no, .no] ∧ Snd os l.1 (pL R V) ∧ Cl os (pL R V)) ?_ ?_
  · refine wp_for (rgD ot.length) [.fz (encP p), .fz (encL l), .lst (ot.map encL), .no, .lst (encI [(l.1 : Int)]), .lst (encI []), .no, .no] (by simp only [WPx, cond_true, cond_false, List.getElem?_cons_succ, List.getElem?_cons_zero, List.set_cons_succ, List.set_cons_zero, List.map_cons, List.map_nil, Option.getD_some, List.nodup_nil, true_and, and_true, List.length_map, rng1_rgD ot.length (by omega)])
      (fun i s => ∃ (y : O) (R V : List Int), s = [.fz (encP p), .fz (encL l), y, .no, .lst (encI R), .lst (encI V), .no, .no] ∧ (y = .lst (ot.map encL) ∨ y = .fz (.lst (ot.map encL))) ∧ Snd os l.1 (pL R V) ∧ R.length + V.length ≤ 1 + cnt os (pL R V) ∧ (Cl os (pL R V) ∨ i ≤ cnt os (pL R V)))
      ⟨_, [(l.1 : Int)], [], rfl, .inl rfl, s0, by simp, .inr (Nat.zero_le _)⟩ ?_ ?_
    · rintro i d s hi ⟨y, R0, V0, rfl, hy, hs0, hl0, hc0⟩
      have ev : O.view y = some (.lst (ot.map encL)) := by rcases hy with rfl | rfl <;> rfl
      simp only [nameT_eq, oP_some, List.set_cons_succ, List.set_cons_zero]
      refine wp_for (ot.map encL) [.fz (encP p), .fz (encL l), .fz (.lst (ot.map encL)), .no, .lst (encI R0), .lst (encI V0), .fz d, .no] (by simp only [WPx, cond_true, cond_false, List.getElem?_cons_succ, List.getElem?_cons_zero, List.set_cons_succ, List.set_cons_zero, List.map_cons, List.map_nil, Option.getD_some, List.nodup_nil, true_and, and_true, ev])
        (fun j s => ∃ R V : List Int, s = [.fz (encP p), .fz (encL l), .fz (.lst (ot.map encL)), .no, .lst (encI R), .lst (encI V), .fz d, .no] ∧ Snd os l.1 (pL R V) ∧ R.length + V.length ≤ 1 + cnt os (pL R V) ∧
          ((R = R0 ∧ V = V0 ∧ ∀ k, k < j → ∀ o, os[k]? = some o → pL R V false o.1 = pL R V true o.2) ∨ (¬ Cl os (pL R0 V0) ∧ cnt os (pL R0 V0) < cnt os (pL R V))))
        ⟨R0, V0, rfl, hs0, hl0, .inl ⟨rfl, rfl, fun k hk => by omega⟩⟩ ?_ ?_
      · rintro j d' s hj ⟨R, V, rfl, hs, hlen, hc⟩
        obtain ⟨o, ho, rfl⟩ := map_get hj
        have hom : o ∈ ot := List.mem_of_getElem? ho
        have hol : o ∈ linksOf p.rows p.head := mem_others (l := l) (by rw [hot]; exact hom)
        obtain ⟨r, v, h1, h2, h3, h4⟩ := mem_links hol
        have hri := (List.getElem?_eq_some_iff.mp h1).1
        have hre : p.rows[o.1] = r := (List.getElem?_eq_some_iff.mp h1).2
        have hoj : os[j]? = some ((o.1 : Int), v) := by rw [← hos]; unfold prs; rw [List.getElem?_map, ho, ← h4]; rfl
        have hoo : ((o.1 : Int), v) ∈ os := List.mem_of_getElem? hoj
        have hcl := cnt_le os (pL R V)
        have notcl : pL R V false o.1 ≠ pL R V true v → R = R0 → V = V0 → ¬ Cl os (pL R0 V0) := fun hne e1 e2 c => hne (by subst e1 e2; exact c _ hoo)
        simp only [nameT_eq, oP_some, List.set_cons_succ, List.set_cons_zero]
        refine wp_cut (fun s => s = [.fz (encP p), .fz (encL l), .fz (.lst (ot.map encL)), .fz (encL o), .lst (encI R), .lst (encI V), .fz d, .fz (.int v)]) ?_ ?_
        · simp only [WPx, cond_true, cond_false, List.getElem?_cons_succ, List.getElem?_cons_zero, List.set_cons_succ, List.set_cons_zero, List.map_cons, List.map_nil, Option.getD_some, List.nodup_nil, true_and, and_true, idxP0, idxL0, idxL1, atI_map (f := encRw) hri, hre, idx_row _ h2]
        rintro _ rfl
        simp only [WPx, cond_true, cond_false, List.getElem?_cons_succ, List.getElem?_cons_zero, List.set_cons_succ, List.set_cons_zero, List.map_cons, List.map_nil, Option.getD_some, List.nodup_nil, true_and, and_true, idxL0, inI_l, ninI_l]
        have stay : (pL R V false o.1 = pL R V true v) → ((R = R0 ∧ V = V0 ∧ ∀ k, k < j + 1 → ∀ o, os[k]? = some o → pL R V false o.1 = pL R V true o.2) ∨ (¬ Cl os (pL R0 V0) ∧ cnt os (pL R0 V0) < cnt os (pL R V))) := fun he => by
          rcases hc with ⟨e1, e2, h⟩ | h
          · refine .inl ⟨e1, e2, fun k hk o' ho' => ?_⟩
            by_cases hkj : k = j
            · subst hkj
              rw [hoj] at ho'
              cases ho'
              exact he
            · exact h k (by omega) o' ho'
          · exact .inr h
        have grow : ∀ R' V' : List Int, (∀ b i, pL R V b i = true → pL R' V' b i = true) → pL R V false o.1 ≠ pL R V true v → (pL R' V' false o.1 && pL R' V' true v) = true → cnt os (pL R V) < cnt os (pL R' V') ∧ (¬ Cl os (pL R0 V0) ∧ cnt os (pL R0 V0) < cnt os (pL R' V')) := fun R' V' hm hne hb => by
          have lt : cnt os (pL R V) < cnt os (pL R' V') := cnt_lt hm hoo (by
            cases ha : pL R V false o.1 <;> cases hb : pL R V true v
            · rfl
            · rfl
            · rfl
            · rw [ha, hb] at hne; exact absurd rfl hne) hb
          refine ⟨lt, ?_⟩
          rcases hc with ⟨e1, e2, h⟩ | ⟨h, h'⟩
          · refine ⟨notcl hne e1 e2, ?_⟩
            rw [← e1, ← e2]; exact lt
          · exact ⟨h, by omega⟩
        refine bif_split (fun q => ?_) fun q => ?_
        · refine bifN_split (fun q2 => ?_) fun q2 => ?_
          · have hcl' := cnt_le os (pL R (V ++ [v]))
            obtain ⟨g1, g2⟩ := grow R (V ++ [v]) pL_addV (by simp [pL, q, q2]) (by simp [pL, q])
            rw [appD_eq _ _ (by rw [encI_len]; exact lt_sl (by omega))]
            simp only [WPx, cond_true, cond_false, List.getElem?_cons_succ, List.getElem?_cons_zero, List.set_cons_succ, List.set_cons_zero, List.map_cons, List.map_nil, Option.getD_some, List.nodup_nil, true_and, and_true]
            refine ⟨R, V ++ [v], by rw [encI_app]; rfl, ⟨hs.st, fun b i h => ?_⟩, by simp; omega, .inr g2⟩
            cases b with
            | false => exact hs.rc _ _ h
            | true =>
              have h : i ∈ V ++ [v] := by simpa [pL] using h
              rcases List.mem_append.1 h with h | h
              · exact hs.rc _ _ (by simpa [pL] using h)
              · rw [List.mem_singleton.1 h]
                exact .v hoo (hs.rc _ _ (by simpa [pL] using q))
          · simp only [q2, decide_true, cond_true]
            rw [decide_eq_true q]
            simp only [Bool.not_true, cond_false, WPx, cond_true, cond_false, List.getElem?_cons_succ, List.getElem?_cons_zero, List.set_cons_succ, List.set_cons_zero, List.map_cons, List.map_nil, Option.getD_some, List.nodup_nil, true_and, and_true]
            exact ⟨R, V, rfl, hs, hlen, stay (by simp [pL, q, q2])⟩
        · refine bif_split (fun q2 => ?_) fun q2 => ?_
          · have hcl' := cnt_le os (pL (R ++ [(o.1 : Int)]) V)
            obtain ⟨g1, g2⟩ := grow (R ++ [(o.1 : Int)]) V pL_addR (by simp [pL, q, q2]) (by simp [pL, q2])
            rw [decide_eq_false q]
            simp only [Bool.not_false, cond_true, WPx, cond_true, cond_false, List.getElem?_cons_succ, List.getElem?_cons_zero, List.set_cons_succ, List.set_cons_zero, List.map_cons, List.map_nil, Option.getD_some, List.nodup_nil, true_and, and_true, idxL0]
            rw [appD_eq _ _ (by rw [encI_len]; exact lt_sl (by omega))]
            simp only [WPx, cond_true, cond_false, List.getElem?_cons_succ, List.getElem?_cons_zero, List.set_cons_succ, List.set_cons_zero, List.map_cons, List.map_nil, Option.getD_some, List.nodup_nil, true_and, and_true]
            refine ⟨R ++ [(o.1 : Int)], V, by rw [encI_app]; rfl, ⟨by have := hs.st; simp [pL] at this ⊢; simp [this], fun b i h => ?_⟩, by simp; omega, .inr g2⟩
            cases b with
            | true => exact hs.rc _ _ h
            | false =>
              have h : i ∈ R ++ [(o.1 : Int)] := by simpa [pL] using h
              rcases List.mem_append.1 h with h | h
              · exact hs.rc _ _ (by simpa [pL] using h)
              · rw [List.mem_singleton.1 h]
                exact .r (o := ((o.1 : Int), v)) hoo (hs.rc _ _ (by simpa [pL] using q2))
          · exact ⟨R, V, rfl, hs, hlen, stay (by simp [pL, q, q2])⟩
      · rintro s ⟨R, V, rfl, hs, hlen, hc⟩
        simp only [WPx, cond_true, cond_false, List.getElem?_cons_succ, List.getElem?_cons_zero, List.set_cons_succ, List.set_cons_zero, List.map_cons, List.map_nil, Option.getD_some, List.nodup_nil, true_and, and_true]
        refine ⟨_, R, V, rfl, .inr rfl, hs, hlen, ?_⟩
        rcases hc with ⟨e1, e2, h⟩ | ⟨h1, h2⟩
        · left
          intro o ho
          obtain ⟨k, hk, e⟩ := List.getElem_of_mem ho
          exact h k (by rw [List.length_map, ← hosl]; exact hk) o (by rw [← e]; exact List.getElem?_eq_getElem hk)
        · rcases hc0 with hc0 | hc0
          · exact absurd hc0 h1
          · right; omega
    · rintro s ⟨y, R, V, rfl, hy, hs, hlen, hc⟩
      rw [rgD_len] at hc
      simp only [WPx, cond_true, cond_false, List.getElem?_cons_succ, List.getElem?_cons_zero, List.set_cons_succ, List.set_cons_zero, List.map_cons, List.map_nil, Option.getD_some, List.nodup_nil, true_and, and_true]
      refine ⟨y, R, V, rfl, hs, ?_⟩
      rcases hc with hc | hc
      · exact hc
      · exact cl_of_cnt (by omega)
  rintro _ ⟨y, R, V, rfl, hs, hc⟩
  obtain ⟨r, v, h1, h2, h3, h4⟩ := mem_links hl
  have hri := (List.getElem?_eq_some_iff.mp h1).1
  have hre : p.rows[l.1] = r := (List.getElem?_eq_some_iff.mp h1).2
  simp only [WPx, cond_true, cond_false, List.getElem?_cons_succ, List.getElem?_cons_zero, List.set_cons_succ, List.set_cons_zero, List.map_cons, List.map_nil, Option.getD_some, List.nodup_nil, true_and, and_true, idxP0, idxL0, idxL1, atI_map (f := encRw) hri, hre, idx_row _ h2, inI_l]
  rw [← hos, ← hot] at hs hc
  have := ringB_of hc hs
  rw [h4] at this
  rw [← this]
  exact ⟨rfl, rfl⟩
end Ev
-- PJ
set_option Elab.async false
set_option linter.all false
set_option maxRecDepth 100000
set_option maxHeartbeats 4000000
namespace Ev
open PySem L2 PySem.W PyProof.Rows
/-! ## the program's paths -/
def encQ (k : Bool × Int) : D := .tup [.int (if k.1 then 1 else 0), .int k.2]
theorem kt_Q : KT encQ := ⟨fun k => by cases k with | mk b i => cases b <;> rfl, fun a b h => by
  obtain ⟨a1, a2⟩ := a
  obtain ⟨b1, b2⟩ := b
  unfold encQ at h
  simp only [D.tup.injEq, List.cons.injEq, D.int.injEq, and_true] at h
  cases a1 <;> cases b1 <;> simp at h <;> simp [h]⟩
abbrev Pth := List (Nat × Nat)
def encPth (l : Pth) : D := .lst (l.map encL)
abbrev PD := List ((Bool × Int) × Pth)
def pK (l : PD) : Bool → Int → Bool := fun b i => decide ((b, i) ∈ l.map (·.1))
theorem dget_mem {α β : Type} [DecidableEq α] {l : List (α × β)} {a : α} {b : β} (h : dget l a = some b) : (a, b) ∈ l := by
  unfold dget at h
  obtain ⟨p, hp, rfl⟩ := Option.map_eq_some_iff.mp h
  have h1 := List.mem_of_find?_eq_some hp
  have h2 := List.find?_some hp
  have h2 : p.1 = a := by simpa using h2
  rw [← h2]; exact h1
theorem dget_of_mem {α β : Type} [DecidableEq α] {l : List (α × β)} {a : α} (h : a ∈ l.map (·.1)) : ∃ b, dget l a = some b := by
  have := dget_some l a
  rw [decide_eq_true h] at this
  exact Option.isSome_iff_exists.mp this
theorem dset_new {α β : Type} [DecidableEq α] {l : List (α × β)} {a : α} (b : β) (h : a ∉ l.map (·.1)) : dset l a b = l ++ [(a, b)] := by unfold dset; rw [if_neg h]
structure PInv (os : List (Int × Int)) (r0 : Int) (l : PD) : Prop where
  snd : Snd os r0 (pK l)
  len : l.length ≤ 1 + cnt os (pK l)
  pth : ∀ p ∈ l, p.2.length < l.length
theorem pK_add {l : PD} {k : Bool × Int} {q : Pth} : ∀ b i, pK l b i = true → pK (l ++ [(k, q)]) b i = true := fun b i h => by
  unfold pK at h ⊢
  rw [decide_eq_true_eq] at h ⊢
  rw [List.map_append]; exact List.mem_append.2 (.inl h)
theorem PInv.add {os : List (Int × Int)} {r0 : Int} {l : PD} (h : PInv os r0 l) (k : Bool × Int) (q : Pth) (hq : q.length ≤ l.length) (hr : Rc os r0 k.1 k.2) (hc : cnt os (pK l) < cnt os (pK (l ++ [(k, q)]))) : PInv os r0 (l ++ [(k, q)]) where
  snd := ⟨pK_add _ _ h.snd.st, fun b i hb => by
    unfold pK at hb
    rw [decide_eq_true_eq, List.map_append, List.mem_append] at hb
    rcases hb with hb | hb
    · exact h.snd.rc _ _ (by unfold pK; rw [decide_eq_true hb])
    · have e : (b, i) = k := by simpa using hb
      rw [← e] at hr; exact hr⟩
  len := by have := h.len; rw [List.length_append, List.length_singleton]; omega
  pth p hp := by
    rw [List.length_append, List.length_singleton]
    rcases List.mem_append.1 hp with hp | hp
    · have := h.pth p hp; omega
    · rw [List.mem_singleton.1 hp]; show q.length < _; omega
theorem addPth (a : Pth) (b : Nat × Nat) (h : a.length + 1 ≤ 1000000) : addD (encPth a) (.lst [encL b]) = some (.lst ((a ++ [b]).map encL)) := by
  show (if fits _ then _ else none) = _
  rw [if_pos (fits_le (by simpa using h)), List.map_append]; rfl
theorem paths_ok (S : D) (p : Pn) (l : Nat × Nat) (hl : l ∈ linksOf p.rows p.head) (hz : p.rows.length ≤ 1000) (hw : ∀ r ∈ p.rows, r.2.length ≤ 4) :
    wpF f_paths_without [.fz (encPat S p), .fz (encL l)] fun r os => ∃ d : PD, r = .dct true (encK encQ encPth d) ∧ os = [.no, .no] ∧ PInv (prs p.rows (othersOf p.rows p.head l)) l.1 d ∧ Cl (prs p.rows (othersOf p.rows p.head l)) (pK d) := by
  refine wp_fun [.fz (encPat S p), .fz (encL l), .no, .no, .no, .no, .no, .no] ?_
  unfold b_paths_without
  generalize hot : othersOf p.rows p.head l = ot
  have hotl := others_len p hw l
  rw [hot] at hotl
  refine wp_cut (fun s => s = [.fz (encPat S p), .fz (encL l), .lst (ot.map encL), .no, .no, .no, .no, .no]) ?_ ?_
  · rw [wp_setS]
    refine filter_lc (enc := encL) 3 _ _ [.fz (encPat S p), .fz (encL l), .no, .no, .no, .no, .no, .no] (linksOf p.rows p.head) (fun o => !decide (o = l)) _ ?_ (by have := links_len p hw; omega) (by simp) ?_ ?_
    · simp only [WPx, cond_true, cond_false, List.getElem?_cons_succ, List.getElem?_cons_zero, List.set_cons_succ, List.set_cons_zero, List.map_cons, List.map_nil, Option.getD_some, List.nodup_nil, true_and, and_true]
      refine (links_ok S p hz hw).mono ?_
      rintro r os ⟨rfl, rfl⟩
      simp only [WPx, cond_true, cond_false, List.getElem?_cons_succ, List.getElem?_cons_zero, List.set_cons_succ, List.set_cons_zero, List.map_cons, List.map_nil, Option.getD_some, List.nodup_nil, true_and, and_true]
    · intro o ho Q hQ
      simp only [List.set_cons_succ, List.set_cons_zero] at hQ ⊢
      simp only [WPx, cond_true, cond_false, List.getElem?_cons_succ, List.getElem?_cons_zero, List.set_cons_succ, List.set_cons_zero, List.map_cons, List.map_nil, Option.getD_some, List.nodup_nil, true_and, and_true, eq_link.ne_]
      exact hQ
    · simp only [WPx, cond_true, cond_false, List.getElem?_cons_succ, List.getElem?_cons_zero, List.set_cons_succ, List.set_cons_zero, List.map_cons, List.map_nil, Option.getD_some, List.nodup_nil, true_and, and_true]
      rw [← hot]; rfl
  rintro _ rfl
  refine wp_cut (fun s => s = [.fz (encPat S p), .fz (encL l), .lst (ot.map encL), .no, .dct true (encK encQ encPth [((false, (l.1 : Int)), ([] : Pth))]), .no, .no, .no]) ?_ ?_
  · simp only [WPx, cond_true, cond_false, List.getElem?_cons_succ, List.getElem?_cons_zero, List.set_cons_succ, List.set_cons_zero, List.map_cons, List.map_nil, Option.getD_some, List.nodup_nil, true_and, and_true, idxL0]
    exact ⟨fits_le (by simp), fits_le (by simp), rfl, rfl⟩
  rintro _ rfl
  refine wp_cut (fun s => s = [.fz (encPat S p), .fz (encL l), .lst (ot.map encL), .no, .dct true (encK encQ encPth [((false, (l.1 : Int)), ([] : Pth))]), .fz (.bl true), .no, .no]) (by simp only [WPx, cond_true, cond_false, List.getElem?_cons_succ, List.getElem?_cons_zero, List.set_cons_succ, List.set_cons_zero, List.map_cons, List.map_nil, Option.getD_some, List.nodup_nil, true_and, and_true]) ?_
  rintro _ rfl
  generalize hos : prs p.rows ot = os
  have hosl : os.length = ot.length := by rw [← hos]; unfold prs; simp
  have i0 : PInv os l.1 [((false, (l.1 : Int)), ([] : Pth))] := ⟨⟨by simp [pK], fun b i h => by
    have h : b = false ∧ i = l.1 := by simpa [pK] using h
    rw [h.1, h.2]; exact .st⟩, by simp, by simp⟩
  refine wp_cut (fun s => ∃ (y : O) (d : PD), s = [.fz (encPat S p), .fz (encL l), y, .no, .dct true (encK encQ encPth d), .fz (.bl false), .no, .no] ∧ PInv os l.1 d ∧ Cl os (pK d)) ?_ ?_
  · refine wp_while (fun n s => ∃ (y : O) (d : PD) (g : Bool), n = 2 * (os.length - cnt os (pK d)) + (if g then 1 else 0) ∧ s = [.fz (encPat S p), .fz (encL l), y, .no, .dct true (encK encQ encPth d), .fz (.bl g), .no, .no] ∧ (y = .lst (ot.map encL) ∨ y = .fz (.lst (ot.map encL))) ∧ PInv os l.1 d ∧ (g = false → Cl os (pK d))) _
      ⟨_, _, true, rfl, rfl, .inl rfl, i0, fun h => by cases h⟩ ?_
    rintro n s ⟨y, d0, g, rfl, rfl, hy, hi0, hg⟩
    have ev : O.view y = some (.lst (ot.map encL)) := by rcases hy with rfl | rfl <;> rfl
    have hcl0 := cnt_le os (pK d0)
    simp only [wp_tstU, wp_varB, List.getElem?_cons_succ, List.getElem?_cons_zero, getB_fz, opR_fz, vw_fz, bind_some', truD_bl, oP_some]
    cases g with
    | false =>
      simp only [cond_false, nxP_nx]
      exact ⟨y, d0, rfl, hi0, hg rfl⟩
    | true =>
      simp only [cond_true]
      refine wp_cut (fun s => s = [.fz (encPat S p), .fz (encL l), y, .no, .dct true (encK encQ encPth d0), .fz (.bl false), .no, .no]) (by simp only [WPx, cond_true, cond_false, List.getElem?_cons_succ, List.getElem?_cons_zero, List.set_cons_succ, List.set_cons_zero, List.map_cons, List.map_nil, Option.getD_some, List.nodup_nil, true_and, and_true]) ?_
      rintro _ rfl
      refine wp_for (ot.map encL) [.fz (encPat S p), .fz (encL l), .fz (.lst (ot.map encL)), .no, .dct true (encK encQ encPth d0), .fz (.bl false), .no, .no] (by simp only [WPx, cond_true, cond_false, List.getElem?_cons_succ, List.getElem?_cons_zero, List.set_cons_succ, List.set_cons_zero, List.map_cons, List.map_nil, Option.getD_some, List.nodup_nil, true_and, and_true, ev])
        (fun j s => ∃ (d : PD) (g : Bool), s = [.fz (encPat S p), .fz (encL l), .fz (.lst (ot.map encL)), .no, .dct true (encK encQ encPth d), .fz (.bl g), .no, .no] ∧ PInv os l.1 d ∧
          ((g = false ∧ d = d0 ∧ ∀ k, k < j → ∀ o, os[k]? = some o → pK d false o.1 = pK d true o.2) ∨ (g = true ∧ cnt os (pK d0) < cnt os (pK d))))
        ⟨d0, false, rfl, hi0, .inl ⟨rfl, rfl, fun k hk => by omega⟩⟩ ?_ ?_
      · rintro j d' s hj ⟨d, g, rfl, hi, hc⟩
        obtain ⟨o, ho, rfl⟩ := map_get hj
        have hom : o ∈ ot := List.mem_of_getElem? ho
        have hol : o ∈ linksOf p.rows p.head := mem_others (l := l) (by rw [hot]; exact hom)
        generalize hv : linkV p.rows o = v
        have hoj : os[j]? = some ((o.1 : Int), v) := by rw [← hos]; unfold prs; rw [List.getElem?_map, ho, ← hv]; rfl
        have hoo : ((o.1 : Int), v) ∈ os := List.mem_of_getElem? hoj
        have hcl := cnt_le os (pK d)
        have hdl := hi.len
        simp only [nameT_eq, oP_some, List.set_cons_succ, List.set_cons_zero]
        refine wp_cut (fun s => s = [.fz (encPat S p), .fz (encL l), .fz (.lst (ot.map encL)), .fz (encL o), .dct true (encK encQ encPth d), .fz (.bl g), .fz (encQ (false, (o.1 : Int))), .no]) ?_ ?_
        · simp only [WPx, cond_true, cond_false, List.getElem?_cons_succ, List.getElem?_cons_zero, List.set_cons_succ, List.set_cons_zero, List.map_cons, List.map_nil, Option.getD_some, List.nodup_nil, true_and, and_true, idxL0]
          exact ⟨fits_le (by simp), rfl⟩
        rintro _ rfl
        refine wp_cut (fun s => s = [.fz (encPat S p), .fz (encL l), .fz (.lst (ot.map encL)), .fz (encL o), .dct true (encK encQ encPth d), .fz (.bl g), .fz (encQ (false, (o.1 : Int))), .fz (encQ (true, v))]) ?_ ?_
        · simp only [WPx, cond_true, cond_false, List.getElem?_cons_succ, List.getElem?_cons_zero, List.set_cons_succ, List.set_cons_zero, List.map_cons, List.map_nil, Option.getD_some, List.nodup_nil, true_and, and_true]
          refine (link_value_ok S p o hol).mono ?_
          rintro r os ⟨rfl, rfl⟩
          rw [hv]
          simp only [WPx, cond_true, cond_false, List.getElem?_cons_succ, List.getElem?_cons_zero, List.set_cons_succ, List.set_cons_zero, List.map_cons, List.map_nil, Option.getD_some, List.nodup_nil, true_and, and_true]
          exact ⟨fits_le (by simp), rfl⟩
        rintro _ rfl
        have stay : (pK d false o.1 = pK d true v) → ((g = false ∧ d = d0 ∧ ∀ k, k < j + 1 → ∀ o, os[k]? = some o → pK d false o.1 = pK d true o.2) ∨ (g = true ∧ cnt os (pK d0) < cnt os (pK d))) := fun he => by
          rcases hc with ⟨e1, e2, h⟩ | h
          · refine .inl ⟨e1, e2, fun k hk o' ho' => ?_⟩
            by_cases hkj : k = j
            · subst hkj
              rw [hoj] at ho'
              cases ho'
              exact he
            · exact h k (by omega) o' ho'
          · exact .inr h
        have grow : ∀ (k : Bool × Int) (q : Pth), pK d false o.1 ≠ pK d true v → (pK (d ++ [(k, q)]) false o.1 && pK (d ++ [(k, q)]) true v) = true → cnt os (pK d) < cnt os (pK (d ++ [(k, q)])) ∧ cnt os (pK d0) < cnt os (pK (d ++ [(k, q)])) := fun k q hne hb => by
          have lt : cnt os (pK d) < cnt os (pK (d ++ [(k, q)])) := cnt_lt pK_add hoo (by
            cases ha : pK d false o.1 <;> cases hb : pK d true v
            · rfl
            · rfl
            · rfl
            · rw [ha, hb] at hne; exact absurd rfl hne) hb
          refine ⟨lt, ?_⟩
          rcases hc with ⟨e1, e2, h⟩ | ⟨h, h'⟩
          · rw [← e2]; exact lt
          · omega
        have step : ∀ (k k' : Bool × Int), k ∈ d.map (·.1) → k' ∉ d.map (·.1) → Rc os l.1 k'.1 k'.2 → pK d false o.1 ≠ pK d true v → (∀ q, (pK (d ++ [(k', q)]) false o.1 && pK (d ++ [(k', q)]) true v) = true) →
            ∃ pth : Pth, dget d k = some pth ∧ pth.length + 1 ≤ 1000000 ∧ PInv os l.1 (dset d k' (pth ++ [o])) ∧ cnt os (pK d0) < cnt os (pK (dset d k' (pth ++ [o]))) := fun k k' hk hk' hr hne hb => by
          obtain ⟨pth, hp⟩ := dget_of_mem hk
          have hpl := hi.pth _ (dget_mem hp)
          have hpl : pth.length < d.length := hpl
          obtain ⟨g1, g2⟩ := grow k' (pth ++ [o]) hne (hb _)
          refine ⟨pth, hp, by omega, ?_⟩
          rw [dset_new _ hk']
          exact ⟨hi.add _ _ (by simp; omega) hr g1, g2⟩
        simp only [wp_ifS, wp_tAn, wp_tstB, wp_prim2, wp_varB, List.getElem?_cons_succ, List.getElem?_cons_zero, getB_fz, getB_dct, opR_fz, opR_bor, vw_fz, vw_bor, bind_some', view_dct, kt_Q.in_, kt_Q.nin_, resO_fz, bP_bl]
        have fin : pK d false o.1 = pK d true v → trP [3, 6, 7] (fun s => ∃ (d : PD) (g : Bool), s = [.fz (encPat S p), .fz (encL l), .fz (.lst (ot.map encL)), .no, .dct true (encK encQ encPth d), .fz (.bl g), .no, .no] ∧ PInv os l.1 d ∧
          ((g = false ∧ d = d0 ∧ ∀ k, k < j + 1 → ∀ o, os[k]? = some o → pK d false o.1 = pK d true o.2) ∨ (g = true ∧ cnt os (pK d0) < cnt os (pK d)))) (fun _ _ => False) .nx [.fz (encPat S p), .fz (encL l), .fz (.lst (ot.map encL)), .fz (encL o), .dct true (encK encQ encPth d), .fz (.bl g), .fz (encQ (false, (o.1 : Int))), .fz (encQ (true, v))] := fun he => by
          simp only [WPx, cond_true, cond_false, List.getElem?_cons_succ, List.getElem?_cons_zero, List.set_cons_succ, List.set_cons_zero, List.map_cons, List.map_nil, Option.getD_some, List.nodup_nil, true_and, and_true]
          exact ⟨d, g, rfl, hi, stay he⟩
        refine bif_split (fun q => ?_) fun q => ?_
        · refine bifN_split (fun q2 => ?_) fun q2 => ?_
          · obtain ⟨pth, hp, hpl, hi', hc'⟩ := step (false, (o.1 : Int)) (true, v) q q2 (.v hoo (hi.snd.rc _ _ (by unfold pK; rw [decide_eq_true q]))) (by unfold pK; rw [decide_eq_true q, decide_eq_false q2]; decide) (fun q' => by simp [pK]; simpa using q)
            simp only [WPx, cond_true, cond_false, List.getElem?_cons_succ, List.getElem?_cons_zero, List.set_cons_succ, List.set_cons_zero, List.map_cons, List.map_nil, Option.getD_some, List.nodup_nil, true_and, and_true, kt_Q.get, hp]
            rw [addPth pth o (by omega)]
            refine ⟨fits_le (by simp), ?_⟩
            simp only [WPx, cond_true, cond_false, List.getElem?_cons_succ, List.getElem?_cons_zero, List.set_cons_succ, List.set_cons_zero, List.map_cons, List.map_nil, Option.getD_some, List.nodup_nil, true_and, and_true]
            have ep : D.lst ((pth ++ [o]).map encL) = encPth (pth ++ [o]) := rfl
            rw [ep, kt_Q.put _ _ _ (by omega)]
            simp only [WPx, cond_true, cond_false, List.getElem?_cons_succ, List.getElem?_cons_zero, List.set_cons_succ, List.set_cons_zero, List.map_cons, List.map_nil, Option.getD_some, List.nodup_nil, true_and, and_true]
            exact ⟨_, true, rfl, hi', .inr ⟨rfl, hc'⟩⟩
          · refine bif_split (fun _ => ?_) fun h => absurd q2 h
            refine bifN_split (fun h => absurd q h) fun _ => ?_
            simp only [WPx, cond_true, cond_false, List.getElem?_cons_succ, List.getElem?_cons_zero, List.set_cons_succ, List.set_cons_zero, List.map_cons, List.map_nil, Option.getD_some, List.nodup_nil, true_and, and_true]
            exact ⟨d, g, rfl, hi, stay (by unfold pK; rw [decide_eq_true q, decide_eq_true q2])⟩
        · refine bif_split (fun q2 => ?_) fun q2 => ?_
          · refine bifN_split (fun _ => ?_) fun h => absurd h q
            obtain ⟨pth, hp, hpl, hi', hc'⟩ := step (true, v) (false, (o.1 : Int)) q2 q (.r (o := ((o.1 : Int), v)) hoo (hi.snd.rc _ _ (by unfold pK; rw [decide_eq_true q2]))) (by unfold pK; rw [decide_eq_true q2, decide_eq_false q]; decide) (fun q' => by simp [pK]; simpa using q2)
            simp only [WPx, cond_true, cond_false, List.getElem?_cons_succ, List.getElem?_cons_zero, List.set_cons_succ, List.set_cons_zero, List.map_cons, List.map_nil, Option.getD_some, List.nodup_nil, true_and, and_true, kt_Q.get, hp]
            rw [addPth pth o (by omega)]
            refine ⟨fits_le (by simp), ?_⟩
            simp only [WPx, cond_true, cond_false, List.getElem?_cons_succ, List.getElem?_cons_zero, List.set_cons_succ, List.set_cons_zero, List.map_cons, List.map_nil, Option.getD_some, List.nodup_nil, true_and, and_true]
            have ep : D.lst ((pth ++ [o]).map encL) = encPth (pth ++ [o]) := rfl
            rw [ep, kt_Q.put _ _ _ (by omega)]
            simp only [WPx, cond_true, cond_false, List.getElem?_cons_succ, List.getElem?_cons_zero, List.set_cons_succ, List.set_cons_zero, List.map_cons, List.map_nil, Option.getD_some, List.nodup_nil, true_and, and_true]
            exact ⟨_, true, rfl, hi', .inr ⟨rfl, hc'⟩⟩
          · simp only [WPx, cond_true, cond_false, List.getElem?_cons_succ, List.getElem?_cons_zero, List.set_cons_succ, List.set_cons_zero, List.map_cons, List.map_nil, Option.getD_some, List.nodup_nil, true_and, and_true]
            exact ⟨d, g, rfl, hi, stay (by unfold pK; rw [decide_eq_false q, decide_eq_false q2])⟩
      · rintro s ⟨d, g, rfl, hi, hc⟩
        rw [List.length_map] at hc
        have hcl := cnt_le os (pK d)
        simp only [WPx, cond_true, cond_false, List.getElem?_cons_succ, List.getElem?_cons_zero, List.set_cons_succ, List.set_cons_zero, List.map_cons, List.map_nil, Option.getD_some, List.nodup_nil, true_and, and_true]
        rcases hc with ⟨rfl, rfl, h⟩ | ⟨rfl, h⟩
        · refine ⟨_, ?_, _, d, false, rfl, rfl, .inr rfl, hi, fun _ o ho => ?_⟩
          · simp
          · obtain ⟨k, hk, e⟩ := List.getElem_of_mem ho
            exact h k (by rw [← hosl]; exact hk) o (by rw [← e]; exact List.getElem?_eq_getElem hk)
        · refine ⟨_, ?_, _, d, true, rfl, rfl, .inr rfl, hi, fun h => by cases h⟩
          simp only [if_true]
          omega
  rintro _ ⟨y, d, rfl, hi, hc⟩
  simp only [WPx, cond_true, cond_false, List.getElem?_cons_succ, List.getElem?_cons_zero, List.set_cons_succ, List.set_cons_zero, List.map_cons, List.map_nil, Option.getD_some, List.nodup_nil, true_and, and_true]
  exact ⟨d, rfl, rfl, hi, hc⟩
theorem is_ring_ok (S : D) (p : Pn) (l : Nat × Nat) (hl : l ∈ linksOf p.rows p.head) (hz : p.rows.length ≤ 1000) (hw : ∀ r ∈ p.rows, r.2.length ≤ 4) :
    wpF f_is_ring_link [.fz (encPat S p), .fz (encL l)] fun r os => r = .fz (.bl (ringB p.rows p.head l)) ∧ os = [.no, .no] := by
  refine wp_fun [.fz (encPat S p), .fz (encL l)] ?_
  unfold b_is_ring_link
  simp only [WPx, cond_true, cond_false, List.getElem?_cons_succ, List.getElem?_cons_zero, List.set_cons_succ, List.set_cons_zero, List.map_cons, List.map_nil, Option.getD_some, List.nodup_nil, true_and, and_true]
  refine (link_value_ok S p l hl).mono ?_
  rintro r os ⟨rfl, rfl⟩
  simp only [WPx, cond_true, cond_false, List.getElem?_cons_succ, List.getElem?_cons_zero, List.set_cons_succ, List.set_cons_zero, List.map_cons, List.map_nil, Option.getD_some, List.nodup_nil, true_and, and_true]
  refine ⟨fits_le (by simp), ?_⟩
  refine (paths_ok S p l hl hz hw).mono ?_
  rintro r os ⟨d, rfl, rfl, hi, hc⟩
  have ek : D.tup [.int 1, .int (linkV p.rows l)] = encQ (true, linkV p.rows l) := rfl
  have := ringB_of hc hi.snd
  unfold pK at this
  simp only [WPx, cond_true, cond_false, List.getElem?_cons_succ, List.getElem?_cons_zero, List.set_cons_succ, List.set_cons_zero, List.map_cons, List.map_nil, Option.getD_some, List.nodup_nil, true_and, and_true]
  rw [ek, kt_Q.in_]
  simp only [WPx, cond_true, cond_false, List.getElem?_cons_succ, List.getElem?_cons_zero, List.set_cons_succ, List.set_cons_zero, List.map_cons, List.map_nil, Option.getD_some, List.nodup_nil, true_and, and_true]
  refine ⟨?_, rfl⟩
  rw [← this]
  congr
theorem ring_links_ok (S : D) (p : Pn) (hz : p.rows.length ≤ 1000) (hw : ∀ r ∈ p.rows, r.2.length ≤ 4) :
    wpF f_ring_links [.fz (encPat S p)] fun r os => r = .lst (((linksOf p.rows p.head).filter (ringB p.rows p.head)).map encL) ∧ os = [.no] := by
  refine wp_fun [.fz (encPat S p), .no] ?_
  unfold b_ring_links
  rw [wp_retS]
  refine filter_lc (enc := encL) 1 _ _ [.fz (encPat S p), .no] (linksOf p.rows p.head) (ringB p.rows p.head) _ ?_ (by have := links_len p hw; omega) (by simp) ?_ ?_
  · simp only [WPx, cond_true, cond_false, List.getElem?_cons_succ, List.getElem?_cons_zero, List.set_cons_succ, List.set_cons_zero, List.map_cons, List.map_nil, Option.getD_some, List.nodup_nil, true_and, and_true]
    refine (links_ok S p hz hw).mono ?_
    rintro r os ⟨rfl, rfl⟩
    simp only [WPx, cond_true, cond_false, List.getElem?_cons_succ, List.getElem?_cons_zero, List.set_cons_succ, List.set_cons_zero, List.map_cons, List.map_nil, Option.getD_some, List.nodup_nil, true_and, and_true]
  · intro o ho Q hQ
    simp only [List.set_cons_succ, List.set_cons_zero] at hQ ⊢
    simp only [WPx, cond_true, cond_false, List.getElem?_cons_succ, List.getElem?_cons_zero, List.set_cons_succ, List.set_cons_zero, List.map_cons, List.map_nil, Option.getD_some, List.nodup_nil, true_and, and_true]
    refine (is_ring_ok S p o ho hz hw).mono ?_
    rintro r os ⟨rfl, rfl⟩
    simp only [WPx, cond_true, cond_false, List.getElem?_cons_succ, List.getElem?_cons_zero, List.set_cons_succ, List.set_cons_zero, List.map_cons, List.map_nil, Option.getD_some, List.nodup_nil, true_and, and_true, truD_bl]
    exact hQ
  · simp only [WPx, cond_true, cond_false, List.getElem?_cons_succ, List.getElem?_cons_zero, List.set_cons_succ, List.set_cons_zero, List.map_cons, List.map_nil, Option.getD_some, List.nodup_nil, true_and, and_true]
    exact rfl
end Ev
-- PK
set_option Elab.async false
set_option linter.all false
set_option maxRecDepth 100000
set_option maxHeartbeats 4000000
namespace Ev
open PySem L2 PySem.W PyProof.Rows
theorem parRs_nil (s : List O) : parRs s [] = some [] := nr rfl
theorem parRs_cons (s : List O) (r : Rs) (rs : List Rs) : parRs s (r :: rs) = (parR s r).bind fun o => (parRs s rs).bind fun os => some (o :: os) := by
  rw [parRs]
  cases h : parR s r <;> cases h2 : parRs s rs <;> rfl
theorem parR_fz (s : List O) (d : D) : parR s (.fz d) = some (.fz d) := nr rfl
theorem parR_bor (s : List O) (i : Nat) : parR s (.bor i) = ((s[i]?).bind O.view).map .fz := nr rfl
/-! ## plain data for _law_same -/
theorem pl_ints (n : Nat) (vs : List Int) : PlL (n + 1) (encI vs) := .of fun d hd => by
  obtain ⟨a, _, rfl⟩ := List.mem_map.1 hd
  exact .int a
theorem pl_row {n : Nat} (r : Rw) (h : r.2.length ≤ 1000) : PlD (n + 2) (encRw r) := .tup (.cons (.str _) (pl_ints n _)) (by rw [List.length_cons, encI_len]; omega)
theorem pl_rows {n : Nat} (rows : List Rw) (hr : ∀ r ∈ rows, r.2.length ≤ 1000) : PlL (n + 2) (rows.map encRw) := .of fun d hd => by
  obtain ⟨a, ha, rfl⟩ := List.mem_map.1 hd
  exact pl_row a (hr a ha)
theorem pl_links {n : Nat} (ls : List (Nat × Nat)) : PlL (n + 2) (ls.map encL) := .of fun d hd => by
  obtain ⟨a, ha, rfl⟩ := List.mem_map.1 hd
  exact .tup (.cons (.int _) (.cons (.int _) .nil)) (by simp)
theorem law_is_ok (S : D) (p : Pn) (hz : p.rows.length ≤ 1000) (hw : ∀ r ∈ p.rows, r.2.length ≤ 4) (hh : p.head.length ≤ 1000) : wpF f_law_is [.fz (encPat S p), .fz (encP p)] fun r os => r = .fz (.bl true) ∧ os = [.no, .no] := by
  refine wp_fun [.fz (encPat S p), .fz (encP p)] ?_
  unfold b_law_is
  have k1 : PlD 4 (.tup (p.rows.map encRw)) := .tup (pl_rows _ fun r hr => by have := hw r hr; omega) (by rw [List.length_map]; omega)
  have k2 : PlD 4 (.tup (encI p.head)) := .tup (pl_ints _ _) (by rw [encI_len]; omega)
  refine wp_cut (fun s => s = [.fz (encPat S p), .fz (encP p)]) ?_ ?_
  · simp only [WPx, cond_true, cond_false, List.getElem?_cons_succ, List.getElem?_cons_zero, List.set_cons_succ, List.set_cons_zero, List.map_cons, List.map_nil, Option.getD_some, List.nodup_nil, true_and, and_true, fldP_rows, fldP_head, idxP0, idxP1]
    refine (same_ok 4 _ _ k1 k1).mono ?_
    rintro r os ⟨rfl, rfl⟩
    rw [decide_eq_true rfl]
    simp only [WPx, cond_true, cond_false, List.getElem?_cons_succ, List.getElem?_cons_zero, List.set_cons_succ, List.set_cons_zero, List.map_cons, List.map_nil, Option.getD_some, List.nodup_nil, true_and, and_true, truD_bl, Bool.not_true, fldP_rows, fldP_head, idxP0, idxP1]
    refine (same_ok 4 _ _ k2 k2).mono ?_
    rintro r os ⟨rfl, rfl⟩
    rw [decide_eq_true rfl]
    simp only [WPx, cond_true, cond_false, List.getElem?_cons_succ, List.getElem?_cons_zero, List.set_cons_succ, List.set_cons_zero, List.map_cons, List.map_nil, Option.getD_some, List.nodup_nil, true_and, and_true, truD_bl, Bool.not_true]
  rintro _ rfl
  simp only [WPx, cond_true, cond_false, List.getElem?_cons_succ, List.getElem?_cons_zero, List.set_cons_succ, List.set_cons_zero, List.map_cons, List.map_nil, Option.getD_some, List.nodup_nil, true_and, and_true, fldP_size, idxP2]
  refine (same_ok 4 _ _ (.int _) (.int _)).mono ?_
  rintro r os ⟨rfl, rfl⟩
  rw [decide_eq_true rfl]
  simp only [WPx, cond_true, cond_false, List.getElem?_cons_succ, List.getElem?_cons_zero, List.set_cons_succ, List.set_cons_zero, List.map_cons, List.map_nil, Option.getD_some, List.nodup_nil, true_and, and_true]
  exact rfl
theorem Pn.Ok.used {p : Pn} (h : p.Ok) : ∀ v, v ∈ usedV p.rows p.head ↔ 0 ≤ v ∧ v < (p.size : Int) := fun v => by
  rw [mem_usedV]
  constructor
  · rintro (k | ⟨r, hr, k⟩)
    · exact h.hv v k
    · exact h.rv r hr v k
  · rintro ⟨h1, h2⟩
    have := h.gap v.toNat (by omega)
    rwa [show ((v.toNat : Nat) : Int) = v by omega] at this
theorem right_ok {ts : List Tb} {m : List Nm} (h : Sch ts m) (p : Pn) (ho : p.Ok) (hr : ∀ r ∈ p.rows, ∃ t ∈ ts, r.1 = t.1 ∧ r.2.length = t.2) (hh : p.head.length ≤ 4) (hz : p.rows.length ≤ 600) (hs : p.size ≤ 300) :
    wpF f_law_right [.fz (encS ts m), .fz (encP p)] fun r os => r = .fz (.bl true) ∧ os = [.no, .no] := by
  have hw : ∀ r ∈ p.rows, r.2.length ≤ 4 := fun r hr' => by
    obtain ⟨t, ht, _, e⟩ := hr r hr'
    rw [e]; exact (h.w t ht).2
  refine wp_fun [.fz (encS ts m), .fz (encP p), .no, .no, .no, .no] ?_
  unfold b_law_right
  refine wp_cut (fun s => s = [.fz (encS ts m), .fz (encP p), .ins "Pattern" (pfs (encS ts m) p.rows p.head p.size), .no, .no, .no]) ?_ ?_
  · rw [wp_setS]
    refine wp_makeS _ _ _ _ _ ?_
    simp only [WPx, cond_true, cond_false, List.getElem?_cons_succ, List.getElem?_cons_zero, List.set_cons_succ, List.set_cons_zero, List.map_cons, List.map_nil, Option.getD_some, List.nodup_nil, true_and, and_true, idxP0, idxP1]
    refine (pattern_ok h p.rows p.head p.size p.rows _ _ (iterD_lst _) ⟨iterD_tup _, tupleD_tup _, by rw [lenD_tup, encI_len]⟩ hr ho.used hh (by omega) hs ho.srt (fun _ => Iff.rfl) hz).mono ?_
    rintro r os ⟨rfl, rfl⟩
    refine ⟨rfl, ?_⟩
    simp only [WPx, cond_true, cond_false, List.getElem?_cons_succ, List.getElem?_cons_zero, List.set_cons_succ, List.set_cons_zero, List.map_cons, List.map_nil, Option.getD_some, List.nodup_nil, true_and, and_true]
  rintro _ rfl
  have ep : D.ins "Pattern" (pfs (encS ts m) p.rows p.head p.size) = encPat (encS ts m) p := rfl
  have hll := links_len p hw
  generalize hdue : (linksOf p.rows p.head).filter (ringB p.rows p.head) = due
  have hdl : due.length ≤ 4 * p.rows.length := by
    rw [← hdue]; exact Nat.le_trans (List.length_filter_le _ _) hll
  refine wp_cut (fun s => s = [.fz (encS ts m), .fz (encP p), .ins "Pattern" (pfs (encS ts m) p.rows p.head p.size), .lst (due.map encL), .no, .no]) ?_ ?_
  · rw [wp_setS]
    refine filter_lc (enc := encL) 4 _ _ [.fz (encS ts m), .fz (encP p), .ins "Pattern" (pfs (encS ts m) p.rows p.head p.size), .no, .no, .no] (linksOf p.rows p.head) (ringB p.rows p.head) _ ?_ (by omega) (by simp) ?_ ?_
    · simp only [WPx, cond_true, cond_false, List.getElem?_cons_succ, List.getElem?_cons_zero, List.set_cons_succ, List.set_cons_zero, List.map_cons, List.map_nil, Option.getD_some, List.nodup_nil, true_and, and_true]
      refine (law_links_ok p (by omega) hw).mono ?_
      rintro r os ⟨rfl, rfl⟩
      simp only [WPx, cond_true, cond_false, List.getElem?_cons_succ, List.getElem?_cons_zero, List.set_cons_succ, List.set_cons_zero, List.map_cons, List.map_nil, Option.getD_some, List.nodup_nil, true_and, and_true]
    · intro o ho Q hQ
      simp only [List.set_cons_succ, List.set_cons_zero] at hQ ⊢
      simp only [WPx, cond_true, cond_false, List.getElem?_cons_succ, List.getElem?_cons_zero, List.set_cons_succ, List.set_cons_zero, List.map_cons, List.map_nil, Option.getD_some, List.nodup_nil, true_and, and_true]
      refine (law_ring_ok p o ho (by omega) hw).mono ?_
      rintro r os ⟨rfl, rfl⟩
      simp only [WPx, cond_true, cond_false, List.getElem?_cons_succ, List.getElem?_cons_zero, List.set_cons_succ, List.set_cons_zero, List.map_cons, List.map_nil, Option.getD_some, List.nodup_nil, true_and, and_true, truD_bl]
      exact hQ
    · simp only [WPx, cond_true, cond_false, List.getElem?_cons_succ, List.getElem?_cons_zero, List.set_cons_succ, List.set_cons_zero, List.map_cons, List.map_nil, Option.getD_some, List.nodup_nil, true_and, and_true, hdue]
  rintro _ rfl
  refine wp_cut (fun s => s = [.fz (encS ts m), .fz (encP p), .fz (encPat (encS ts m) p), .lst (due.map encL), .no, .lst (due.map encL)]) ?_ ?_
  · simp only [WPx, cond_true, cond_false, List.getElem?_cons_succ, List.getElem?_cons_zero, List.set_cons_succ, List.set_cons_zero, List.map_cons, List.map_nil, Option.getD_some, List.nodup_nil, true_and, and_true]
    rw [ep]
    refine (ring_links_ok _ p (by omega) hw).mono ?_
    rintro r os ⟨rfl, rfl⟩
    simp only [WPx, cond_true, cond_false, List.getElem?_cons_succ, List.getElem?_cons_zero, List.set_cons_succ, List.set_cons_zero, List.map_cons, List.map_nil, Option.getD_some, List.nodup_nil, true_and, and_true, hdue]
  rintro _ rfl
  have kd : PlD 4 (.lst (due.map encL)) := .lst (pl_links _) (by rw [List.length_map]; omega)
  refine wp_cut (fun s => s = [.fz (encS ts m), .fz (encP p), .fz (encPat (encS ts m) p), .fz (.lst (due.map encL)), .no, .lst (due.map encL)]) ?_ ?_
  · simp only [WPx, cond_true, cond_false, List.getElem?_cons_succ, List.getElem?_cons_zero, List.set_cons_succ, List.set_cons_zero, List.map_cons, List.map_nil, Option.getD_some, List.nodup_nil, true_and, and_true, parRs_nil, parRs_cons, parR_bor]
    refine (same_ok 4 _ _ kd kd).mono ?_
    rintro r os ⟨rfl, rfl⟩
    rw [decide_eq_true rfl]
    refine ⟨_, rfl, rfl, ?_⟩
    simp only [WPx, cond_true, cond_false, List.getElem?_cons_succ, List.getElem?_cons_zero, List.set_cons_succ, List.set_cons_zero, List.map_cons, List.map_nil, Option.getD_some, List.nodup_nil, true_and, and_true, truD_bl, Bool.not_true]
  rintro _ rfl
  refine wp_cut (fun s => ∃ x, s = [.fz (encS ts m), .fz (encP p), .fz (encPat (encS ts m) p), .fz (.lst (due.map encL)), .no, x]) ?_ ?_
  · simp only [WPx, cond_true, cond_false, List.getElem?_cons_succ, List.getElem?_cons_zero, List.set_cons_succ, List.set_cons_zero, List.map_cons, List.map_nil, Option.getD_some, List.nodup_nil, true_and, and_true]
    refine ⟨fits_le (by simp), ?_⟩
    rw [appD_eq _ _ (by rw [List.length_map]; exact lt_sl (by omega))]
    simp only [WPx, cond_true, cond_false, List.getElem?_cons_succ, List.getElem?_cons_zero, List.set_cons_succ, List.set_cons_zero, List.map_cons, List.map_nil, Option.getD_some, List.nodup_nil, true_and, and_true]
    exact ⟨_, rfl⟩
  rintro _ ⟨x, rfl⟩
  simp only [WPx, cond_true, cond_false, List.getElem?_cons_succ, List.getElem?_cons_zero, List.set_cons_succ, List.set_cons_zero, List.map_cons, List.map_nil, Option.getD_some, List.nodup_nil, true_and, and_true]
  refine (ring_links_ok _ p (by omega) hw).mono ?_
  rintro r os ⟨rfl, rfl⟩
  rw [hdue]
  simp only [WPx, cond_true, cond_false, List.getElem?_cons_succ, List.getElem?_cons_zero, List.set_cons_succ, List.set_cons_zero, List.map_cons, List.map_nil, Option.getD_some, List.nodup_nil, true_and, and_true]
  refine (same_ok 4 _ _ kd kd).mono ?_
  rintro r os ⟨rfl, rfl⟩
  rw [decide_eq_true rfl]
  simp only [WPx, cond_true, cond_false, List.getElem?_cons_succ, List.getElem?_cons_zero, List.set_cons_succ, List.set_cons_zero, List.map_cons, List.map_nil, Option.getD_some, List.nodup_nil, true_and, and_true]
  refine (law_is_ok _ p (by omega) hw (by omega)).mono ?_
  rintro r os ⟨rfl, rfl⟩
  simp only [WPx, cond_true, cond_false, List.getElem?_cons_succ, List.getElem?_cons_zero, List.set_cons_succ, List.set_cons_zero, List.map_cons, List.map_nil, Option.getD_some, List.nodup_nil, true_and, and_true]
  exact rfl
theorem ringed_ok {o : O} (ts : List Tb) (cols : Nat) (h : Dr o) (ht : Tbs ts) (hc : cols ≤ 1000) :
    wpF f_law_ringed [o, .fz (.lst (ts.map encT)), .fz (.int cols)] fun r os => ∃ (p : Pn) (o' : O), r = .fz (encP p) ∧ os = [o', .no, .no] ∧ Dr o' ∧ Drawn ts cols 7 6 p := by
  refine wp_fun [o, .fz (.lst (ts.map encT)), .fz (.int cols), .no, .no, .no, .no, .no, .no] ?_
  unfold b_law_ringed
  refine wp_cut (fun s => ∃ (o : O) (p : Pn), s = [o, .fz (.lst (ts.map encT)), .fz (.int cols), .fz (encP p), .no, .no, .no, .no, .no] ∧ Dr o ∧ Drawn ts cols 4 5 p) ?_ ?_
  · simp only [WPx, cond_true, cond_false, List.getElem?_cons_succ, List.getElem?_cons_zero, List.set_cons_succ, List.set_cons_zero, List.map_cons, List.map_nil, Option.getD_some, List.nodup_nil, true_and, and_true, getB_dr h]
    refine ⟨by decide, (draw_ok h 4 (by omega)).mono ?_⟩
    rintro r os ⟨v, o', rfl, rfl, h', hv1, hv2⟩
    have hv2 := hv2 (by omega)
    obtain ⟨n, hn⟩ := Int.eq_ofNat_of_zero_le (show 0 ≤ 1 + v by omega)
    simp only [WPx, cond_true, cond_false, List.getElem?_cons_succ, List.getElem?_cons_zero, List.set_cons_succ, List.set_cons_zero, List.map_cons, List.map_nil, Option.getD_some, List.nodup_nil, true_and, and_true, hn]
    refine ⟨by decide, (loop_ok ts cols n h' ht hc (by omega)).mono ?_⟩
    rintro r os ⟨p, o', rfl, rfl, h', hd⟩
    simp only [WPx, cond_true, cond_false, List.getElem?_cons_succ, List.getElem?_cons_zero, List.set_cons_succ, List.set_cons_zero, List.map_cons, List.map_nil, Option.getD_some, List.nodup_nil, true_and, and_true]
    exact ⟨o', p, rfl, h', hd.mono (by omega) (by omega)⟩
  rintro _ ⟨o, p, rfl, h, hp⟩
  have hrow : ∀ r ∈ p.rows, RowIn ts ((p.size + 1 : Nat) : Int) r := fun r hr => by
    obtain ⟨t, ht, h1, h2⟩ := hp.row r hr
    exact ⟨t, ht, h1, h2, fun c hc => by have := hp.ok.rv r hr c hc; omega⟩
  have hps := hp.nsize
  have hpr := hp.nrows
  refine wp_cut (fun s => s = [o, .fz (.lst (ts.map encT)), .fz (.int cols), .fz (encP p), .lst (p.rows.map encRw), .no, .no, .no, .no]) (by simp only [WPx, cond_true, cond_false, List.getElem?_cons_succ, List.getElem?_cons_zero, List.set_cons_succ, List.set_cons_zero, List.map_cons, List.map_nil, Option.getD_some, List.nodup_nil, true_and, and_true, idxP0]) ?_
  rintro _ rfl
  have e1 : (p.size : Int) + 1 = ((p.size + 1 : Nat) : Int) := by omega
  refine wp_cut (fun s => ∃ (o : O) (rows : List Rw), s = [o, .fz (.lst (ts.map encT)), .fz (.int cols), .fz (encP p), .lst (rows.map encRw), .no, .no, .no, .no] ∧ Dr o ∧ rows.length ≤ 7 ∧ ∀ r ∈ rows, RowIn ts ((p.size + 1 : Nat) : Int) r) ?_ ?_
  · have hsrc : wpM (rngS rng1D (aCons (callS f_law_draw (aCons (varB 0) (aCons (cst (.int 4)) aNil))) aNil)) [o, .fz (.lst (ts.map encT)), .fz (.int cols), .fz (encP p), .lst (p.rows.map encRw), .no, .no, .no, .no] fun a b => ∃ (n : Nat) (o : O), n ≤ 3 ∧ Dr o ∧ a = rgD n ∧ b = [o, .fz (.lst (ts.map encT)), .fz (.int cols), .fz (encP p), .lst (p.rows.map encRw), .no, .no, .no, .no] := by
      simp only [WPx, cond_true, cond_false, List.getElem?_cons_succ, List.getElem?_cons_zero, List.set_cons_succ, List.set_cons_zero, List.map_cons, List.map_nil, Option.getD_some, List.nodup_nil, true_and, and_true, getB_dr h]
      refine ⟨by decide, (draw_ok h 4 (by omega)).mono ?_⟩
      rintro r os ⟨v, o', rfl, rfl, h', hv1, hv2⟩
      have hv2 := hv2 (by omega)
      obtain ⟨n, rfl⟩ := Int.eq_ofNat_of_zero_le hv1
      simp only [WPx, cond_true, cond_false, List.getElem?_cons_succ, List.getElem?_cons_zero, List.set_cons_succ, List.set_cons_zero, List.map_cons, List.map_nil, Option.getD_some, List.nodup_nil, true_and, and_true, rng1_rgD n (by omega)]
      exact ⟨n, o', by omega, h', rfl, rfl⟩
    refine wp_forS (hsrc.mono ?_)
    rintro a b ⟨n, o, hn, h, rfl, rfl⟩
    refine ⟨fun i s => ∃ (o : O) (rows : List Rw), s = [o, .fz (.lst (ts.map encT)), .fz (.int cols), .fz (encP p), .lst (rows.map encRw), .no, .no, .no, .no] ∧ Dr o ∧ rows.length ≤ 4 + i ∧ ∀ r ∈ rows, RowIn ts ((p.size + 1 : Nat) : Int) r, ⟨o, p.rows, rfl, h, by omega, hrow⟩, ?_, ?_⟩
    · rintro i d s hi ⟨o, rows, rfl, h, hl, hr⟩
      obtain ⟨hin, rfl⟩ := rgD_get hi
      simp only [WPx, cond_true, cond_false, List.getElem?_cons_succ, List.getElem?_cons_zero, List.set_cons_succ, List.set_cons_zero, List.map_cons, List.map_nil, Option.getD_some, List.nodup_nil, true_and, and_true, getB_dr h, idxP2, e1]
      refine ⟨by decide, (row_ok ts ((p.size + 1 : Nat) : Int) h ht.ne (by have := ht.len; omega) (fun t h => by have := ht.w t h; omega) (by omega) (by omega)).mono ?_⟩
      rintro r os ⟨o', t, l, htm, rfl, rfl, h', hll, hlv⟩
      simp only [WPx, cond_true, cond_false, List.getElem?_cons_succ, List.getElem?_cons_zero, List.set_cons_succ, List.set_cons_zero, List.map_cons, List.map_nil, Option.getD_some, List.nodup_nil, true_and, and_true]
      rw [appD_eq _ _ (by rw [List.length_map]; exact lt_sl (by omega))]
      simp only [WPx, cond_true, cond_false, List.getElem?_cons_succ, List.getElem?_cons_zero, List.set_cons_succ, List.set_cons_zero, List.map_cons, List.map_nil, Option.getD_some, List.nodup_nil, true_and, and_true]
      refine ⟨o', rows ++ [(t.1, l)], by simp, h', by simp; omega, fun x hx => ?_⟩
      rcases List.mem_append.1 hx with hx | hx
      · exact hr x hx
      · rw [List.mem_singleton.1 hx]; exact ⟨t, htm, rfl, hll, hlv⟩
    · rintro s ⟨o, rows, rfl, h, hl, hr⟩
      rw [rgD_len] at hl
      simp only [WPx, cond_true, cond_false, List.getElem?_cons_succ, List.getElem?_cons_zero, List.set_cons_succ, List.set_cons_zero, List.map_cons, List.map_nil, Option.getD_some, List.nodup_nil, true_and, and_true]
      exact ⟨o, rows, rfl, h, by omega, hr⟩
  rintro _ ⟨o, rows, rfl, h, hrl, hr⟩
  refine wp_cut (fun s => s = [o, .fz (.lst (ts.map encT)), .fz (.int cols), .fz (encP p), .lst (rows.map encRw), .no, .fz (.tup (encI p.head)), .no, .no]) (by simp only [WPx, cond_true, cond_false, List.getElem?_cons_succ, List.getElem?_cons_zero, List.set_cons_succ, List.set_cons_zero, List.map_cons, List.map_nil, Option.getD_some, List.nodup_nil, true_and, and_true, idxP1]) ?_
  rintro _ rfl
  have hhv : ∀ v ∈ p.head, 0 ≤ v ∧ v < ((p.size + 1 : Nat) : Int) := fun v hv => by have := hp.ok.hv v hv; omega
  refine wp_cut (fun s => ∃ (o : O) (hd : List Int) (x : O) (dh : D), s = [o, .fz (.lst (ts.map encT)), .fz (.int cols), .fz (encP p), .lst (rows.map encRw), .no, x, .no, .no] ∧ O.view x = some dh ∧ (dh = .tup (encI hd) ∨ dh = .lst (encI hd)) ∧ Dr o ∧ hd.length = cols ∧ ∀ v ∈ hd, 0 ≤ v ∧ v < ((p.size + 1 : Nat) : Int)) ?_ ?_
  · simp only [wp_ifS, wp_tstB, wp_prim2, wp_callS, wp_aCons, wp_aNil, wp_varB, wp_cst, List.getElem?_cons_succ, List.getElem?_cons_zero, getB_dr h, opR_bor, opR_fz, bors_bor, bors_fz, bors_nil, List.map_cons, List.map_nil, parO_bor, parO_fz, Option.getD_some]
    refine ⟨by decide, (draw_ok h 2 (by omega)).mono ?_⟩
    rintro r os ⟨v, o', rfl, rfl, h', hv1, hv2⟩
    simp only [rsO_fz, opR_fz, vw_fz, bind_some', eqD_int, resO_fz, bP_bl, pb_bor, pb_fz, pb_nil, List.set_cons_succ, List.set_cons_zero]
    refine bif_split (fun q => ?_) fun q => ?_
    · rw [wp_setS]
      refine wp_lc (rgD cols) [o', .fz (.lst (ts.map encT)), .fz (.int cols), .fz (encP p), .lst (rows.map encRw), .no, .fz (.tup (encI p.head)), .no, .no] (by simp only [WPx, cond_true, cond_false, List.getElem?_cons_succ, List.getElem?_cons_zero, List.set_cons_succ, List.set_cons_zero, List.map_cons, List.map_nil, Option.getD_some, List.nodup_nil, true_and, and_true, rng1_rgD cols (by omega)]) (by rw [rgD_len]; exact le_sl (by omega))
        (fun i acc s => ∃ (o : O) (hd : List Int), s = [o, .fz (.lst (ts.map encT)), .fz (.int cols), .fz (encP p), .lst (rows.map encRw), .no, .fz (.tup (encI p.head)), .no, .no] ∧ acc = encI hd ∧ Dr o ∧ hd.length = i ∧ ∀ v ∈ hd, 0 ≤ v ∧ v < ((p.size + 1 : Nat) : Int)) ⟨o', [], rfl, rfl, h', rfl, by simp⟩ ?_ ?_
      · rintro j d acc s hj ⟨o, hd, rfl, rfl, h, hl, hv⟩
        simp only [WPx, cond_true, cond_false, List.getElem?_cons_succ, List.getElem?_cons_zero, List.set_cons_succ, List.set_cons_zero, List.map_cons, List.map_nil, Option.getD_some, List.nodup_nil, true_and, and_true, getB_dr h, idxP2, e1]
        refine ⟨by decide, (draw_ok h ((p.size + 1 : Nat) : Int) (by omega)).mono ?_⟩
        rintro r os ⟨v, o', rfl, rfl, h', hv1, hv2⟩
        have hv2 := hv2 (by omega)
        simp only [WPx, cond_true, cond_false, List.getElem?_cons_succ, List.getElem?_cons_zero, List.set_cons_succ, List.set_cons_zero, List.map_cons, List.map_nil, Option.getD_some, List.nodup_nil, true_and, and_true]
        refine ⟨o', hd ++ [v], rfl, by rw [encI_app]; rfl, h', by simp [hl], fun x hx => ?_⟩
        rcases List.mem_append.1 hx with hx | hx
        · exact hv x hx
        · rw [List.mem_singleton.1 hx]; exact ⟨hv1, hv2⟩
      · rintro acc s ⟨o, hd, rfl, rfl, h, hl, hv⟩
        rw [rgD_len] at hl
        simp only [WPx, cond_true, cond_false, List.getElem?_cons_succ, List.getElem?_cons_zero, List.set_cons_succ, List.set_cons_zero, List.map_cons, List.map_nil, Option.getD_some, List.nodup_nil, true_and, and_true]
        exact ⟨o, hd, _, _, rfl, rfl, .inr rfl, h, hl, hv⟩
    · simp only [WPx, cond_true, cond_false, List.getElem?_cons_succ, List.getElem?_cons_zero, List.set_cons_succ, List.set_cons_zero, List.map_cons, List.map_nil, Option.getD_some, List.nodup_nil, true_and, and_true]
      exact ⟨o', p.head, _, _, rfl, rfl, .inl rfl, h', hp.head, hhv⟩
  rintro _ ⟨o, hd, x, dh, rfl, hx, hdh, h, hhl, hhv⟩
  have hsub := usedV_in hr hhv
  have hul := usedV_len (hd := hd) hr fun t h => (ht.w t h).2
  simp only [WPx, cond_true, cond_false, List.getElem?_cons_succ, List.getElem?_cons_zero, List.set_cons_succ, List.set_cons_zero, List.map_cons, List.map_nil, Option.getD_some, List.nodup_nil, true_and, and_true, hx]
  refine id_lc 8 _ _ [o, .fz (.lst (ts.map encT)), .fz (.int cols), .fz (encP p), .fz (.lst (rows.map encRw)), .no, .fz dh, .no, .no] (rgD (p.size + 1)) ?_ (by rw [rgD_len]; omega) (by simp) ?_
  · simp only [WPx, cond_true, cond_false, List.getElem?_cons_succ, List.getElem?_cons_zero, List.set_cons_succ, List.set_cons_zero, List.map_cons, List.map_nil, Option.getD_some, List.nodup_nil, true_and, and_true, idxP2, e1, rng1_rgD (p.size + 1) (by omega)]
  simp only [WPx, cond_true, cond_false, List.getElem?_cons_succ, List.getElem?_cons_zero, List.set_cons_succ, List.set_cons_zero, List.map_cons, List.map_nil, Option.getD_some, List.nodup_nil, true_and, and_true]
  rw [rgD_rgI]
  refine (close_ok rows hd (rgI (p.size + 1)) _ (by rcases hdh with rfl | rfl; exact iterD_tup _; exact iterD_lst _) (by rcases hdh with rfl | rfl; exact listD_tup _; exact listD_lst _) hsub (by omega) (by omega) (by rw [rgI_len]; omega)).mono ?_
  rintro r os ⟨p', kept, rfl, rfl, c⟩
  simp only [WPx, cond_true, cond_false, List.getElem?_cons_succ, List.getElem?_cons_zero, List.set_cons_succ, List.set_cons_zero, List.map_cons, List.map_nil, Option.getD_some, List.nodup_nil, true_and, and_true]
  refine ⟨p', o, rfl, rfl, h, ?_⟩
  have d := c.drawn hsub hr
  rw [hhl, rgI_len] at d
  have hs2 : p'.size ≤ 6 := by
    have := d.nsize
    omega
  exact ⟨d.ok, d.row, d.head, Nat.le_trans d.nrows hrl, hs2⟩
end Ev
-- PL
set_option Elab.async false
set_option linter.all false
set_option maxRecDepth 100000
set_option maxHeartbeats 4000000
namespace Ev
open PySem L2 PySem.W PyProof.Rows
theorem rsO_dr {o : O} (h : Dr o) : rsO o = .ow o := by
  obtain ⟨ns, p, c, l, m, rfl, _⟩ := h.ex
  exact rsO_lst _
theorem lstS_eq (xs : List D) : O.lst xs = O.lst xs := rfl
theorem cols8 (v : Int) (h1 : 0 ≤ v) (h2 : v < 8) : ∃ c : Nat, c ≤ 4 ∧ idxD (.lst [.int 0, .int 1, .int 2, .int 0, .int 1, .int 2, .int 3, .int 4]) (.int v) = some (.fz (.int (c : Int))) := by
  have : v = 0 ∨ v = 1 ∨ v = 2 ∨ v = 3 ∨ v = 4 ∨ v = 5 ∨ v = 6 ∨ v = 7 := by omega
  rcases this with rfl | rfl | rfl | rfl | rfl | rfl | rfl | rfl
  · exact ⟨0, by omega, rfl⟩
  · exact ⟨1, by omega, rfl⟩
  · exact ⟨2, by omega, rfl⟩
  · exact ⟨0, by omega, rfl⟩
  · exact ⟨1, by omega, rfl⟩
  · exact ⟨2, by omega, rfl⟩
  · exact ⟨3, by omega, rfl⟩
  · exact ⟨4, by omega, rfl⟩
def nmS : Nm := ⟨"S", by decide, by decide, by decide +kernel⟩
def nmR : Nm := ⟨"R", by decide, by decide, by decide +kernel⟩
def nmT : Nm := ⟨"T", by decide, by decide, by decide +kernel⟩
def tsP : List Tb := [(nmS, 2), (nmR, 1), (nmT, 3)]
/-- rows that have all values below a size -/
structure WOk (rows : List Rw) (size : Nat) : Prop where
  srt : SSrt ltR rows
  rv : ∀ r ∈ rows, ∀ v ∈ r.2, 0 ≤ v ∧ v < (size : Int)
  gap : ∀ k : Nat, k < size → ∃ r ∈ rows, (k : Int) ∈ r.2
  row : ∀ r ∈ rows, ∃ t ∈ tsP, r.1 = t.1 ∧ r.2.length = t.2
  nr : rows.length ≤ 600
  ns : size ≤ 300
  s3 : 3 ≤ size
theorem WOk.ok {rows : List Rw} {size : Nat} (w : WOk rows size) (hd : List Int) (h : ∀ v ∈ hd, 0 ≤ v ∧ v < 3) : Pn.Ok ⟨rows, hd, size⟩ :=
  ⟨w.srt, w.rv, fun v hv => by have := h v hv; have := w.s3; show 0 ≤ v ∧ v < (size : Int); omega, fun k hk => .inr (w.gap k hk)⟩
def circleR : List Rw := [(nmS, [0, 1]), (nmS, [1, 2]), (nmS, [2, 0])]
def bothR : List Rw := [(nmS, [0, 1]), (nmS, [1, 0]), (nmS, [1, 2]), (nmS, [2, 2]), (nmS, [2, 3])]
def wideR : List Rw := [(nmR, [1]), (nmS, [1, 2]), (nmT, [0, 1, 0]), (nmT, [2, 3, 4])]
theorem wok_circle : WOk circleR 3 := ⟨by decide +kernel, by decide +kernel, by decide +kernel, by decide +kernel, by decide, by decide, by decide⟩
theorem wok_both : WOk bothR 4 := ⟨by decide +kernel, by decide +kernel, by decide +kernel, by decide +kernel, by decide, by decide, by decide⟩
theorem wok_wide : WOk wideR 5 := ⟨by decide +kernel, by decide +kernel, by decide +kernel, by decide +kernel, by decide, by decide, by decide⟩
theorem good_k19 : Good f_law := by
  intro ns hns
  suffices h : wpF f_law [.fz (.scr ns)] fun r os => r = .fz (.bl true) by
    obtain ⟨r, os, e, rfl⟩ := h.ex
    exact ⟨os, e⟩
  refine wp_fun [.fz (.scr ns), .no, .no, .no, .no, .no, .no, .no, .no, .no, .no, .no, .no, .no] ?_
  unfold b_law
  refine wp_cut (fun s => ∃ o x : O, s = [x, o, .no, .no, .no, .no, .no, .no, .no, .no, .no, .no, .no, .no] ∧ Dr o) ?_ ?_
  · simp only [WPx, cond_true, cond_false, List.getElem?_cons_succ, List.getElem?_cons_zero, List.set_cons_succ, List.set_cons_zero, List.map_cons, List.map_nil, Option.getD_some, List.nodup_nil, true_and, and_true]
    refine (start_ok ns hns).mono ?_
    rintro r os ⟨h, rfl⟩
    rw [rsO_dr h]
    simp only [WPx, cond_true, cond_false, List.getElem?_cons_succ, List.getElem?_cons_zero, List.set_cons_succ, List.set_cons_zero, List.map_cons, List.map_nil, Option.getD_some, List.nodup_nil, true_and, and_true]
    exact ⟨r, _, rfl, h⟩
  rintro _ ⟨o, x, rfl, h⟩
  refine wp_cut (fun s => ∃ (o : O) (c : Nat), s = [x, o, .fz (.int c), .no, .no, .no, .no, .no, .no, .no, .no, .no, .no, .no] ∧ Dr o ∧ c ≤ 4) ?_ ?_
  · simp only [WPx, cond_true, cond_false, List.getElem?_cons_succ, List.getElem?_cons_zero, List.set_cons_succ, List.set_cons_zero, List.map_cons, List.map_nil, Option.getD_some, List.nodup_nil, true_and, and_true, getB_dr h]
    refine ⟨fits_le (by simp), by decide, (draw_ok h 8 (by omega)).mono ?_⟩
    rintro r os ⟨v, o', rfl, rfl, h', hv1, hv2⟩
    obtain ⟨c, hc, e⟩ := cols8 v hv1 (hv2 (by omega))
    simp only [rsO_fz, opR_fz, vw_fz, bind_some', e, resO_fz, o_fz, oP_some, nxP_nx, pb_bor, pb_fz, pb_nil, List.set_cons_succ, List.set_cons_zero]
    exact ⟨o', c, rfl, h', hc⟩
  rintro _ ⟨o, c, rfl, h, hc⟩
  refine wp_cut (fun s => ∃ (o : O) (w : Int), s = [x, o, .fz (.int c), .fz (.int w), .no, .no, .no, .no, .no, .no, .no, .no, .no, .no] ∧ Dr o) ?_ ?_
  · simp only [WPx, cond_true, cond_false, List.getElem?_cons_succ, List.getElem?_cons_zero, List.set_cons_succ, List.set_cons_zero, List.map_cons, List.map_nil, Option.getD_some, List.nodup_nil, true_and, and_true, getB_dr h]
    refine ⟨by decide, (draw_ok h 3 (by omega)).mono ?_⟩
    rintro r os ⟨v, o', rfl, rfl, h', hv1, hv2⟩
    simp only [WPx, cond_true, cond_false, List.getElem?_cons_succ, List.getElem?_cons_zero, List.set_cons_succ, List.set_cons_zero, List.map_cons, List.map_nil, Option.getD_some, List.nodup_nil, true_and, and_true]
    exact ⟨o', v, rfl, h'⟩
  rintro _ ⟨o, w, rfl, h⟩
  refine wp_cut (fun s => ∃ (o : O) (size : Nat), s = [x, o, .fz (.int c), .fz (.int w), .fz (.int size), .no, .no, .no, .no, .no, .no, .no, .no, .no] ∧ Dr o ∧ 1 ≤ size ∧ size ≤ 6) ?_ ?_
  · simp only [WPx, cond_true, cond_false, List.getElem?_cons_succ, List.getElem?_cons_zero, List.set_cons_succ, List.set_cons_zero, List.map_cons, List.map_nil, Option.getD_some, List.nodup_nil, true_and, and_true, getB_dr h]
    refine ⟨by decide, (draw_ok h 6 (by omega)).mono ?_⟩
    rintro r os ⟨v, o', rfl, rfl, h', hv1, hv2⟩
    have hv2 := hv2 (by omega)
    obtain ⟨n, hn⟩ := Int.eq_ofNat_of_zero_le (show 0 ≤ 1 + v by omega)
    simp only [WPx, cond_true, cond_false, List.getElem?_cons_succ, List.getElem?_cons_zero, List.set_cons_succ, List.set_cons_zero, List.map_cons, List.map_nil, Option.getD_some, List.nodup_nil, true_and, and_true, hn]
    exact ⟨o', n, rfl, h', by omega, by omega⟩
  rintro _ ⟨o, size, rfl, h, hs1, hs2⟩
  refine wp_cut (fun s => ∃ (o : O) (many : Nat), s = [x, o, .fz (.int c), .fz (.int w), .fz (.int size), .fz (.int many), .no, .no, .no, .no, .no, .no, .no, .no] ∧ Dr o ∧ many ≤ 6) ?_ ?_
  · simp only [WPx, cond_true, cond_false, List.getElem?_cons_succ, List.getElem?_cons_zero, List.set_cons_succ, List.set_cons_zero, List.map_cons, List.map_nil, Option.getD_some, List.nodup_nil, true_and, and_true, getB_dr h]
    refine ⟨by decide, (draw_ok h 7 (by omega)).mono ?_⟩
    rintro r os ⟨v, o', rfl, rfl, h', hv1, hv2⟩
    have hv2 := hv2 (by omega)
    obtain ⟨n, rfl⟩ := Int.eq_ofNat_of_zero_le hv1
    simp only [WPx, cond_true, cond_false, List.getElem?_cons_succ, List.getElem?_cons_zero, List.set_cons_succ, List.set_cons_zero, List.map_cons, List.map_nil, Option.getD_some, List.nodup_nil, true_and, and_true]
    exact ⟨o', n, rfl, h', by omega⟩
  rintro _ ⟨o, many, rfl, h, hmn⟩
  refine wp_cut (fun s => ∃ (o : O) (ts : List Tb), s = [x, o, .fz (.int c), .fz (.int w), .fz (.int size), .fz (.int many), .lst (ts.map encT), .no, .no, .no, .no, .no, .no, .no] ∧ Dr o ∧ Tbs ts ∧ ts.length ≤ 3) ?_ ?_
  · simp only [WPx, cond_true, cond_false, List.getElem?_cons_succ, List.getElem?_cons_zero, List.set_cons_succ, List.set_cons_zero, List.map_cons, List.map_nil, Option.getD_some, List.nodup_nil, true_and, and_true, getB_dr h]
    refine ⟨by decide, (tables_ok 3 4 h (by omega) (by omega) (by omega) (by omega)).mono ?_⟩
    rintro r os ⟨ts, o', rfl, rfl, h', t1, t2, t3, t4⟩
    simp only [WPx, cond_true, cond_false, List.getElem?_cons_succ, List.getElem?_cons_zero, List.set_cons_succ, List.set_cons_zero, List.map_cons, List.map_nil, Option.getD_some, List.nodup_nil, true_and, and_true]
    exact ⟨o', ts, rfl, h', ⟨t1, by omega, t3, fun t ht => by have := t4 t ht; omega⟩, by omega⟩
  rintro _ ⟨o, ts, rfl, h, ht, htl⟩
  refine wp_cut (fun s => ∃ (o : O) (p : Pn), s = [x, o, .fz (.int c), .fz (.int w), .fz (.int size), .fz (.int many), .fz (.lst (ts.map encT)), .fz (encP p), .no, .no, .no, .no, .no, .no] ∧ Dr o ∧ Drawn ts c 7 6 p) ?_ ?_
  · simp only [WPx, cond_true, cond_false, List.getElem?_cons_succ, List.getElem?_cons_zero, List.set_cons_succ, List.set_cons_zero, List.map_cons, List.map_nil, Option.getD_some, List.nodup_nil, true_and, and_true, getB_dr h]
    refine bif_split (fun q => ?_) fun q => ?_
    · refine ⟨by decide, (random_ok ts c size many h ht (by omega) (by omega) (by omega)).mono ?_⟩
      rintro r os ⟨p, o', rfl, rfl, h', hd⟩
      simp only [WPx, cond_true, cond_false, List.getElem?_cons_succ, List.getElem?_cons_zero, List.set_cons_succ, List.set_cons_zero, List.map_cons, List.map_nil, Option.getD_some, List.nodup_nil, true_and, and_true]
      exact ⟨o', p, rfl, h', hd.mono (by omega) (by omega)⟩
    · refine bif_split (fun q => ?_) fun q => ?_
      · refine ⟨by decide, (ringed_ok ts c h ht (by omega)).mono ?_⟩
        rintro r os ⟨p, o', rfl, rfl, h', hd⟩
        simp only [WPx, cond_true, cond_false, List.getElem?_cons_succ, List.getElem?_cons_zero, List.set_cons_succ, List.set_cons_zero, List.map_cons, List.map_nil, Option.getD_some, List.nodup_nil, true_and, and_true]
        exact ⟨o', p, rfl, h', hd.mono (by omega) (by omega)⟩
      · refine ⟨by decide, (drawn_ok ts c h ht (by omega)).mono ?_⟩
        rintro r os ⟨p, o', rfl, rfl, h', hd⟩
        simp only [WPx, cond_true, cond_false, List.getElem?_cons_succ, List.getElem?_cons_zero, List.set_cons_succ, List.set_cons_zero, List.map_cons, List.map_nil, Option.getD_some, List.nodup_nil, true_and, and_true]
        exact ⟨o', p, rfl, h', hd.mono (by omega) (by omega)⟩
  rintro _ ⟨o, p, rfl, h, hp⟩
  have hpn := hp.nrows
  have hps := hp.nsize
  have hph := hp.head
  refine wp_cut (fun s => s = [x, o, .fz (.int c), .fz (.int w), .fz (.int size), .fz (.int many), .fz (.lst (ts.map encT)), .fz (encP p), .no, .no, .no, .no, .no, .no]) ?_ ?_
  · simp only [wp_ifS, wp_tNt, wp_tstU, wp_callS, wp_aCons, wp_aNil]
    refine wp_makeS _ _ _ _ _ ?_
    simp only [WPx, cond_true, cond_false, List.getElem?_cons_succ, List.getElem?_cons_zero, List.set_cons_succ, List.set_cons_zero, List.map_cons, List.map_nil, Option.getD_some, List.nodup_nil, true_and, and_true]
    refine (schema_ok ts (by omega) ht.nd ht.w).mono ?_
    rintro r os ⟨rfl, m, rfl, hm⟩
    refine ⟨rfl, ?_⟩
    have es : D.ins "Schema" (sfs ts m) = encS ts m := rfl
    simp only [WPx, cond_true, cond_false, List.getElem?_cons_succ, List.getElem?_cons_zero, List.set_cons_succ, List.set_cons_zero, List.map_cons, List.map_nil, Option.getD_some, List.nodup_nil, true_and, and_true]
    rw [es]
    refine (right_ok hm p hp.ok hp.row (by omega) (by omega) (by omega)).mono ?_
    rintro r os ⟨rfl, rfl⟩
    simp only [WPx, cond_true, cond_false, List.getElem?_cons_succ, List.getElem?_cons_zero, List.set_cons_succ, List.set_cons_zero, List.map_cons, List.map_nil, Option.getD_some, List.nodup_nil, true_and, and_true, truD_bl, Bool.not_true]
  rintro _ rfl
  generalize hg1 : O.fz (.lst (ts.map encT)) = g1
  generalize hg2 : O.fz (encP p) = g2
  have wts : ∀ t ∈ tsP, 1 ≤ t.2 ∧ t.2 ≤ 4 := by decide
  refine wp_cut (fun s => ∃ m, s = [x, o, .fz (.int c), .fz (.int w), .fz (.int size), .fz (.int many), g1, g2, .ins "Schema" (sfs tsP m), .no, .no, .no, .no, .no] ∧ Sch tsP m) ?_ ?_
  · rw [wp_setS]
    refine wp_makeS _ _ _ _ _ ?_
    simp only [WPx, cond_true, cond_false, List.getElem?_cons_succ, List.getElem?_cons_zero, List.set_cons_succ, List.set_cons_zero, List.map_cons, List.map_nil, Option.getD_some, List.nodup_nil, true_and, and_true]
    refine ⟨fits_le (by simp), fits_le (by simp), fits_le (by simp), fits_le (by simp), ?_⟩
    have et : D.lst [.tup [.str "S", .int 2], .tup [.str "R", .int 1], .tup [.str "T", .int 3]] = .lst (tsP.map encT) := rfl
    rw [et]
    refine (schema_ok tsP (by decide) (by decide +kernel) wts).mono ?_
    rintro r os ⟨rfl, m, rfl, hm⟩
    refine ⟨rfl, ?_⟩
    simp only [WPx, cond_true, cond_false, List.getElem?_cons_succ, List.getElem?_cons_zero, List.set_cons_succ, List.set_cons_zero, List.map_cons, List.map_nil, Option.getD_some, List.nodup_nil, true_and, and_true]
    exact ⟨m, rfl, hm⟩
  rintro _ ⟨m, rfl, hm⟩
  refine wp_cut (fun s => s = [x, o, .fz (.int c), .fz (.int w), .fz (.int size), .fz (.int many), g1, g2, .ins "Schema" (sfs tsP m), .lst (circleR.map encRw), .no, .no, .no, .no]) ?_ ?_
  · simp only [WPx, cond_true, cond_false, List.getElem?_cons_succ, List.getElem?_cons_zero, List.set_cons_succ, List.set_cons_zero, List.map_cons, List.map_nil, Option.getD_some, List.nodup_nil, true_and, and_true]
    exact ⟨fits_le (by simp), fits_le (by simp), fits_le (by simp), fits_le (by simp), rfl⟩
  rintro _ rfl
  refine wp_cut (fun s => s = [x, o, .fz (.int c), .fz (.int w), .fz (.int size), .fz (.int many), g1, g2, .ins "Schema" (sfs tsP m), .lst (circleR.map encRw), .lst (bothR.map encRw), .no, .no, .no]) ?_ ?_
  · simp only [WPx, cond_true, cond_false, List.getElem?_cons_succ, List.getElem?_cons_zero, List.set_cons_succ, List.set_cons_zero, List.map_cons, List.map_nil, Option.getD_some, List.nodup_nil, true_and, and_true]
    exact ⟨fits_le (by simp), fits_le (by simp), fits_le (by simp), fits_le (by simp), fits_le (by simp), fits_le (by simp), rfl⟩
  rintro _ rfl
  refine wp_cut (fun s => s = [x, o, .fz (.int c), .fz (.int w), .fz (.int size), .fz (.int many), g1, g2, .ins "Schema" (sfs tsP m), .lst (circleR.map encRw), .lst (bothR.map encRw), .lst (wideR.map encRw), .no, .no]) ?_ ?_
  · simp only [WPx, cond_true, cond_false, List.getElem?_cons_succ, List.getElem?_cons_zero, List.set_cons_succ, List.set_cons_zero, List.map_cons, List.map_nil, Option.getD_some, List.nodup_nil, true_and, and_true]
    exact ⟨fits_le (by simp), fits_le (by simp), fits_le (by simp), fits_le (by simp), fits_le (by simp), rfl⟩
  rintro _ rfl
  have evS : O.view (.ins "Schema" (sfs tsP m)) = some (encS tsP m) := rfl
  refine wp_cut (fun s => ∃ y a b c', s = [x, o, .fz (.int c), .fz (.int w), .fz (.int size), .fz (.int many), g1, g2, y, a, b, c', .no, .no] ∧ O.view y = some (encS tsP m)) ?_ ?_
  · refine wp_for [.tup [.lst (circleR.map encRw), .int 3], .tup [.lst (bothR.map encRw), .int 4], .tup [.lst (wideR.map encRw), .int 5]] [x, o, .fz (.int c), .fz (.int w), .fz (.int size), .fz (.int many), g1, g2, .ins "Schema" (sfs tsP m), .fz (.lst (circleR.map encRw)), .fz (.lst (bothR.map encRw)), .fz (.lst (wideR.map encRw)), .no, .no] ?_
      (fun i s => ∃ y a b c', s = [x, o, .fz (.int c), .fz (.int w), .fz (.int size), .fz (.int many), g1, g2, y, a, b, c', .no, .no] ∧ O.view y = some (encS tsP m)) ⟨_, _, _, _, rfl, evS⟩ ?_ ?_
    · simp only [WPx, cond_true, cond_false, List.getElem?_cons_succ, List.getElem?_cons_zero, List.set_cons_succ, List.set_cons_zero, List.map_cons, List.map_nil, Option.getD_some, List.nodup_nil, true_and, and_true]
      exact ⟨fits_le (by simp), fits_le (by simp), fits_le (by simp), fits_le (by simp)⟩
    · rintro i d s hi ⟨y, a, b, c', rfl, hy⟩
      obtain ⟨rows, sz, rfl, hwk⟩ : ∃ rows sz, d = D.tup [.lst (rows.map encRw), .int ((sz : Nat) : Int)] ∧ WOk rows sz := by
        have := List.mem_of_getElem? hi
        simp only [List.mem_cons, List.not_mem_nil, or_false] at this
        rcases this with rfl | rfl | rfl
        · exact ⟨_, 3, rfl, wok_circle⟩
        · exact ⟨_, 4, rfl, wok_both⟩
        · exact ⟨_, 5, rfl, wok_wide⟩
      simp only [nameT_eq, oP_some, List.set_cons_succ, List.set_cons_zero]
      obtain ⟨hx, hhx, ehx⟩ : ∃ hx : List Int, ((∀ v ∈ hx, 0 ≤ v ∧ v < 3) ∧ hx.length ≤ 4) ∧ idxD (.lst [.tup [.int 1, .int 1], .tup [.int 2, .int 0]]) (.int ((size : Int) % 2)) = some (.fz (.tup (encI hx))) := by
        have : (size : Int) % 2 = 0 ∨ (size : Int) % 2 = 1 := by omega
        rcases this with e | e
        · exact ⟨[1, 1], ⟨by decide, by decide⟩, by rw [e]; rfl⟩
        · exact ⟨[2, 0], ⟨by decide, by decide⟩, by rw [e]; rfl⟩
      refine wp_for [.tup (encI []), .tup (encI [0]), .tup (encI hx)] [x, o, .fz (.int c), .fz (.int w), .fz (.int size), .fz (.int many), g1, g2, y, a, b, c', .fz (D.tup [.lst (rows.map encRw), .int ((sz : Nat) : Int)]), .no] ?_
        (fun i s => ∃ y, s = [x, o, .fz (.int c), .fz (.int w), .fz (.int size), .fz (.int many), g1, g2, y, a, b, c', .fz (D.tup [.lst (rows.map encRw), .int ((sz : Nat) : Int)]), .no] ∧ O.view y = some (encS tsP m)) ⟨_, rfl, hy⟩ ?_ ?_
      · simp only [WPx, cond_true, cond_false, List.getElem?_cons_succ, List.getElem?_cons_zero, List.set_cons_succ, List.set_cons_zero, List.map_cons, List.map_nil, Option.getD_some, List.nodup_nil, true_and, and_true, modD_int _ 2 (by decide), ehx]
        exact ⟨fits_le (by simp), fits_le (by simp), fits_le (by simp), fits_le (by simp), fits_le (by simp), fits_le (by simp), rfl⟩
      · rintro j d s hj ⟨y, rfl, hy⟩
        obtain ⟨hd, rfl, hhd, hl4⟩ : ∃ hd, d = D.tup (encI hd) ∧ (∀ v ∈ hd, 0 ≤ v ∧ v < 3) ∧ hd.length ≤ 4 := by
          have := List.mem_of_getElem? hj
          simp only [List.mem_cons, List.not_mem_nil, or_false] at this
          rcases this with rfl | rfl | rfl
          · exact ⟨[], rfl, by simp, by simp⟩
          · exact ⟨[0], rfl, by decide, by decide⟩
          · exact ⟨hx, rfl, hhx.1, hhx.2⟩
        simp only [WPx, cond_true, cond_false, List.getElem?_cons_succ, List.getElem?_cons_zero, List.set_cons_succ, List.set_cons_zero, List.map_cons, List.map_nil, Option.getD_some, List.nodup_nil, true_and, and_true, hy]
        refine ⟨fits_le (by simp), ?_⟩
        have ee : D.tup [.lst (rows.map encRw), .tup (encI hd), .int ((sz : Nat) : Int)] = encP ⟨rows, hd, sz⟩ := rfl
        rw [ee]
        refine (right_ok hm ⟨rows, hd, sz⟩ (hwk.ok hd hhd) hwk.row hl4 hwk.nr hwk.ns).mono ?_
        rintro r os ⟨rfl, rfl⟩
        simp only [WPx, cond_true, cond_false, List.getElem?_cons_succ, List.getElem?_cons_zero, List.set_cons_succ, List.set_cons_zero, List.map_cons, List.map_nil, Option.getD_some, List.nodup_nil, true_and, and_true, truD_bl, Bool.not_true]
        exact ⟨_, rfl, rfl⟩
      · rintro s ⟨y, rfl, hy⟩
        simp only [WPx, cond_true, cond_false, List.getElem?_cons_succ, List.getElem?_cons_zero, List.set_cons_succ, List.set_cons_zero, List.map_cons, List.map_nil, Option.getD_some, List.nodup_nil, true_and, and_true]
        exact ⟨_, _, _, _, rfl, hy⟩
    · rintro s ⟨y, a, b, c', rfl, hy⟩
      simp only [WPx, cond_true, cond_false, List.getElem?_cons_succ, List.getElem?_cons_zero, List.set_cons_succ, List.set_cons_zero, List.map_cons, List.map_nil, Option.getD_some, List.nodup_nil, true_and, and_true]
      exact ⟨_, _, _, _, rfl, hy⟩
  rintro _ ⟨y, a, b, c', rfl, hy⟩
  simp only [WPx, cond_true, cond_false, List.getElem?_cons_succ, List.getElem?_cons_zero, List.set_cons_succ, List.set_cons_zero, List.map_cons, List.map_nil, Option.getD_some, List.nodup_nil, true_and, and_true, hy]
  have e1 : D.tup [.lst [.tup [.str "R", .int 0], .tup [.str "R", .int 1]], .tup [.int 1], .int 2] = encP ⟨[(nmR, [0]), (nmR, [1])], [1], 2⟩ := rfl
  have e2 : D.tup [.lst [], .tup [.int 0], .int 1] = encP ⟨[], [0], 1⟩ := rfl
  refine ⟨fits_le (by simp), fits_le (by simp), fits_le (by simp), fits_le (by simp), fits_le (by simp), ?_⟩
  rw [e1]
  refine (right_ok hm _ ⟨by decide +kernel, by decide +kernel, by decide +kernel, by decide +kernel⟩ (by decide +kernel) (by decide) (by decide) (by decide)).mono ?_
  rintro r os ⟨rfl, rfl⟩
  simp only [WPx, cond_true, cond_false, List.getElem?_cons_succ, List.getElem?_cons_zero, List.set_cons_succ, List.set_cons_zero, List.map_cons, List.map_nil, Option.getD_some, List.nodup_nil, true_and, and_true]
  refine ⟨fits_le (by simp), fits_le (by simp), fits_le (by simp), ?_⟩
  rw [e2]
  refine (right_ok hm _ ⟨by decide +kernel, by decide +kernel, by decide +kernel, by decide +kernel⟩ (by decide +kernel) (by decide) (by decide) (by decide)).mono ?_
  rintro r os ⟨rfl, rfl⟩
  simp only [WPx, cond_true, cond_false, List.getElem?_cons_succ, List.getElem?_cons_zero, List.set_cons_succ, List.set_cons_zero, List.map_cons, List.map_nil, Option.getD_some, List.nodup_nil, true_and, and_true]
end Ev
open PySem
set_option maxRecDepth 100000 in
set_option maxHeartbeats 8000000 in
theorem PySem.Challenge.cw_pinnedbycounts_k19_ring_links_holds : PySem.Challenge.rw_pinnedbycounts_k19_ring_links.Holds := by
  exact Ev.K19.holds Ev.good_k19
