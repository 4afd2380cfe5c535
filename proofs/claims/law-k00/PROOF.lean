import PyProof.Rows.All
import PySem.Str
import PySem.Syntax
import Wide.All
import OpenK.AllK
import Wide.FinOn
import HandS.ForMost
import HandS.Exc
import HandS.WordsExc
import HandS.Defaults
import HandS.Walk
import HandS.Lambda
import HandS.HeadHook2
import HandS.ExcInit
import KE.SortData
import KE.DataCmp
import KE.DataMinMax
import HandS.TupAny
import HandS.Conv
import HandS.IsInst
import HandS.Keys
import HandS.WordsDict
import HandS.TupLen
import HandS.DictTup
import HandS.Deep
import HandS.Text
import HandS.Style
import HandS.RaiseMore
import HandS.More
import HandS.NoneIn
import HandS.Zip
import HandS.Small
import HandS.Flow
import HandS.DictComp
import HandS.ExcField
import HandS.TryMany
import HandS.SetFor
import KE.DataFind
import PyProof.SumWalkG
import PyProof.ListOps
import KE.GoesMore
import HandS.ListItems
import HandS.HeadHook4
import HandS.HeadWalk
import KE.KDictWalk
import HandS.Star
import KE.KEqDict
import HandS.Nested
import PyProof.ListStr
import PyProof.AssignAttr
import HandS.SortKw
import KE.SortKeyHeap
import HandS.ExcValue
import KE.GoesEnum
import HandS.ExcIs
import HandS.Dict
import HandS.HeadEnd
import HandS.HeadHook1
import HandS.Head0
import HandS.Head1
import HandS.Head2
import PySem.Challenge.RW_nestprices_k00_errors_made
set_option Elab.async false
section
set_option linter.all false
set_option autoImplicit false
/-! IL: plain data with ownership flags, and what the constructs of a Python program do to it. No heap, no model of Python: Lean alone. -/
namespace IL
open PySem

abbrev Key := Sum Int Str
/-- a key of a dict: an int, a text, or a tuple of such -/
inductive DK where
  | k (x : Key) | t (xs : List Key)
  deriving DecidableEq

/-- a lambda: its name, its words -/
structure LamR where
  q : Str
  params : Arguments
  body : Expr
  scope : Scope
/-- data; the flag m: this very object is owned (nobody else names it), it may be changed in place -/
inductive D where
  | non | bl (b : Bool) | int (i : Int) | str (x : Str) | ty (n : String) | glo (x : Str)
  /-- the law's script -/
  | scr (ns : List Int)
  /-- a lambda that has captured nothing -/
  | lam (x : Str) (r : LamR)
  /-- a list at a that several name, locked: it will be changed later -/
  | cel (a : Nat) (xs : List D)
  /-- an own error, not raised: its class, what it keeps -/
  | err (C : Str) (fs : List Str) (vs : List D)
  | lst (m : Bool) (xs : List D) | tup (xs : List D)
  | dct (m t : Bool) (ks : List DK) (vs : List D)
  | ins (m : Bool) (C : Str) (fs : List Str) (vs : List D)
  deriving Inhabited

mutual
/-- nothing of it may be changed any more -/
def D.frz : D → D
  | .lst _ xs => .lst false (frzs xs)
  | .tup xs => .tup (frzs xs)
  | .dct _ t ks vs => .dct false t ks (frzs vs)
  | .ins _ C fs vs => .ins false C fs (frzs vs)
  | .cel a xs => .cel a (frzs xs)
  | .err C fs vs => .err C fs (frzs vs)
  | .non => .non | .bl b => .bl b | .int i => .int i | .str x => .str x | .ty n => .ty n | .glo x => .glo x | .scr ns => .scr ns | .lam x r => .lam x r
def frzs : List D → List D
  | [] => []
  | x :: xs => x.frz :: frzs xs
end
mutual
def D.fz : D → Bool
  | .lst m xs => !m && fzs xs
  | .tup xs => fzs xs
  | .dct m _ _ vs => !m && fzs vs
  | .ins m _ _ vs => !m && fzs vs
  | .cel _ xs => fzs xs
  | .err _ _ vs => fzs vs
  | .non => true | .bl _ => true | .int _ => true | .str _ => true | .ty _ => true | .glo _ => true | .scr _ => true | .lam _ _ => true
def fzs : List D → Bool
  | [] => true
  | x :: xs => x.fz && fzs xs
end
/-! ### places -/
inductive LK where
  | ix (i : Nat) | key (k : DK) | fld (f : Str)
abbrev Lo := Nat × List LK
def lkk {κ : Type} [DecidableEq κ] : List κ → List D → κ → Option D
  | k :: ks, v :: vs, j => if k = j then some v else lkk ks vs j
  | _, _, _ => none
def setk {κ : Type} [DecidableEq κ] : List κ → List D → κ → D → List D
  | k :: ks, v :: vs, j, d => if k = j then d :: vs else v :: setk ks vs j d
  | _, vs, _, _ => vs
def D.sub : D → LK → Option D
  | .lst _ xs, .ix i => xs[i]?
  | .tup xs, .ix i => xs[i]?
  | .dct _ _ ks vs, .key k => lkk ks vs k
  | .ins _ _ fs vs, .fld f => lkk fs vs f
  | _, _ => none
def D.upd : D → LK → D → D
  | .lst m xs, .ix i, d => .lst m (xs.set i d)
  | .tup xs, .ix i, d => .tup (xs.set i d)
  | .dct m t ks vs, .key k, d => .dct m t ks (setk ks vs k d)
  | .ins m C fs vs, .fld f, d => .ins m C fs (setk fs vs f d)
  | x, _, _ => x
def D.get : D → List LK → Option D
  | d, [] => some d
  | d, k :: p => match d.sub k with
    | some c => c.get p
    | none => none
def D.put : D → List LK → D → D
  | _, [], d => d
  | x, k :: p, d => match x.sub k with
    | some c => x.upd k (c.put p d)
    | none => x

abbrev Ro := List (Option D)
def Ro.get (ρ : Ro) (l : Lo) : Option D := match ρ[l.1]? with
  | some (some d) => d.get l.2
  | _ => none
def Ro.put (ρ : Ro) (l : Lo) (d : D) : Ro := match ρ[l.1]? with
  | some (some x) => ρ.set l.1 (some (x.put l.2 d))
  | _ => ρ

/-! ### results -/
abbrev Fs := List (Str × D)
/-- of an expression: its value; where it stands (an alias), if it is not a thing of its own; whether nothing was changed on the way; the slots behind it -/
inductive R where
  | ok (d : D) (l : Option Lo) (st : Bool) (ρ : Ro)
  | exc (C : Str) (fs : Fs) (st : Bool)
  | bad
abbrev Ex := Ro → R
inductive TR where
  | ok (b : Bool) (st : Bool) (ρ : Ro)
  | exc (C : Str) (fs : Fs) (st : Bool)
  | bad
abbrev T := Ro → TR
/-- of arguments -/
inductive AR where
  | ok (ds : List D) (st : Bool) (ρ : Ro)
  | exc (C : Str) (fs : Fs) (st : Bool)
  | bad
abbrev A := Ro → AR
inductive SR where
  | nx (ρ : Ro) | rt (d : D) (ρ : Ro) | bk (ρ : Ro) | ct (ρ : Ro)
  | exc (C : Str) (fs : Fs)
  | bad
abbrev S := Ro → SR
/-- of a pure def -/
inductive P where
  | ret (d : D) | exc (C : Str) (fs : Fs) | bad
abbrev Fp := List D → P
/-- of a def that changes its first argument -/
inductive M where
  | ret (d : D) (io : D) | exc (C : Str) (fs : Fs) | bad
abbrev Fm := D → List D → M

/-- what is an alias is frozen where it stands; the value is one that may be kept -/
def R.own : R → R
  | .ok d none st ρ => .ok d none st ρ
  | .ok d (some l) st ρ => if d.fz then .ok d none st ρ else .ok d.frz none false (ρ.put l d.frz)
  | .exc C fs st => .exc C fs st
  | .bad => .bad
/-! ### expressions -/
/-! ### arguments: each one of its own -/
end IL
namespace IL
open PySem
/-! ### tests -/
/-! ### statements -/
/-- targets: a value of its own is stored -/
abbrev G := D → Ro → Option Ro
/-! ### loops -/
/-! ### defs -/
/-! ### calls -/
/-- arguments that are only seen: their values, the slots that hold such as are not frozen -/
inductive PR where
  | ok (ds : List D) (is : List Nat) (st : Bool) (ρ : Ro)
  | exc (C : Str) (fs : Fs) (st : Bool)
  | bad
abbrev Pe := Ro → PR
end IL
namespace IL
open PySem
/-! ### what is walked -/
inductive QR where
  | ok (ds : List D) (ρ : Ro) | exc (C : Str) (fs : Fs) (st : Bool) | bad
abbrev Sq := Ro → QR
def qOf (f : D → Option (List D)) (e : Ex) : Sq := fun ρ => match (e ρ).own with
  | .ok d _ _ ρ' => (match f d with
    | some ds => .ok ds ρ'
    | none => .bad)
  | .exc C fs st => .exc C fs st
  | .bad => .bad
end IL
namespace IL
open PySem
/-! ### list comprehensions -/
/-- slots forgotten -/
def wipeR (ρ : Ro) : List Nat → Ro
  | [] => ρ
  | v :: vs => (wipeR ρ vs).set v none
end IL
end
section
set_option Elab.async false
set_option linter.all false
set_option autoImplicit false
set_option maxRecDepth 100000
set_option maxHeartbeats 1000000
/-! IS: what IL's constructs say of the model, over HandS. Part 1: data in the heap. -/
namespace IS
open PySem PySem.Spec L2 IL LamX

abbrev Frag := PySem.W.Frag
/-- no table of code objects -/
def NT (o : HO) : Prop := ∀ ps, o ≠ .tbl ps
def Live (H : Hp) (a : Addr) : Prop := ∃ o, H a = some o ∧ NT o
/-- a key's texts are not too long -/
def KOk : L2.Key → Prop
  | .inl _ => True
  | .inr x => x.length ≤ sizeLine
/-- a dict's object -/
inductive DctO : Bool → HO → List DK → List V → Prop
  | k (kvs : List (L2.Key × V)) : (∀ p ∈ kvs, KOk p.1) → (kvs.map (·.1)).Nodup → DctO false (.dK kvs) (kvs.map fun p => .k p.1) (kvs.map (·.2))
  | t (kvs : List (List L2.Key × V)) : (∀ p ∈ kvs, p.1.length ≤ sizeLine ∧ ∀ x ∈ p.1, KOk x) → (kvs.map (·.1)).Nodup → DctO true (.dT kvs) (kvs.map fun p => .t p.1) (kvs.map (·.2))
/-- an object that may be changed in place -/
def MutK : HO → Prop
  | .lst _ => True
  | .dK _ => True
  | .dT _ => True
  | .ins _ _ _ => True
  | _ => False
abbrev ga := He.ga

/-- the object at f is the lambda r -/
def LamO (f : Addr) (r : LamR) (c : Addr) : HO := .ext fun h => ∃ pm ctv : Value, h.get? f = some (PySem.W.kla_obj "<lambda>" r.q r.params r.body r.scope [] pm c ctv)
mutual
/-- v, in the heap H, is the data d; fp: the owned objects; F: what is frozen -/
inductive Rep (K : Frag) (F : Addr → Prop) (H : Hp) : V → D → List Addr → Prop
  | non : Rep K F H .non .non []
  | bl (b : Bool) : Rep K F H (.bl b) (.bl b) []
  | int (i : Int) : Rep K F H (.int i) (.int i) []
  | str (x : Str) : x.length ≤ sizeLine → Rep K F H (.str x) (.str x) []
  | ty (n : String) : Rep K F H (.ty n) (.ty n) []
  | glo (x : Str) : Rep K F H (.ref (ga K x)) (.glo x) []
  | lstO {a : Addr} {vs : List V} {ds : List D} {fp : List Addr} : H a = some (.lst vs) → vs.length ≤ sizeLine → Reps K F H vs ds fp → Rep K F H (.ref a) (.lst true ds) (a :: fp)
  | lstF {a : Addr} {vs : List V} {ds : List D} : F a → Rd H a (.lst vs) → vs.length ≤ sizeLine → Reps K F H vs ds [] → Rep K F H (.ref a) (.lst false ds) []
  | scr {a : Addr} {ns : List Int} : (∀ H', (∀ o, H a = some (.frz o (.lst (ns.map .int))) → H' a = some (.frz o (.lst (ns.map .int)))) → SqL K H' a (ns.map .int)) → Rep K F H (.ref a) (.scr ns) []
  | lam {a c : Addr} (x : Str) {r : LamR} : H a = some (LamO a r c) → H c = some (CodeO c r.q) → Rep K F H (.ref a) (.lam x r) []
  | cel {a : Addr} {od : Obj} {vs : List V} {ds : List D} : H a = some (.frz od (.lst vs)) → vs.length ≤ sizeLine → Reps K F H vs ds [] → Rep K F H (.ref a) (.cel a ds) []
  | err {a dx : Addr} {C : Str} {fs : List Str} {vs : List V} {ds : List D} : H a = some (exo a (ga K C) (some dx)) → H dx = some (exd dx (fs.zip vs)) → fs.length = vs.length → Reps K F H vs ds [] → Rep K F H (.ref a) (.err C fs ds) []
  | err0 {a : Addr} {C : Str} : H a = some (exo a (ga K C) none) → Rep K F H (.ref a) (.err C [] []) []
  | tup {a : Addr} {vs : List V} {ds : List D} {fp : List Addr} : H a = some (.tup vs) → vs.length ≤ sizeLine → Reps K F H vs ds fp → Rep K F H (.ref a) (.tup ds) fp
  | dctO {a : Addr} {t : Bool} {o : HO} {ks : List DK} {vs : List V} {ds : List D} {fp : List Addr} : H a = some o → DctO t o ks vs → vs.length ≤ sizeLine → Reps K F H vs ds fp → Rep K F H (.ref a) (.dct true t ks ds) (a :: fp)
  | dctF {a : Addr} {t : Bool} {o : HO} {ks : List DK} {vs : List V} {ds : List D} : F a → Rd H a o → DctO t o ks vs → vs.length ≤ sizeLine → Reps K F H vs ds [] → Rep K F H (.ref a) (.dct false t ks ds) []
  | insO {a dx : Addr} {C : Str} {fs : List Str} {vs : List V} {ds : List D} {fp : List Addr} : H a = some (.ins (ga K C) dx (fs.zip vs)) → fs.length = vs.length → Reps K F H vs ds fp → Rep K F H (.ref a) (.ins true C fs ds) (a :: fp)
  | insF {a dx : Addr} {C : Str} {fs : List Str} {vs : List V} {ds : List D} : F a → H a = some (.ins (ga K C) dx (fs.zip vs)) → fs.length = vs.length → Reps K F H vs ds [] → Rep K F H (.ref a) (.ins false C fs ds) []
inductive Reps (K : Frag) (F : Addr → Prop) (H : Hp) : List V → List D → List Addr → Prop
  | nil : Reps K F H [] [] []
  | cons {v : V} {d : D} {fp : List Addr} {vs : List V} {ds : List D} {fps : List Addr} : Rep K F H v d fp → Reps K F H vs ds fps → Reps K F H (v :: vs) (d :: ds) (fp ++ fps)
end
/-- from one state to the next: what may have changed are the objects at S -/
def isD : HO → Prop
  | .dK _ => True
  | .dT _ => True
  | _ => False
/-- what stood at b stands (a frozen dict may have been locked) -/
def Kb (F' : Addr → Prop) (b : Addr) (o : HO) (H' : Hp) : Prop := H' b = some o ∨ (F' b ∧ isD o ∧ ∃ od, H' b = some (.frz od o))
structure Keeps (S : List Addr) (F : Addr → Prop) (H : Hp) (F' : Addr → Prop) (H' : Hp) : Prop where
  keep : ∀ b o, b ∉ S → H b = some o → NT o → Kb F' b o H'
  fr : ∀ a, F a → F' a
theorem Keeps.refl {S : List Addr} {F : Addr → Prop} {H : Hp} : Keeps S F H F H := ⟨fun _ _ _ e _ => .inl e, fun _ x => x⟩
theorem nomem2 {P : Addr → Prop} : ∀ a ∈ ([] : List Addr), P a := fun a h => absurd h List.not_mem_nil
theorem nt_of_mutK {o : HO} (h : MutK o) : NT o := fun ps e => by subst e; exact h
theorem DctO.mutK {t : Bool} {o : HO} {ks : List DK} {vs : List V} (h : DctO t o ks vs) : MutK o := by cases h <;> trivial
theorem DctO.len {t : Bool} {o : HO} {ks : List DK} {vs : List V} (h : DctO t o ks vs) : ks.length = vs.length := by cases h <;> simp
section
variable {K : Frag} {F F' : Addr → Prop} {H H' : Hp} {S : List Addr}
theorem Kb.ex {b : Addr} {o : HO} (h : Kb F' b o H') (n : ¬ F' b ∨ ¬ isD o) : H' b = some o := by
  rcases h with h | ⟨h1, h2, _⟩
  · exact h
  · rcases n with n | n
    · exact absurd h1 n
    · exact absurd h2 n
theorem Kb.rd {b : Addr} {o : HO} (h : Kb F' b o H') : Rd H' b o := by
  rcases h with h | ⟨_, _, od, h⟩
  · exact .inl h
  · exact .inr ⟨od, h⟩
theorem rd_keep {a : Addr} {u : HO} (k : Keeps S F H F' H') (ha : a ∉ S) (hu : NT u) (h : Rd H a u) : Rd H' a u := by
  rcases h with h | ⟨o, h⟩
  · exact (k.keep a _ ha h hu).rd
  · exact .inr ⟨o, (k.keep a _ ha h (fun ps e => nomatch e)).ex (.inr fun z => z)⟩
theorem sqT_keep {a : Addr} {vs : List V} (k : Keeps S F H F' H') (hS : ∀ a ∈ S, ∃ o, H a = some o ∧ MutK o) (h : H a = some (.tup vs)) : H' a = some (.tup vs) := by
  refine (k.keep a _ (fun z => ?_) h (fun ps e => nomatch e)).ex (.inr fun z => z)
  obtain ⟨u, e, m⟩ := hS a z
  rw [h] at e; cases e; exact m
theorem frz_keep {a : Addr} {od : Obj} {u : HO} (k : Keeps S F H F' H') (hS : ∀ a ∈ S, ∃ o, H a = some o ∧ MutK o) (h : H a = some (.frz od u)) : H' a = some (.frz od u) := by
  refine (k.keep a _ (fun z => ?_) h (fun ps e => nomatch e)).ex (.inr fun z => z)
  obtain ⟨u, e, m⟩ := hS a z
  rw [h] at e; cases e; exact m
theorem ext_keep {a : Addr} {p : Heap → Prop} (k : Keeps S F H F' H') (hS : ∀ a ∈ S, ∃ o, H a = some o ∧ MutK o) (h : H a = some (.ext p)) : H' a = some (.ext p) := by
  refine (k.keep a _ (fun z => ?_) h (fun ps e => nomatch e)).ex (.inr fun z => z)
  obtain ⟨u, e, m⟩ := hS a z
  rw [h] at e; cases e; exact m
end
theorem Rep.keep {K : Frag} {F F' : Addr → Prop} {H H' : Hp} {S : List Addr} (k : Keeps S F H F' H') (hS : ∀ a ∈ S, ∃ o, H a = some o ∧ MutK o) (hF : ∀ a ∈ S, ¬ F a) {v : V} {d : D} {fp : List Addr} (h : Rep K F H v d fp) : (∀ a ∈ fp, a ∉ S ∧ ¬ F' a) → Rep K F' H' v d fp := by
  refine Rep.rec (motive_1 := fun v d fp _ => (∀ a ∈ fp, a ∉ S ∧ ¬ F' a) → Rep K F' H' v d fp) (motive_2 := fun vs ds fp _ => (∀ a ∈ fp, a ∉ S ∧ ¬ F' a) → Reps K F' H' vs ds fp) ?_ ?_ ?_ ?_ ?_ ?_ ?_ ?_ ?_ ?_ ?_ ?_ ?_ ?_ ?_ ?_ ?_ ?_ ?_ ?_ h
  · exact fun _ => .non
  · exact fun b _ => .bl b
  · exact fun b _ => .int b
  · exact fun b l _ => .str b l
  · exact fun b _ => .ty b
  · exact fun b _ => .glo b
  · exact fun e l _ r h => .lstO ((k.keep _ _ (h _ (List.mem_cons_self ..)).1 e (fun ps z => nomatch z)).ex (.inr fun z => z)) l (r fun a z => h a (List.mem_cons_of_mem _ z))
  · intro a vs ds f e l _ r _
    have e' : Rd H' a (.lst vs) := rd_keep k (fun z => hF a z f) (nt_of_mutK trivial) e
    exact .lstF (k.fr a f) e' l (r nomem2)
  · intro a ns e _
    exact .scr fun H2 h2 => e H2 fun o ho => h2 o ((k.keep a _ (fun z => by
      obtain ⟨u, e', m⟩ := hS a z
      rw [ho] at e'; cases e'; exact m) ho (fun ps e => nomatch e)).ex (.inr fun z => z))
  · exact fun x _ e1 e2 _ => .lam x (ext_keep k hS e1) (ext_keep k hS e2)
  · exact fun e l _ r _ => .cel (frz_keep k hS e) l (r nomem2)
  · exact fun e1 e2 l _ r _ => .err (ext_keep k hS e1) (ext_keep k hS e2) l (r nomem2)
  · exact fun e _ => .err0 (ext_keep k hS e)
  · exact fun e l _ r h => .tup (sqT_keep k hS e) l (r h)
  · exact fun e c l _ r h => .dctO ((k.keep _ _ (h _ (List.mem_cons_self ..)).1 e (nt_of_mutK c.mutK)).ex (.inl (h _ (List.mem_cons_self ..)).2)) c l (r fun a z => h a (List.mem_cons_of_mem _ z))
  · intro a t o ks vs ds f e c l _ r _
    have e' : Rd H' a o := rd_keep k (fun z => hF a z f) (nt_of_mutK c.mutK) e
    exact .dctF (k.fr a f) e' c l (r nomem2)
  · exact fun e l _ r h => .insO ((k.keep _ _ (h _ (List.mem_cons_self ..)).1 e (fun ps z => nomatch z)).ex (.inr fun z => z)) l (r fun a z => h a (List.mem_cons_of_mem _ z))
  · intro a dx C fs vs ds f e l _ r _
    have e' := (k.keep _ _ (fun z => hF a z f) e (nt_of_mutK trivial)).ex (.inr fun z => z)
    exact .insF (k.fr a f) e' l (r nomem2)
  · exact fun _ => .nil
  · exact fun _ _ r q h => .cons (r fun a z => h a (List.mem_append_left _ z)) (q fun a z => h a (List.mem_append_right _ z))
theorem Reps.keep {K : Frag} {F F' : Addr → Prop} {H H' : Hp} {S : List Addr} (k : Keeps S F H F' H') (hS : ∀ a ∈ S, ∃ o, H a = some o ∧ MutK o) (hF : ∀ a ∈ S, ¬ F a) : ∀ {vs : List V} {ds : List D} {fp : List Addr}, Reps K F H vs ds fp → (∀ a ∈ fp, a ∉ S ∧ ¬ F' a) → Reps K F' H' vs ds fp := fun {vs ds fp} r => by
  induction vs generalizing ds fp with
  | nil => cases r; exact fun _ => .nil
  | cons v vs ih =>
    cases r with
    | cons r q => exact fun h => .cons (Rep.keep k hS hF r fun a z => h a (List.mem_append_left _ z)) (ih q fun a z => h a (List.mem_append_right _ z))
mutual
/-- the owned objects are such as may be changed -/
theorem Rep.mutk {K : Frag} {F : Addr → Prop} {H : Hp} : ∀ {v : V} {d : D} {fp : List Addr}, Rep K F H v d fp → ∀ a ∈ fp, ∃ o, H a = some o ∧ MutK o
  | _, _, _, .non, _, h => nomatch h
  | _, _, _, .bl b, _, h => nomatch h
  | _, _, _, .int b, _, h => nomatch h
  | _, _, _, .str b _, _, h => nomatch h
  | _, _, _, .ty b, _, h => nomatch h
  | _, _, _, .glo b, _, h => nomatch h
  | _, _, _, .lstO e _ r, a, h => by
    rcases List.mem_cons.mp h with rfl | h
    · exact ⟨_, e, trivial⟩
    · exact Reps.mutk r a h
  | _, _, _, .lstF f e _ r, _, h => nomatch h
  | _, _, _, .scr _, _, h => nomatch h
  | _, _, _, .lam _ _ _, _, h => nomatch h
  | _, _, _, .cel _ _ _, _, h => nomatch h
  | _, _, _, .err _ _ _ _, _, h => nomatch h
  | _, _, _, .err0 _, _, h => nomatch h
  | _, _, _, .tup e _ r, a, h => Reps.mutk r a h
  | _, _, _, .dctO e c _ r, a, h => by
    rcases List.mem_cons.mp h with rfl | h
    · exact ⟨_, e, c.mutK⟩
    · exact Reps.mutk r a h
  | _, _, _, .dctF f e c _ r, _, h => nomatch h
  | _, _, _, .insO e l r, a, h => by
    rcases List.mem_cons.mp h with rfl | h
    · exact ⟨_, e, trivial⟩
    · exact Reps.mutk r a h
  | _, _, _, .insF f e l r, _, h => nomatch h
theorem Reps.mutk {K : Frag} {F : Addr → Prop} {H : Hp} : ∀ {vs : List V} {ds : List D} {fp : List Addr}, Reps K F H vs ds fp → ∀ a ∈ fp, ∃ o, H a = some o ∧ MutK o
  | _, _, _, .nil, _, h => nomatch h
  | _, _, _, .cons r q, a, h => (List.mem_append.mp h).elim (Rep.mutk r a) (Reps.mutk q a)
end
mutual
/-- all of it frozen -/
theorem Rep.frz {K : Frag} {F F' : Addr → Prop} {H : Hp} (hf : ∀ a, F a → F' a) : ∀ {v : V} {d : D} {fp : List Addr}, Rep K F H v d fp → (∀ a ∈ fp, F' a) → Rep K F' H v d.frz []
  | _, _, _, .non, _ => .non
  | _, _, _, .bl b, _ => .bl b
  | _, _, _, .int b, _ => .int b
  | _, _, _, .str b l, _ => .str b l
  | _, _, _, .ty b, _ => .ty b
  | _, _, _, .glo b, _ => .glo b
  | _, _, _, .lstO e l r, h => by
    unfold D.frz
    exact .lstF (h _ (List.mem_cons_self ..)) (.inl e) l (Reps.frz hf r fun a z => h a (List.mem_cons_of_mem _ z))
  | _, _, _, .lstF f e l r, h => by
    unfold D.frz
    exact .lstF (hf _ f) e l (Reps.frz hf r fun a z => nomatch z)
  | _, _, _, .scr e, _ => .scr e
  | _, _, _, .lam x e1 e2, _ => .lam x e1 e2
  | _, _, _, .cel e l r, h => by
    unfold D.frz
    exact .cel e l (Reps.frz hf r fun a z => nomatch z)
  | _, _, _, .err e1 e2 l r, h => by
    unfold D.frz
    exact .err e1 e2 l (Reps.frz hf r fun a z => nomatch z)
  | _, _, _, .err0 e, h => by
    unfold D.frz frzs
    exact .err0 e
  | _, _, _, .tup e l r, h => by
    unfold D.frz
    exact .tup e l (Reps.frz hf r h)
  | _, _, _, .dctO e c l r, h => by
    unfold D.frz
    exact .dctF (h _ (List.mem_cons_self ..)) (.inl e) c l (Reps.frz hf r fun a z => h a (List.mem_cons_of_mem _ z))
  | _, _, _, .dctF f e c l r, h => by
    unfold D.frz
    exact .dctF (hf _ f) e c l (Reps.frz hf r fun a z => nomatch z)
  | _, _, _, .insO e l r, h => by
    unfold D.frz
    exact .insF (h _ (List.mem_cons_self ..)) e l (Reps.frz hf r fun a z => h a (List.mem_cons_of_mem _ z))
  | _, _, _, .insF f e l r, h => by
    unfold D.frz
    exact .insF (hf _ f) e l (Reps.frz hf r fun a z => nomatch z)
theorem Reps.frz {K : Frag} {F F' : Addr → Prop} {H : Hp} (hf : ∀ a, F a → F' a) : ∀ {vs : List V} {ds : List D} {fp : List Addr}, Reps K F H vs ds fp → (∀ a ∈ fp, F' a) → Reps K F' H vs (frzs ds) []
  | _, _, _, .nil, _ => by
    unfold frzs
    exact .nil
  | _, _, _, .cons r q, h => by
    unfold frzs
    exact .cons (fp := []) (fps := []) (Rep.frz hf r fun a z => h a (List.mem_append_left _ z)) (Reps.frz hf q fun a z => h a (List.mem_append_right _ z))
end
end IS
end
section
set_option Elab.async false
set_option linter.all false
set_option autoImplicit false
set_option maxRecDepth 100000
set_option maxHeartbeats 1000000
/-! IS, part 2: places within data, the slots. -/
namespace IS
open PySem PySem.Spec L2 IL LamX

def lkV {κ : Type} [DecidableEq κ] : List κ → List V → κ → Option V
  | k :: ks, v :: vs, j => if k = j then some v else lkV ks vs j
  | _, _, _ => none
/-- along a path of subscripts and attributes -/
inductive Fol (H : Hp) : V → List LK → V → Prop
  | nil (v : V) : Fol H v [] v
  | lst {a : Addr} {vs : List V} {i : Nat} {w u : V} {p : List LK} : Rd H a (.lst vs) → vs[i]? = some w → Fol H w p u → Fol H (.ref a) (.ix i :: p) u
  | tup {a : Addr} {vs : List V} {i : Nat} {w u : V} {p : List LK} : Rd H a (.tup vs) → vs[i]? = some w → Fol H w p u → Fol H (.ref a) (.ix i :: p) u
  | dct {a : Addr} {t : Bool} {o : HO} {ks : List DK} {vs : List V} {k : DK} {w u : V} {p : List LK} : Rd H a o → DctO t o ks vs → lkV ks vs k = some w → Fol H w p u → Fol H (.ref a) (.key k :: p) u
  | ins {a C dx : Addr} {fs : List Str} {vs : List V} {f : Str} {w u : V} {p : List LK} : H a = some (.ins C dx (fs.zip vs)) → fs.length = vs.length → lkV fs vs f = some w → Fol H w p u → Fol H (.ref a) (.fld f :: p) u
theorem rd_inj {H : Hp} {a : Addr} {u u' : HO} (h : Rd H a u) (h' : Rd H a u') (n : ∀ o x, u ≠ .frz o x) (n' : ∀ o x, u' ≠ .frz o x) : u = u' := by
  rcases h with h | ⟨o, h⟩ <;> rcases h' with h' | ⟨o', h'⟩ <;> rw [h] at h' <;> cases h'
  · rfl
  · exact absurd rfl (n _ _)
  · exact absurd rfl (n' _ _)
  · rfl
theorem DctO.nofrz {t : Bool} {o : HO} {ks : List DK} {vs : List V} (h : DctO t o ks vs) (u : Obj) (x : HO) : o ≠ .frz u x := by cases h <;> exact fun z => nomatch z
theorem DctO.inj {t t' : Bool} {o : HO} {ks ks' : List DK} {vs vs' : List V} (h : DctO t o ks vs) (h' : DctO t' o ks' vs') : ks = ks' ∧ vs = vs' ∧ t = t' := by
  cases h <;> cases h' <;> exact ⟨rfl, rfl, rfl⟩
section
variable {K : Frag} {F : Addr → Prop} {H : Hp}
theorem reps_at : ∀ {vs : List V} {ds : List D} {fp : List Addr} {i : Nat} {w : V} {c : D}, Reps K F H vs ds fp → vs[i]? = some w → ds[i]? = some c →
    ∃ pre fc post, fp = pre ++ (fc ++ post) ∧ Rep K F H w c fc ∧ ∀ (F' : Addr → Prop) (H' : Hp) (w' : V) (c' : D) (fc' : List Addr), (∀ {v d f}, Rep K F H v d f → (∀ a ∈ f, a ∈ pre ∨ a ∈ post) → Rep K F' H' v d f) → Rep K F' H' w' c' fc' → Reps K F' H' (vs.set i w') (ds.set i c') (pre ++ (fc' ++ post))
  | _, _, _, i, w, c, .nil, e, _ => by simp at e
  | _, _, _, 0, w, c, .cons (fp := fp) (fps := fps) r q, e, e' => by
    simp at e e'
    subst e e'
    refine ⟨[], fp, fps, rfl, r, fun F' H' w' c' fc' hk hr => ?_⟩
    have hq : ∀ {vs : List V} {ds : List D} {f : List Addr}, Reps K F H vs ds f → (∀ a ∈ f, a ∈ fps) → Reps K F' H' vs ds f := by
      intro vs ds f q hf
      induction vs generalizing ds f with
      | nil => cases q; exact .nil
      | cons v vs ih =>
        cases q with
        | cons r q => exact .cons (hk r fun a ha => .inr (hf a (List.mem_append_left _ ha))) (ih q fun a ha => hf a (List.mem_append_right _ ha))
    show Reps K F' H' (w' :: _) (c' :: _) (fc' ++ fps)
    exact .cons hr (hq q fun a h => h)
  | _, _, _, i + 1, w, c, .cons (fp := fp) (fps := fps) r q, e, e' => by
    simp at e e'
    obtain ⟨pre, fc, post, e1, r1, h1⟩ := reps_at q e e'
    refine ⟨fp ++ pre, fc, post, by rw [e1]; simp, r1, fun F' H' w' c' fc' hk hr => ?_⟩
    have h2 := h1 F' H' w' c' fc' (fun r hf => hk r fun a ha => (hf a ha).imp (fun z => List.mem_append_right _ z) id) hr
    rw [List.append_assoc]
    exact .cons (hk r fun a ha => .inl (List.mem_append_left _ ha)) h2
theorem lkk_at {κ : Type} [DecidableEq κ] : ∀ {ks : List κ} {ds : List D} {vs : List V} {k : κ} {w : V} {c : D}, lkV ks vs k = some w → lkk ks ds k = some c →
    ∃ i : Nat, vs[i]? = some w ∧ ds[i]? = some c ∧ ∀ d, setk ks ds k d = ds.set i d
  | k :: ks, d :: ds, v :: vs, j, w, c, e, e' => by
    unfold lkV at e
    unfold lkk at e'
    by_cases h : k = j
    · rw [if_pos h] at e e'
      exact ⟨0, by simpa using e, by simpa using e', fun d => by unfold setk; rw [if_pos h]; rfl⟩
    · rw [if_neg h] at e e'
      obtain ⟨i, h1, h2, h3⟩ := lkk_at e e'
      exact ⟨i + 1, by simpa using h1, by simpa using h2, fun d => by unfold setk; rw [if_neg h, h3]; rfl⟩
  | [], _, _, _, _, _, e, _ => by simp [lkV] at e
  | _ :: _, [], _, _, _, _, _, e => by simp [lkk] at e
  | _ :: _, _ :: _, [], _, _, _, e, _ => by simp [lkV] at e
theorem set_self {α : Type} : ∀ {l : List α} {i : Nat} {x : α}, l[i]? = some x → l.set i x = l
  | [], i, x, e => by simp at e
  | y :: l, 0, x, e => by simp at e; subst e; rfl
  | y :: l, i + 1, x, e => by simp at e; simp [set_self e]

/-- the thing at the end of a path, and what becomes of the whole when it is changed -/
theorem focus : ∀ {p : List LK} {v0 v : V} {d0 d : D} {fp : List Addr}, Rep K F H v0 d0 fp → Fol H v0 p v → d0.get p = some d →
    ∃ pre fd post, fp = pre ++ (fd ++ post) ∧ Rep K F H v d fd ∧ ∀ (F' : Addr → Prop) (H' : Hp) (d' : D) (fd' : List Addr), Keeps fd F H F' H' → (∀ a ∈ fd, ¬ F a) → (∀ a ∈ fd, a ∉ pre ∧ a ∉ post) → (∀ a, a ∈ pre ∨ a ∈ post → ¬ F' a) →
      (fd = [] → fd' = []) → Rep K F' H' v d' fd' → Rep K F' H' v0 (d0.put p d') (pre ++ (fd' ++ post))
  | [], v0, v, d0, d, fp, r, f, e => by
    cases f
    simp only [D.get, Option.some.injEq] at e
    subst e
    exact ⟨[], fp, [], by simp, r, fun F' H' d' fd' _ _ _ _ _ r' => by simpa [D.put] using r'⟩
  | .ix i :: p, v0, v, d0, d, fp, r, f, e => by
    unfold D.get at e
    cases hs : d0.sub (.ix i) with
    | none => rw [hs] at e; cases e
    | some c =>
      rw [hs] at e
      have hput : ∀ d', d0.put (.ix i :: p) d' = d0.upd (.ix i) (c.put p d') := fun d' => by rw [D.put, hs]
      cases f with
      | @lst a0 vs0 _ w0 _ _ hr hw f =>
        cases r with
        | lstO ha hl q =>
          cases rd_inj hr (.inl ha) (fun _ _ z => nomatch z) (fun _ _ z => nomatch z)
          obtain ⟨pre, fc, post, e1, r1, h1⟩ := reps_at q hw hs
          obtain ⟨pre2, fd, post2, e2, r2, h2⟩ := focus r1 f e
          refine ⟨a0 :: (pre ++ pre2), fd, post2 ++ post, by rw [e1, e2]; simp, r2, fun F' H' d' fd' k nf nd nfp h0 r' => ?_⟩
          have mk := r2.mutk
          have hk : ∀ {v d f}, Rep K F H v d f → (∀ a ∈ f, a ∈ pre ∨ a ∈ post) → Rep K F' H' v d f := fun r hf => r.keep k mk nf fun a ha => ⟨fun z => by
            have := nd a z
            rcases hf a ha with q | q <;> simp [q] at this, nfp a (by rcases hf a ha with q | q <;> simp [q])⟩
          have h3 := h1 F' H' _ _ _ hk (h2 F' H' d' fd' k nf (fun a ha => ⟨fun z => (nd a ha).1 (by simp [z]), fun z => (nd a ha).2 (by simp [z])⟩) (fun a ha => nfp a (by rcases ha with q | q <;> simp [q])) h0 r')
          rw [set_self hw] at h3
          rw [hput]
          have ha' := (k.keep _ _ (fun z => (nd _ z).1 (List.mem_cons_self ..)) ha (nt_of_mutK trivial)).ex (.inr fun z => z)
          have := Rep.lstO (K := K) (F := F') ha' hl h3
          simpa [D.upd] using this
        | lstF hf ha hl q =>
          cases rd_inj hr ha (fun _ _ z => nomatch z) (fun _ _ z => nomatch z)
          obtain ⟨pre, fc, post, e1, r1, h1⟩ := reps_at q hw hs
          obtain ⟨rfl, rfl, rfl⟩ : pre = [] ∧ fc = [] ∧ post = [] := by simpa using e1.symm
          obtain ⟨pre2, fd, post2, e2, r2, h2⟩ := focus r1 f e
          obtain ⟨rfl, rfl, rfl⟩ : pre2 = [] ∧ fd = [] ∧ post2 = [] := by simpa using e2.symm
          refine ⟨[], [], [], rfl, r2, fun F' H' d' fd' k nf nd nfp h0 r' => ?_⟩
          have hk : ∀ {v d f}, Rep K F H v d f → (∀ a ∈ f, a ∈ ([] : List Addr) ∨ a ∈ ([] : List Addr)) → Rep K F' H' v d f := fun r hf => r.keep k nomem2 nf fun a ha => absurd (hf a ha) (by simp)
          have e0 := h0 rfl
          subst e0
          have h3 := h1 F' H' _ _ _ hk (h2 F' H' d' [] k nf nomem2 (fun a ha => absurd ha (by simp)) h0 r')
          rw [set_self hw] at h3
          rw [hput]
          have := Rep.lstF (K := K) (F := F') (k.fr _ hf) (rd_keep k List.not_mem_nil (nt_of_mutK trivial) ha) hl h3
          simpa [D.upd] using this
        | scr _ => simp [D.sub] at hs
        | lam _ _ _ => simp [D.sub] at hs
        | cel _ _ _ => simp [D.sub] at hs
        | err _ _ _ _ => simp [D.sub] at hs
        | err0 _ => simp [D.sub] at hs
        | tup ha hl q => exact absurd (rd_inj hr (.inl ha) (fun _ _ z => nomatch z) (fun _ _ z => nomatch z)) (fun z => nomatch z)
        | glo _ => simp [D.sub] at hs
        | dctO _ _ _ _ => simp [D.sub] at hs
        | dctF _ _ _ _ _ => simp [D.sub] at hs
        | insO _ _ _ => simp [D.sub] at hs
        | insF _ _ _ _ => simp [D.sub] at hs
      | @tup a0 vs0 _ w0 _ _ hr hw f =>
        cases r with
        | tup ha hl q =>
          cases rd_inj hr (.inl ha) (fun _ _ z => nomatch z) (fun _ _ z => nomatch z)
          obtain ⟨pre, fc, post, e1, r1, h1⟩ := reps_at q hw hs
          obtain ⟨pre2, fd, post2, e2, r2, h2⟩ := focus r1 f e
          refine ⟨pre ++ pre2, fd, post2 ++ post, by rw [e1, e2]; simp, r2, fun F' H' d' fd' k nf nd nfp h0 r' => ?_⟩
          have mk := r2.mutk
          have hk : ∀ {v d f}, Rep K F H v d f → (∀ a ∈ f, a ∈ pre ∨ a ∈ post) → Rep K F' H' v d f := fun r hf => r.keep k mk nf fun a ha => ⟨fun z => by
            have := nd a z
            rcases hf a ha with q | q <;> simp [q] at this, nfp a (by rcases hf a ha with q | q <;> simp [q])⟩
          have h3 := h1 F' H' _ _ _ hk (h2 F' H' d' fd' k nf (fun a ha => ⟨fun z => (nd a ha).1 (by simp [z]), fun z => (nd a ha).2 (by simp [z])⟩) (fun a ha => nfp a (by rcases ha with q | q <;> simp [q])) h0 r')
          rw [set_self hw] at h3
          rw [hput]
          have := Rep.tup (K := K) (F := F') (sqT_keep k mk ha) hl h3
          simpa [D.upd] using this
        | lstO ha hl q => exact absurd (rd_inj hr (.inl ha) (fun _ _ z => nomatch z) (fun _ _ z => nomatch z)) (fun z => nomatch z)
        | lstF hf ha hl q => exact absurd (rd_inj hr ha (fun _ _ z => nomatch z) (fun _ _ z => nomatch z)) (fun z => nomatch z)
        | scr _ => simp [D.sub] at hs
        | lam _ _ _ => simp [D.sub] at hs
        | cel _ _ _ => simp [D.sub] at hs
        | err _ _ _ _ => simp [D.sub] at hs
        | err0 _ => simp [D.sub] at hs
        | glo _ => simp [D.sub] at hs
        | dctO _ _ _ _ => simp [D.sub] at hs
        | dctF _ _ _ _ _ => simp [D.sub] at hs
        | insO _ _ _ => simp [D.sub] at hs
        | insF _ _ _ _ => simp [D.sub] at hs
  | .key k0 :: p, v0, v, d0, d, fp, r, f, e => by
    unfold D.get at e
    cases hs : d0.sub (.key k0) with
    | none => rw [hs] at e; cases e
    | some c =>
      rw [hs] at e
      have hput : ∀ d', d0.put (.key k0 :: p) d' = d0.upd (.key k0) (c.put p d') := fun d' => by rw [D.put, hs]
      cases f with
      | @dct a0 t0 o0 ks0 vs0 _ w0 _ _ hr hc hw f =>
        cases r with
        | dctO ha hc' hl q =>
          cases rd_inj hr (.inl ha) hc.nofrz hc'.nofrz
          obtain ⟨rfl, rfl, rfl⟩ := hc.inj hc'
          obtain ⟨i, g1, g2, g3⟩ := lkk_at hw hs
          obtain ⟨pre, fc, post, e1, r1, h1⟩ := reps_at q g1 g2
          obtain ⟨pre2, fd, post2, e2, r2, h2⟩ := focus r1 f e
          refine ⟨a0 :: (pre ++ pre2), fd, post2 ++ post, by rw [e1, e2]; simp, r2, fun F' H' d' fd' k nf nd nfp h0 r' => ?_⟩
          have mk := r2.mutk
          have hk : ∀ {v d f}, Rep K F H v d f → (∀ a ∈ f, a ∈ pre ∨ a ∈ post) → Rep K F' H' v d f := fun r hf => r.keep k mk nf fun a ha => ⟨fun z => by
            have := nd a z
            rcases hf a ha with q | q <;> simp [q] at this, nfp a (by rcases hf a ha with q | q <;> simp [q])⟩
          have h3 := h1 F' H' _ _ _ hk (h2 F' H' d' fd' k nf (fun a ha => ⟨fun z => (nd a ha).1 (by simp [z]), fun z => (nd a ha).2 (by simp [z])⟩) (fun a ha => nfp a (by rcases ha with q | q <;> simp [q])) h0 r')
          rw [set_self g1] at h3
          rw [hput]
          have ha' := (k.keep _ _ (fun z => (nd _ z).1 (List.mem_cons_self ..)) ha (nt_of_mutK hc.mutK)).ex (.inl (nfp _ (.inl (List.mem_cons_self ..))))
          have := Rep.dctO (K := K) (F := F') ha' hc hl h3
          simpa [D.upd, g3] using this
        | dctF hf ha hc' hl q =>
          cases rd_inj hr ha hc.nofrz hc'.nofrz
          obtain ⟨rfl, rfl, rfl⟩ := hc.inj hc'
          obtain ⟨i, g1, g2, g3⟩ := lkk_at hw hs
          obtain ⟨pre, fc, post, e1, r1, h1⟩ := reps_at q g1 g2
          obtain ⟨rfl, rfl, rfl⟩ : pre = [] ∧ fc = [] ∧ post = [] := by simpa using e1.symm
          obtain ⟨pre2, fd, post2, e2, r2, h2⟩ := focus r1 f e
          obtain ⟨rfl, rfl, rfl⟩ : pre2 = [] ∧ fd = [] ∧ post2 = [] := by simpa using e2.symm
          refine ⟨[], [], [], rfl, r2, fun F' H' d' fd' k nf nd nfp h0 r' => ?_⟩
          have hk : ∀ {v d f}, Rep K F H v d f → (∀ a ∈ f, a ∈ ([] : List Addr) ∨ a ∈ ([] : List Addr)) → Rep K F' H' v d f := fun r hf => r.keep k nomem2 nf fun a ha => absurd (hf a ha) (by simp)
          have e0 := h0 rfl
          subst e0
          have h3 := h1 F' H' _ _ _ hk (h2 F' H' d' [] k nf nomem2 (fun a ha => absurd ha (by simp)) h0 r')
          rw [set_self g1] at h3
          rw [hput]
          have := Rep.dctF (K := K) (F := F') (k.fr _ hf) (rd_keep k List.not_mem_nil (nt_of_mutK hc.mutK) ha) hc hl h3
          simpa [D.upd, g3] using this
        | lstO _ _ _ => simp [D.sub] at hs
        | lstF _ _ _ _ => simp [D.sub] at hs
        | tup _ _ _ => simp [D.sub] at hs
        | scr _ => simp [D.sub] at hs
        | lam _ _ _ => simp [D.sub] at hs
        | cel _ _ _ => simp [D.sub] at hs
        | err _ _ _ _ => simp [D.sub] at hs
        | err0 _ => simp [D.sub] at hs
        | glo _ => simp [D.sub] at hs
        | insO _ _ _ => simp [D.sub] at hs
        | insF _ _ _ _ => simp [D.sub] at hs
  | .fld f0 :: p, v0, v, d0, d, fp, r, f, e => by
    unfold D.get at e
    cases hs : d0.sub (.fld f0) with
    | none => rw [hs] at e; cases e
    | some c =>
      rw [hs] at e
      have hput : ∀ d', d0.put (.fld f0 :: p) d' = d0.upd (.fld f0) (c.put p d') := fun d' => by rw [D.put, hs]
      have hzip : ∀ {fs fs' : List Str} {vs vs' : List V}, fs.length = vs.length → fs'.length = vs'.length → fs.zip vs = fs'.zip vs' → fs = fs' ∧ vs = vs' := by
        intro fs fs' vs vs' l l' e
        have a := congrArg List.unzip e
        rw [List.unzip_zip l, List.unzip_zip l'] at a
        exact ⟨congrArg Prod.fst a, congrArg Prod.snd a⟩
      cases f with
      | @ins a0 C0 dx0 fs0 vs0 _ w0 _ _ hr hl hw f =>
        cases r with
        | insO ha hl' q =>
          have hz := hr.symm.trans ha
          simp only [Option.some.injEq, HO.ins.injEq] at hz
          obtain ⟨_, _, hz⟩ := hz
          obtain ⟨rfl, rfl⟩ := hzip hl hl' hz
          obtain ⟨i, g1, g2, g3⟩ := lkk_at hw hs
          obtain ⟨pre, fc, post, e1, r1, h1⟩ := reps_at q g1 g2
          obtain ⟨pre2, fd, post2, e2, r2, h2⟩ := focus r1 f e
          refine ⟨a0 :: (pre ++ pre2), fd, post2 ++ post, by rw [e1, e2]; simp, r2, fun F' H' d' fd' k nf nd nfp h0 r' => ?_⟩
          have mk := r2.mutk
          have hk : ∀ {v d f}, Rep K F H v d f → (∀ a ∈ f, a ∈ pre ∨ a ∈ post) → Rep K F' H' v d f := fun r hf => r.keep k mk nf fun a ha => ⟨fun z => by
            have := nd a z
            rcases hf a ha with q | q <;> simp [q] at this, nfp a (by rcases hf a ha with q | q <;> simp [q])⟩
          have h3 := h1 F' H' _ _ _ hk (h2 F' H' d' fd' k nf (fun a ha => ⟨fun z => (nd a ha).1 (by simp [z]), fun z => (nd a ha).2 (by simp [z])⟩) (fun a ha => nfp a (by rcases ha with q | q <;> simp [q])) h0 r')
          rw [set_self g1] at h3
          rw [hput]
          have ha' := (k.keep _ _ (fun z => (nd _ z).1 (List.mem_cons_self ..)) ha (nt_of_mutK trivial)).ex (.inr fun z => z)
          have := Rep.insO (K := K) (F := F') ha' hl' h3
          simpa [D.upd, g3] using this
        | insF hf ha hl' q =>
          have hz := hr.symm.trans ha
          simp only [Option.some.injEq, HO.ins.injEq] at hz
          obtain ⟨_, _, hz⟩ := hz
          obtain ⟨rfl, rfl⟩ := hzip hl hl' hz
          obtain ⟨i, g1, g2, g3⟩ := lkk_at hw hs
          obtain ⟨pre, fc, post, e1, r1, h1⟩ := reps_at q g1 g2
          obtain ⟨rfl, rfl, rfl⟩ : pre = [] ∧ fc = [] ∧ post = [] := by simpa using e1.symm
          obtain ⟨pre2, fd, post2, e2, r2, h2⟩ := focus r1 f e
          obtain ⟨rfl, rfl, rfl⟩ : pre2 = [] ∧ fd = [] ∧ post2 = [] := by simpa using e2.symm
          refine ⟨[], [], [], rfl, r2, fun F' H' d' fd' k nf nd nfp h0 r' => ?_⟩
          have hk : ∀ {v d f}, Rep K F H v d f → (∀ a ∈ f, a ∈ ([] : List Addr) ∨ a ∈ ([] : List Addr)) → Rep K F' H' v d f := fun r hf => r.keep k nomem2 nf fun a ha => absurd (hf a ha) (by simp)
          have e0 := h0 rfl
          subst e0
          have h3 := h1 F' H' _ _ _ hk (h2 F' H' d' [] k nf nomem2 (fun a ha => absurd ha (by simp)) h0 r')
          rw [set_self g1] at h3
          rw [hput]
          have := Rep.insF (K := K) (F := F') (k.fr _ hf) ((k.keep _ _ List.not_mem_nil ha (nt_of_mutK trivial)).ex (.inr fun z => z)) hl' h3
          simpa [D.upd, g3] using this
        | lstO _ _ _ => simp [D.sub] at hs
        | lstF _ _ _ _ => simp [D.sub] at hs
        | tup _ _ _ => simp [D.sub] at hs
        | scr _ => simp [D.sub] at hs
        | lam _ _ _ => simp [D.sub] at hs
        | cel _ _ _ => simp [D.sub] at hs
        | err _ _ _ _ => simp [D.sub] at hs
        | err0 _ => simp [D.sub] at hs
        | glo _ => simp [D.sub] at hs
        | dctO _ _ _ _ => simp [D.sub] at hs
        | dctF _ _ _ _ _ => simp [D.sub] at hs
end
end IS
end
section
set_option Elab.async false
set_option linter.all false
set_option autoImplicit false
set_option maxRecDepth 100000
set_option maxHeartbeats 1000000
/-! IS, part 3: slots, the readings of expressions. -/
namespace IS
open PySem PySem.Spec L2 IL LamX

inductive REnv (K : Frag) (F : Addr → Prop) (H : Hp) : L2.St → Ro → List Addr → Prop
  | nil : REnv K F H [] [] []
  | skip {o : Option V} {σ : L2.St} {ρ : Ro} {fps : List Addr} : REnv K F H σ ρ fps → REnv K F H (o :: σ) (none :: ρ) fps
  | cons {v : V} {d : D} {fp : List Addr} {σ : L2.St} {ρ : Ro} {fps : List Addr} : Rep K F H v d fp → REnv K F H σ ρ fps → REnv K F H (some v :: σ) (some d :: ρ) (fp ++ fps)
section
variable {K : Frag} {F F' : Addr → Prop} {H H' : Hp}
theorem renv_map {S : List Addr} (hk : ∀ {v d f}, Rep K F H v d f → (∀ a ∈ f, a ∈ S) → Rep K F' H' v d f) : ∀ {σ : L2.St} {ρ : Ro} {fps : List Addr}, REnv K F H σ ρ fps → (∀ a ∈ fps, a ∈ S) → REnv K F' H' σ ρ fps
  | _, _, _, .nil, _ => .nil
  | _, _, _, .skip r, h => .skip (renv_map hk r h)
  | _, _, _, .cons r q, h => .cons (hk r fun a z => h a (List.mem_append_left _ z)) (renv_map hk q fun a z => h a (List.mem_append_right _ z))
theorem renv_mutk : ∀ {σ : L2.St} {ρ : Ro} {fps : List Addr}, REnv K F H σ ρ fps → ∀ a ∈ fps, ∃ o, H a = some o ∧ MutK o
  | _, _, _, .nil, _, h => nomatch h
  | _, _, _, .skip r, a, h => renv_mutk r a h
  | _, _, _, .cons r q, a, h => (List.mem_append.mp h).elim (r.mutk a) (renv_mutk q a)
/-- a slot -/
theorem renv_at : ∀ {σ : L2.St} {ρ : Ro} {fps : List Addr} {i : Nat} {d : D}, REnv K F H σ ρ fps → ρ[i]? = some (some d) →
    ∃ v pre fd post, σ[i]? = some (some v) ∧ fps = pre ++ (fd ++ post) ∧ Rep K F H v d fd ∧ ∀ (F' : Addr → Prop) (H' : Hp) (v' : V) (d' : D) (fd' : List Addr), (∀ {v d f}, Rep K F H v d f → (∀ a ∈ f, a ∈ pre ∨ a ∈ post) → Rep K F' H' v d f) →
      Rep K F' H' v' d' fd' → REnv K F' H' (σ.set i (some v')) (ρ.set i (some d')) (pre ++ (fd' ++ post))
  | _, _, _, i, d, .nil, e => by simp at e
  | _, _, _, 0, d, .skip r, e => by simp at e
  | _, _, _, i + 1, d, .skip r, e => by
    simp at e
    obtain ⟨v, pre, fd, post, e1, e2, r1, h1⟩ := renv_at r e
    exact ⟨v, pre, fd, post, by simpa using e1, e2, r1, fun F' H' v' d' fd' hk hr => .skip (h1 F' H' v' d' fd' hk hr)⟩
  | _, _, _, 0, d, .cons (v := v) (fp := fp) (fps := fps) r q, e => by
    simp at e
    subst e
    refine ⟨v, [], fp, fps, rfl, rfl, r, fun F' H' v' d' fd' hk hr => ?_⟩
    show REnv K F' H' (some v' :: _) (some d' :: _) (fd' ++ fps)
    exact .cons hr (renv_map (S := fps) (fun r hf => hk r fun a ha => .inr (hf a ha)) q fun a h => h)
  | _, _, _, i + 1, d, .cons (v := v) (fp := fp) (fps := fps) r q, e => by
    simp at e
    obtain ⟨w, pre, fd, post, e1, e2, r1, h1⟩ := renv_at q e
    refine ⟨w, fp ++ pre, fd, post, by simpa using e1, by rw [e2]; simp, r1, fun F' H' v' d' fd' hk hr => ?_⟩
    rw [List.append_assoc]
    exact .cons (hk r fun a ha => .inl (List.mem_append_left _ ha)) (h1 F' H' v' d' fd' (fun r hf => hk r fun a ha => (hf a ha).imp (fun z => List.mem_append_right _ z) id) hr)
/-- a slot is stored -/
theorem renv_set : ∀ {σ : L2.St} {ρ : Ro} {fps : List Addr} {i : Nat}, REnv K F H σ ρ fps → i < ρ.length →
    ∃ pre fd post, fps = pre ++ (fd ++ post) ∧ ∀ (v' : V) (d' : D) (fd' : List Addr), Rep K F H v' d' fd' → REnv K F H (σ.set i (some v')) (ρ.set i (some d')) (pre ++ (fd' ++ post))
  | _, _, _, i, .nil, e => by simp at e
  | _, _, _, 0, .skip (fps := fps) r, e => ⟨[], [], fps, rfl, fun v' d' fd' hr => by
    show REnv K F H (some v' :: _) (some d' :: _) (fd' ++ fps)
    exact .cons hr r⟩
  | _, _, _, i + 1, .skip r, e => by
    obtain ⟨pre, fd, post, e2, h1⟩ := renv_set r (i := i) (by simpa using e)
    exact ⟨pre, fd, post, e2, fun v' d' fd' hr => .skip (h1 v' d' fd' hr)⟩
  | _, _, _, 0, .cons (v := v) (fp := fp) (fps := fps) r q, e => ⟨[], fp, fps, rfl, fun v' d' fd' hr => by
    show REnv K F H (some v' :: _) (some d' :: _) (fd' ++ fps)
    exact .cons hr q⟩
  | _, _, _, i + 1, .cons (v := v) (fp := fp) (fps := fps) r q, e => by
    obtain ⟨pre, fd, post, e2, h1⟩ := renv_set q (i := i) (by simpa using e)
    refine ⟨fp ++ pre, fd, post, by rw [e2]; simp, fun v' d' fd' hr => ?_⟩
    rw [List.append_assoc]
    exact .cons r (h1 v' d' fd' hr)
end

abbrev Tb := List (Addr × Str)
structure Ok (K : Frag) (T : Tb) (F : Addr → Prop) (H : Hp) (σ : L2.St) (ρ : Ro) (fps : List Addr) : Prop where
  env : REnv K F H σ ρ fps
  nd : fps.Nodup
  nf : ∀ a ∈ fps, ¬ F a
  lv : ∀ a, F a → Live H a
  tb : Tabs T H
/-- what may have become of the heap: the objects of fps have changed, fps' are owned now -/
theorem Kb.trans {F1 F2 : Addr → Prop} {H1 H2 : Hp} {b : Addr} {o : HO} (a : Kb F1 b o H1) (k : ∀ o', H1 b = some o' → NT o' → Kb F2 b o' H2) (n : NT o) (fr : ∀ a, F1 a → F2 a) : Kb F2 b o H2 := by
  rcases a with a | ⟨a1, a2, od, a3⟩
  · exact k o a n
  · exact .inr ⟨fr _ a1, a2, od, (k _ a3 (fun ps z => nomatch z)).ex (.inr fun z => z)⟩
theorem Kb.live {F1 : Addr → Prop} {H1 : Hp} {b : Addr} {o : HO} (a : Kb F1 b o H1) (n : NT o) : Live H1 b := by
  rcases a with a | ⟨_, _, od, a⟩
  · exact ⟨_, a, n⟩
  · exact ⟨_, a, fun ps z => nomatch z⟩
structure Evo (F : Addr → Prop) (H : Hp) (fps : List Addr) (F' : Addr → Prop) (H' : Hp) (fps' : List Addr) : Prop where
  keep : ∀ b o, b ∉ fps → H b = some o → NT o → Kb F' b o H'
  new : ∀ a ∈ fps', a ∈ fps ∨ ¬ Live H a
  fr : ∀ a, F a → F' a
  fn : ∀ a, F' a → F a ∨ a ∈ fps ∨ ¬ Live H a
theorem Evo.refl {F : Addr → Prop} {H : Hp} {fps : List Addr} : Evo F H fps F H fps := ⟨fun _ _ _ e _ => .inl e, fun a h => .inl h, fun _ h => h, fun _ h => .inl h⟩
theorem Evo.keeps {F F' : Addr → Prop} {H H' : Hp} {fps fps' : List Addr} (e : Evo F H fps F' H' fps') : Keeps fps F H F' H' := ⟨e.keep, e.fr⟩
theorem Evo.trans {F F1 F2 : Addr → Prop} {H H1 H2 : Hp} {fps fps1 fps2 : List Addr} (a : Evo F H fps F1 H1 fps1) (b : Evo F1 H1 fps1 F2 H2 fps2) : Evo F H fps F2 H2 fps2 := by
  have live : ∀ c, c ∉ fps → Live H c → Live H1 c := fun c hc ⟨o, e, n⟩ => (a.keep c o hc e n).live n
  have not1 : ∀ c, c ∉ fps → Live H c → c ∉ fps1 := fun c hc hl z => (a.new c z).elim hc (fun q => q hl)
  refine ⟨fun c o hc e n => (a.keep c o hc e n).trans (fun o' e' n' => b.keep c o' (not1 c hc ⟨o, e, n⟩) e' n') n b.fr, fun c hc => ?_, fun c h => b.fr c (a.fr c h), fun c hc => ?_⟩
  · rcases b.new c hc with h | h
    · exact a.new c h
    · by_cases h1 : c ∈ fps
      · exact .inl h1
      · exact .inr fun z => h (live c h1 z)
  · rcases b.fn c hc with h | h | h
    · exact a.fn c h
    · exact .inr (a.new c h)
    · by_cases h1 : c ∈ fps
      · exact .inr (.inl h1)
      · exact .inr (.inr fun z => h (live c h1 z))
/-- owned things are forgotten -/
theorem Evo.sub {F F' : Addr → Prop} {H H' : Hp} {fps fps' fps2 : List Addr} (e : Evo F H fps F' H' fps') (h : ∀ a ∈ fps2, a ∈ fps') : Evo F H fps F' H' fps2 := ⟨e.keep, fun a z => e.new a (h a z), e.fr, e.fn⟩
/-- more might have changed -/
theorem Evo.more {F F' : Addr → Prop} {H H' : Hp} {fps fps' fps0 : List Addr} (e : Evo F H fps F' H' fps') (h : ∀ a ∈ fps, a ∈ fps0) : Evo F H fps0 F' H' fps' :=
  ⟨fun b o hb => e.keep b o fun z => hb (h b z), fun a z => (e.new a z).imp (h a) id, e.fr, fun a z => (e.fn a z).imp id (Or.imp (h a) id)⟩
theorem live_of {H : Hp} {a : Addr} (h : ∃ o, H a = some o ∧ MutK o) : Live H a := let ⟨o, e, m⟩ := h; ⟨o, e, nt_of_mutK m⟩

structure VOk (K : Frag) (T : Tb) (F : Addr → Prop) (H : Hp) (σ : L2.St) (ρ : Ro) (fps : List Addr) (v : V) (d : D) (fd : List Addr) : Prop where
  ok : Ok K T F H σ ρ fps
  rep : Rep K F H v d fd
  nd : (fps ++ fd).Nodup
  nf : ∀ a ∈ fd, ¬ F a
def AllKeep (H : Hp) (F' : Addr → Prop) (H' : Hp) : Prop := ∀ b o, H b = some o → NT o → Kb F' b o H'
def Stb (st : Bool) (ρ ρ' : Ro) (fps fps' : List Addr) (H : Hp) (F' : Addr → Prop) (H' : Hp) : Prop := st = true → ρ' = ρ ∧ fps' = fps ∧ AllKeep H F' H'
theorem Stb.refl {st : Bool} {ρ : Ro} {fps : List Addr} {H : Hp} {F : Addr → Prop} : Stb st ρ ρ fps fps H F H := fun _ => ⟨rfl, rfl, fun _ _ e _ => .inl e⟩
theorem Stb.trans {s1 s2 : Bool} {ρ ρ1 ρ2 : Ro} {fps fps1 fps2 : List Addr} {H H1 H2 : Hp} {F1 F2 : Addr → Prop} (a : Stb s1 ρ ρ1 fps fps1 H F1 H1) (b : Stb s2 ρ1 ρ2 fps1 fps2 H1 F2 H2) (fr : ∀ a, F1 a → F2 a) : Stb (s1 && s2) ρ ρ2 fps fps2 H F2 H2 := fun h => by
  simp only [Bool.and_eq_true] at h
  obtain ⟨rfl, rfl, k1⟩ := a h.1
  obtain ⟨rfl, rfl, k2⟩ := b h.2
  exact ⟨rfl, rfl, fun c o e n => (k1 c o e n).trans (fun o' e' n' => k2 c o' e' n') n fr⟩
theorem Stb.no {ρ ρ' : Ro} {fps fps' : List Addr} {H H' : Hp} {F' : Addr → Prop} : Stb false ρ ρ' fps fps' H F' H' := fun h => nomatch h
def AtL (H : Hp) (σ : L2.St) (l : Lo) (v : V) : Prop := ∃ v0, σ[l.1]? = some (some v0) ∧ Fol H v0 l.2 v
/-- an error in flight: its class, its own dict -/
def ExcR (K : Frag) (F : Addr → Prop) (H : Hp) (C : Str) (fs : Fs) (cls : Value) (dx : Option Addr) : Prop :=
  cls = .ref (ga K C) ∧ ((fs = [] ∧ dx = none) ∨ ∃ (a : Addr) (vs : List V), dx = some a ∧ vs.length = fs.length ∧ H a = some (.xd ((fs.map (·.1)).zip vs)) ∧ Reps K F H vs (fs.map (·.2)) [])
def exS (st : Bool) (fps : List Addr) : List Addr := if st then [] else fps
/-- an error wished for, whatever the slots -/
abbrev WK := Value → Option Addr → Hp → Prop
/-- the wish of R's error -/
def ExcW (K : Frag) (T : Tb) (W : WK) (F : Addr → Prop) (H : Hp) (fps : List Addr) (C : Str) (fs : Fs) (st : Bool) : Prop :=
  ∀ (cls : Value) (dx : Option Addr) (F' : Addr → Prop) (H' : Hp), ExcR K F' H' C fs cls dx → (∀ a, F' a → Live H' a) → Tabs T H' → Evo F H (exS st fps) F' H' [] → W cls dx H'
section
variable {X : Cx} {K : Frag} {T : Tb} {W : WK} {e : Expr} {t t' : TE} {m : Ex}
/-! ### the slot at a place -/
variable {F : Addr → Prop} {H : Hp} {σ : L2.St} {ρ : Ro} {fps : List Addr}
theorem Ok.at (o : Ok K T F H σ ρ fps) {l : Lo} {v : V} {d : D} (h : AtL H σ l v) (g : ρ.get l = some d) :
    ∃ pre fd post, fps = pre ++ (fd ++ post) ∧ Rep K F H v d fd ∧ (∀ a ∈ fd, a ∉ pre ∧ a ∉ post) ∧ ∀ (F' : Addr → Prop) (H' : Hp) (d' : D) (fd' : List Addr), Keeps fd F H F' H' → (∀ a, a ∈ pre ∨ a ∈ post → ¬ F' a) → (fd = [] → fd' = []) → Rep K F' H' v d' fd' →
      REnv K F' H' σ (ρ.put l d') (pre ++ (fd' ++ post)) := by
  obtain ⟨i, p⟩ := l
  obtain ⟨v0, h1, h2⟩ := h
  unfold Ro.get at g
  cases e : ρ[i]? with
  | none => rw [e] at g; cases g
  | some od =>
    rw [e] at g
    cases od with
    | none => cases g
    | some d0 =>
      simp only at g
      obtain ⟨w, pre, f0, post, e1, e2, r1, k1⟩ := renv_at o.env e
      have hv : w = v0 := by
        have := e1.symm.trans h1
        simpa using this
      subst hv
      obtain ⟨pre2, fd, post2, e3, r2, k2⟩ := focus r1 h2 g
      have nd := o.nd
      rw [e2, e3] at nd
      have dis : ∀ a ∈ fd, a ∉ pre ++ pre2 ∧ a ∉ post2 ++ post := by
        intro a ha
        simp only [List.nodup_append, List.mem_append] at nd
        grind
      refine ⟨pre ++ pre2, fd, post2 ++ post, by rw [e2, e3]; simp, r2, dis, fun F' H' d' fd' k nfp h0 r' => ?_⟩
      have nf : ∀ a ∈ fd, ¬ F a := fun a ha => o.nf a (by rw [e2, e3]; simp [ha])
      have mk := r2.mutk
      have r3 := k2 F' H' d' fd' k nf (fun a ha => ⟨fun z => (dis a ha).1 (by simp [z]), fun z => (dis a ha).2 (by simp [z])⟩) (fun a ha => nfp a (by rcases ha with q | q <;> simp [q])) h0 r'
      have hk : ∀ {v d f}, Rep K F H v d f → (∀ a ∈ f, a ∈ pre ∨ a ∈ post) → Rep K F' H' v d f := fun r hf => r.keep k mk nf fun a ha => ⟨fun z => by
        have := dis a z
        rcases hf a ha with q | q <;> simp [q] at this, nfp a (by rcases hf a ha with q | q <;> simp [q])⟩
      have r4 := k1 F' H' w _ _ hk r3
      rw [set_self e1] at r4
      have hput : Ro.put ρ (i, p) d' = ρ.set i (some (d0.put p d')) := by
        unfold Ro.put
        simp only [e]
      rw [hput]
      simpa using r4
end
end IS
end
section
set_option Elab.async false
set_option linter.all false
set_option autoImplicit false
set_option maxRecDepth 100000
set_option maxHeartbeats 1000000
/-! IS, part 4: expressions. -/
namespace IS
open PySem PySem.Spec L2 IL LamX

theorem nomem' {P : Addr → Prop} : ∀ a ∈ ([] : List Addr), P a := fun a h => absurd h List.not_mem_nil
theorem rd_all {H H' : Hp} {F' : Addr → Prop} {a : Addr} {u : HO} (k : AllKeep H F' H') (hu : NT u) (h : Rd H a u) : Rd H' a u := by
  rcases h with h | ⟨o, h⟩
  · exact (k a _ h hu).rd
  · exact .inr ⟨o, (k a _ h (fun ps e => nomatch e)).ex (.inr fun z => z)⟩
theorem Fol.keep {H H' : Hp} {F' : Addr → Prop} (k : AllKeep H F' H') : ∀ {v : V} {p : List LK} {w : V}, Fol H v p w → Fol H' v p w := fun {v p w} f => by
  induction f with
  | nil v => exact .nil v
  | lst r e _ ih => exact .lst (rd_all k (nt_of_mutK trivial) r) e ih
  | tup r e _ ih => exact .tup (rd_all k (fun ps z => nomatch z) r) e ih
  | dct r c e _ ih => exact .dct (rd_all k (nt_of_mutK c.mutK) r) c e ih
  | ins r l e _ ih => exact .ins ((k _ _ r (nt_of_mutK trivial)).ex (.inr fun z => z)) l e ih
theorem AtL.keep {H H' : Hp} {F' : Addr → Prop} {σ : L2.St} {l : Lo} {v : V} (k : AllKeep H F' H') (h : AtL H σ l v) : AtL H' σ l v := let ⟨v0, a, b⟩ := h; ⟨v0, a, b.keep k⟩
/-- things of their own beside the slots -/
structure AOk (K : Frag) (T : Tb) (F : Addr → Prop) (H : Hp) (σ : L2.St) (ρ : Ro) (fps : List Addr) (vs : List V) (ds : List D) (fd : List Addr) : Prop where
  ok : Ok K T F H σ ρ fps
  rep : Reps K F H vs ds fd
  nd : (fps ++ fd).Nodup
  nf : ∀ a ∈ fd, ¬ F a
/-- they stand while something else goes on -/
theorem AOk.frame {K : Frag} {T : Tb} {F F' : Addr → Prop} {H H' : Hp} {σ : L2.St} {ρ : Ro} {fps fps' fd fx : List Addr} {vs : List V} {ds : List D} (h : AOk K T F H σ ρ fps vs ds fd) (e : Evo F H fps F' H' (fps' ++ fx)) :
    Reps K F' H' vs ds fd ∧ (∀ a ∈ fd, ¬ F' a) ∧ (∀ a ∈ fd, a ∉ fps' ∧ a ∉ fx) ∧ Evo F H (fps ++ fd) F' H' (fps' ++ (fd ++ fx)) := by
  have hd : ∀ a ∈ fd, a ∉ fps := fun a ha z => by
    have := h.nd
    simp only [List.nodup_append] at this
    exact this.2.2 a z a ha rfl
  have lv : ∀ a ∈ fd, Live H a := fun a ha => live_of (h.rep.mutk a ha)
  have nF : ∀ a ∈ fd, ¬ F' a := fun a ha z => by
    rcases e.fn a z with q | q | q
    · exact h.nf a ha q
    · exact hd a ha q
    · exact q (lv a ha)
  refine ⟨h.rep.keep e.keeps (renv_mutk h.ok.env) h.ok.nf fun a ha => ⟨hd a ha, nF a ha⟩, nF, fun a ha => ?_, ?_⟩
  · have : a ∉ fps' ++ fx := fun z => (e.new a z).elim (hd a ha) fun q => q (lv a ha)
    simpa using this
  · refine ⟨fun b o hb => e.keep b o fun z => hb (List.mem_append_left _ z), fun a z => ?_, e.fr, fun a z => (e.fn a z).imp id (Or.imp (List.mem_append_left _) id)⟩
    simp only [List.mem_append] at z
    rcases z with z | z | z
    · exact (e.new a (List.mem_append_left _ z)).imp (List.mem_append_left _) id
    · exact .inl (List.mem_append_right _ z)
    · exact (e.new a (List.mem_append_right _ z)).imp (List.mem_append_left _) id

section
variable {X : Cx} {T : Tb} {W : WK} {e e' : Expr} {es : List Expr} {t t' : TE} {m m' : Ex} {F : Addr → Prop} {H : Hp} {σ : L2.St} {ρ : Ro} {fps : List Addr} {pos : Pos}
/-! ### the value as one of its own -/
end
end IS
end
section
set_option Elab.async false
set_option linter.all false
set_option autoImplicit false
set_option maxRecDepth 100000
set_option maxHeartbeats 1000000
/-! IS, part 5: arguments, displays, operations. -/
namespace IS
open PySem PySem.Spec L2 IL LamX
section
variable {X : Cx} {T : Tb} {W : WK} {e a b : Expr} {es : List Expr} {t t' : TE} {ta : TA} {m m' ma mb : Ex} {ar : A} {F : Addr → Prop} {H : Hp} {σ : L2.St} {ρ : Ro} {fps : List Addr} {pos : Pos}

theorem AOk.trans {K : Frag} {F1 F2 : Addr → Prop} {H1 H2 : Hp} {ρ1 ρ2 : Ro} {fps1 fps2 fd1 fd2 : List Addr} {vs ws : List V} {ds xs : List D} (v1 : AOk K T F1 H1 σ ρ1 fps1 vs ds fd1) (v2 : AOk K T F2 H2 σ ρ2 fps2 ws xs fd2)
    (e2 : Evo F1 H1 fps1 F2 H2 (fps2 ++ fd2)) : (Reps K F2 H2 vs ds fd1 ∧ (fps2 ++ (fd1 ++ fd2)).Nodup ∧ ∀ a ∈ fd1 ++ fd2, ¬ F2 a) ∧ Evo F1 H1 (fps1 ++ fd1) F2 H2 (fps2 ++ (fd1 ++ fd2)) := by
  obtain ⟨r, nf, dis, ev⟩ := v1.frame e2
  refine ⟨⟨r, ?_, fun a z => ?_⟩, ev⟩
  · have n1 := v1.nd
    have n2 := v2.nd
    simp only [List.nodup_append, List.mem_append] at n1 n2 ⊢
    grind
  · rcases List.mem_append.mp z with z | z
    · exact nf a z
    · exact v2.nf a z

/-! ### arguments -/
theorem upd_keep {H : Hp} {F : Addr → Prop} {p : Addr} {o : HO} (h : H p = none) : AllKeep H F (upd H p o) := fun b u e _ => .inl (by rw [upd_ne (ne_of_none e h)]; exact e)
theorem live_none {H : Hp} {p : Addr} (h : H p = none) : ¬ Live H p := fun ⟨o, e, _⟩ => by rw [h] at e; cases e
theorem tabs_upd {H : Hp} {p : Addr} {o : HO} (t : Tabs T H) (h : H p = none) : Tabs T (upd H p o) := t.ext fun b u e => by rw [upd_ne (ne_of_none e h)]; exact e
/-- a new object is laid -/
theorem Ok.laid {K : Frag} {p : Addr} {o : HO} (ok : Ok K T F H σ ρ fps) (h : H p = none) : Ok K T F (upd H p o) σ ρ fps :=
  ⟨renv_map (S := fps) (fun {v d f} r hf => r.keep (S := []) ⟨fun b u _ e n => upd_keep h b u e n, fun _ z => z⟩ nomem' nomem' (fun a z => ⟨List.not_mem_nil, ok.nf a (hf a z)⟩)) ok.env fun a z => z, ok.nd, ok.nf, fun a z => let ⟨u, e, n⟩ := ok.lv a z; (upd_keep (F := F) h a u e n).live n, tabs_upd ok.tb h⟩
theorem Reps.laid {K : Frag} {p : Addr} {o : HO} {vs : List V} {ds : List D} {f : List Addr} (h : H p = none) (r : Reps K F H vs ds f) (nf : ∀ a ∈ f, ¬ F a) : Reps K F (upd H p o) vs ds f :=
  r.keep (S := []) ⟨fun b u _ e n => upd_keep h b u e n, fun _ z => z⟩ nomem' nomem' (fun a z => ⟨List.not_mem_nil, nf a z⟩)
theorem Rep.laid {K : Frag} {p : Addr} {o : HO} {v : V} {d : D} {f : List Addr} (h : H p = none) (r : Rep K F H v d f) (nf : ∀ a ∈ f, ¬ F a) : Rep K F (upd H p o) v d f :=
  r.keep (S := []) ⟨fun b u _ e n => upd_keep h b u e n, fun _ z => z⟩ nomem' nomem' (fun a z => ⟨List.not_mem_nil, nf a z⟩)
theorem evo_laid {p : Addr} {o : HO} {f : List Addr} (h : H p = none) : Evo F H f F (upd H p o) (f ++ [p]) :=
  ⟨fun b u _ e n => upd_keep h b u e n, fun a z => by
    simp at z
    rcases z with z | rfl
    · exact .inl z
    · exact .inr (live_none h), fun _ z => z, fun _ z => .inl z⟩
/-! ### operations whose answer is an atom -/
end
end IS
end
section
set_option Elab.async false
set_option linter.all false
set_option autoImplicit false
set_option maxRecDepth 100000
set_option maxHeartbeats 1000000
/-! IS, part 6: tests, statements. -/
namespace IS
open PySem PySem.Spec L2 IL LamX
/-- no slots but those of n may change -/
def Kp (n : Nat → Prop) (σ σ' : L2.St) : Prop := σ'.length = σ.length ∧ ∀ j, ¬ n j → σ'[j]? = σ[j]?
theorem Kp.refl {n : Nat → Prop} {σ : L2.St} : Kp n σ σ := ⟨rfl, fun _ _ => rfl⟩
theorem Kp.trans {n : Nat → Prop} {a b c : L2.St} (h : Kp n a b) (h' : Kp n b c) : Kp n a c := ⟨h'.1.trans h.1, fun j l => (h'.2 j l).trans (h.2 j l)⟩
def tTR (K : Frag) (T : Tb) (W : WK) (r : TR) (F : Addr → Prop) (ρ : Ro) (fps : List Addr) : TT := fun σ H Q => match r with
  | .ok b st ρ' => ∀ (F' : Addr → Prop) (H' : Hp) (fps' : List Addr), Ok K T F' H' σ ρ' fps' → Evo F H fps F' H' fps' → Stb st ρ ρ' fps fps' H F' H' → Q b H'
  | .exc C fs st => ExcW K T W F H fps C fs st
  | .bad => False
def tT (K : Frag) (T : Tb) (W : WK) (m : IL.T) : TT := fun σ H Q => ∃ F ρ fps, Ok K T F H σ ρ fps ∧ tTR K T W (m ρ) F ρ fps σ H Q
def tG (K : Frag) (T : Tb) (n : Nat → Prop) (g : G) : TG := fun v σ H Q => ∃ F ρ fps d fd, VOk K T F H σ ρ fps v d fd ∧ match g d ρ with
  | some ρ' => ∀ (σ' : L2.St) (F' : Addr → Prop) (H' : Hp) (fps' : List Addr), Ok K T F' H' σ' ρ' fps' → Evo F H (fps ++ fd) F' H' fps' → Kp n σ σ' → Q σ' H'
  | none => False

section
variable {X : Cx} {T : Tb} {W : WK} {e a b : Expr} {es : List Expr} {t t' : TE} {tt : TT} {m m' ma mb : Ex} {u u' : IL.T} {F : Addr → Prop} {H : Hp} {σ : L2.St} {ρ : Ro} {fps : List Addr} {pos : Pos} {n : Nat → Prop} {st : Stmt} {sts : List Stmt} {s s' : S} {g : G} {tg : Expr}
/-! ### tests -/
variable {rest : List Expr}
/-! ### statements -/
/-- what is wanted behind a first part, from what is wanted behind both -/
theorem ExcW.then {K : Frag} {F1 : Addr → Prop} {H1 : Hp} {fps1 fx : List Addr} {C : Str} {fs : Fs} {k : Bool} (h : ExcW K T W F H fps C fs false) (e : Evo F H fps F1 H1 (fps1 ++ fx)) : ExcW K T W F1 H1 fps1 C fs k := fun cls dx F' H' hr hv ht e2 =>
  h cls dx F' H' hr hv ht (e.trans (e2.more fun a z => by cases k <;> simp [exS] at z ⊢; exact .inl z))
/-! ### targets -/
theorem Kp.set {i : Nat} {o : Option V} (h : n i) : Kp n σ (σ.set i o) := ⟨by simp, fun j l => by
  rw [List.getElem?_set_ne (fun e : i = j => l (by rw [← e]; exact h))]⟩
/-- a slot is stored with a thing of its own -/
theorem VOk.set {K : Frag} {i : Nat} {v : V} {d : D} {fd : List Addr} (vo : VOk K T F H σ ρ fps v d fd) (hi : i < ρ.length) : ∃ fps', Ok K T F H (σ.set i (some v)) (ρ.set i (some d)) fps' ∧ ∀ a ∈ fps', a ∈ fps ++ fd := by
  obtain ⟨pre, fo, post, e, k⟩ := renv_set vo.ok.env hi
  have nd := vo.nd
  refine ⟨pre ++ (fd ++ post), ⟨k v d fd vo.rep, ?_, fun a z => ?_, vo.ok.lv, vo.ok.tb⟩, fun a z => ?_⟩
  · rw [e] at nd
    simp only [List.nodup_append, List.mem_append] at nd ⊢
    grind
  · simp only [List.mem_append] at z
    rcases z with z | z | z
    · exact vo.ok.nf a (by rw [e]; simp [z])
    · exact vo.nf a z
    · exact vo.ok.nf a (by rw [e]; simp [z])
  · rw [e]
    simp only [List.mem_append] at z ⊢
    grind
end
end IS
end
section
set_option Elab.async false
set_option linter.all false
set_option autoImplicit false
set_option maxRecDepth 100000
set_option maxHeartbeats 1000000
/-! IS, part 7: what is walked, for, while, list comprehensions. -/
namespace IS
open PySem PySem.Spec L2 IL LamX
/-- J hands out the data ds; I: how it stands at a turn, with what it owns still -/
structure Gives (K : Frag) (J : It) (ds : List D) (I : Nat → (Addr → Prop) → Hp → List Addr → Prop) : Prop where
  keep : ∀ (i : Nat) (F : Addr → Prop) (H : Hp) (fr S : List Addr) (F' : Addr → Prop) (H' : Hp), I i F H fr → Keeps S F H F' H' → (∀ a ∈ S, ∃ o, H a = some o ∧ MutK o) → (∀ a ∈ S, ¬ F a) → (∀ a ∈ fr, a ∉ S ∧ ¬ F' a) → I i F' H' fr
  mutk : ∀ (i : Nat) (F : Addr → Prop) (H : Hp) (fr : List Addr), I i F H fr → ∀ a ∈ fr, ∃ o, H a = some o ∧ MutK o
  go : ∀ (i : Nat) (F : Addr → Prop) (H : Hp) (fr : List Addr) (d : D), I i F H fr → ds[i]? = some d → J.go i H ∧ ∀ x H', J.yld i H x H' → ∃ fd fr', Rep K F H' x d fd ∧ I (i + 1) F H' fr' ∧ AllKeep H F H' ∧ (∀ T, Tabs T H → Tabs T H') ∧ (∀ a ∈ fd ++ fr', a ∈ fr) ∧ (fr.Nodup → (fd ++ fr').Nodup)
  stop : ∀ (F : Addr → Prop) (H : Hp) (fr : List Addr), I ds.length F H fr → J.stop ds.length H
section
variable {X : Cx} {T : Tb} {W : WK} {e a b : Expr} {F : Addr → Prop} {H : Hp} {σ : L2.St} {ρ : Ro} {fps : List Addr} {pos : Pos} {n : Nat → Prop} {st : Stmt} {s : S} {g : G} {q : Sq} {tg : Expr} {m : Ex} {u : IL.T}
theorem Ok.all {K : Frag} {H' : Hp} (ok : Ok K T F H σ ρ fps) (k : AllKeep H F H') (ht : ∀ T, Tabs T H → Tabs T H') : Ok K T F H' σ ρ fps :=
  ⟨renv_map (S := fps) (fun {v d f} r hf => r.keep (S := []) ⟨fun b u _ e n => k b u e n, fun _ z => z⟩ nomem' nomem' (fun a z => ⟨List.not_mem_nil, ok.nf a (hf a z)⟩)) ok.env fun a z => z, ok.nd, ok.nf, fun a z => let ⟨u, e, n⟩ := ok.lv a z; (k a u e n).live n, ht T ok.tb⟩
theorem evo_all {H' : Hp} {f f' : List Addr} (k : AllKeep H F H') (h : ∀ a ∈ f', a ∈ f) : Evo F H f F H' f' := ⟨fun b o _ => k b o, fun a z => .inl (h a z), fun _ z => z, fun _ z => .inl z⟩
end
end IS
end
section
set_option Elab.async false
set_option linter.all false
set_option autoImplicit false
set_option maxRecDepth 100000
set_option maxHeartbeats 1000000
/-! IS, part 8: list comprehensions. -/
namespace IS
open PySem PySem.Spec L2 IL LamX
/-- nothing is let out -/
abbrev W0 : WK := fun _ _ _ => False
theorem wipe_get {σ : L2.St} : ∀ {vs : List Nat} {j : Nat}, (wipe σ vs)[j]? = if j ∈ vs ∧ j < σ.length then some none else σ[j]?
  | [], j => by simp [wipe]
  | v :: vs, j => by
    unfold wipe
    by_cases hj : v = j
    · subst hj
      by_cases hl : v < σ.length
      · rw [List.getElem?_set_self (by rw [wipe_length]; exact hl)]
        simp [hl]
      · rw [List.getElem?_eq_none (by rw [List.length_set, wipe_length]; omega), List.getElem?_eq_none (l := σ) (by omega)]
        simp [hl]
    · rw [List.getElem?_set_ne hj, wipe_get]
      have : j ≠ v := fun e => hj e.symm
      simp [this]
theorem wipe_kp {σ σ' : L2.St} {vs : List Nat} (h : Kp (· ∈ vs) σ σ') : wipe σ' vs = wipe σ vs := by
  apply List.ext_getElem?
  intro j
  rw [wipe_get, wipe_get, h.1]
  by_cases hj : j ∈ vs
  · by_cases hl : j < σ.length
    · simp [hj, hl]
    · simp [hj, hl]
      rw [h.1]
      omega
  · simp [hj]
    exact h.2 j hj
theorem wipe_wipe {σ : L2.St} {vs : List Nat} : wipe (wipe σ vs) vs = wipe σ vs := wipe_kp ⟨wipe_length σ vs, fun j hj => by rw [wipe_get]; simp [hj]⟩
section
variable {K : Frag} {F : Addr → Prop} {H : Hp}
theorem renv_none : ∀ {σ : L2.St} {ρ : Ro} {fps : List Addr} {i : Nat} (o : Option V), REnv K F H σ ρ fps → ∃ fps', REnv K F H (σ.set i o) (ρ.set i none) fps' ∧ fps'.Sublist fps
  | _, _, _, i, o, .nil => ⟨[], by simpa using REnv.nil, .slnil⟩
  | _, _, _, 0, o, .skip (fps := fps) r => ⟨fps, .skip r, .refl _⟩
  | _, _, _, i + 1, o, .skip (fps := fps) r => let ⟨f, a, b⟩ := renv_none (i := i) o r; ⟨f, .skip a, b⟩
  | _, _, _, 0, o, .cons (fp := fp) (fps := fps) q r => ⟨fps, .skip r, List.sublist_append_right fp fps⟩
  | _, _, _, i + 1, o, .cons (fp := fp) (fps := fps) q r => let ⟨f, a, b⟩ := renv_none (i := i) o r; ⟨fp ++ f, .cons q a, (List.Sublist.refl fp).append b⟩
theorem renv_wipe {σ : L2.St} {ρ : Ro} {fps : List Addr} (r : REnv K F H σ ρ fps) : ∀ vs : List Nat, ∃ fps', REnv K F H (wipe σ vs) (wipeR ρ vs) fps' ∧ fps'.Sublist fps
  | [] => ⟨fps, r, .refl _⟩
  | v :: vs => by
    obtain ⟨f, a, b⟩ := renv_wipe r vs
    obtain ⟨f', a', b'⟩ := renv_none (i := v) none a
    exact ⟨f', a', b'.trans b⟩
end
section
variable {X : Cx} {T : Tb} {W : WK} {e elt tg iter : Expr} {F : Addr → Prop} {H : Hp} {σ : L2.St} {ρ : Ro} {fps : List Addr} {pos : Pos} {g : G} {q : Sq} {m : Ex} {u : IL.T} {vs : List Nat}
theorem Ok.wipe {K : Frag} (ok : Ok K T F H σ ρ fps) (vs : List Nat) : ∃ fps', Ok K T F H (L2.wipe σ vs) (wipeR ρ vs) fps' ∧ fps'.Sublist fps := by
  obtain ⟨f, a, b⟩ := renv_wipe ok.env vs
  exact ⟨f, ⟨a, ok.nd.sublist b, fun x z => ok.nf x (b.subset z), ok.lv, ok.tb⟩, b⟩
end
end IS
end
section
set_option Elab.async false
set_option linter.all false
set_option autoImplicit false
set_option maxRecDepth 100000
set_option maxHeartbeats 1000000
/-! IS, part 9: what a pure def promises; its calls. -/
namespace IS
open PySem PySem.Spec L2 IL LamX
section
variable {X : Cx} {pins : List (Addr × Obj)} {σ : L2.St} {H H' : Hp} {s : Shared}
end

/-! ### arguments that are only seen -/
section
variable {K : Frag} {F F' : Addr → Prop} {H H' : Hp} {σ : L2.St}
/-- the values: things of their own, or at places of slots is -/
inductive PVs (K : Frag) (F : Addr → Prop) (H : Hp) (σ : L2.St) (ρ : Ro) : List V → List D → List Nat → List Addr → Prop
  | nil : PVs K F H σ ρ [] [] [] []
  | tmp {v : V} {d : D} {fd : List Addr} {vs : List V} {ds : List D} {is : List Nat} {fds : List Addr} : Rep K F H v d fd → PVs K F H σ ρ vs ds is fds → PVs K F H σ ρ (v :: vs) (d :: ds) is (fd ++ fds)
  | loc {v : V} {d : D} {l : Lo} {vs : List V} {ds : List D} {is : List Nat} {fds : List Addr} : AtL H σ l v → ρ.get l = some d → PVs K F H σ ρ vs ds is fds → PVs K F H σ ρ (v :: vs) (d :: ds) (l.1 :: is) fds
theorem PVs.mutk {ρ : Ro} : ∀ {vs : List V} {ds : List D} {is : List Nat} {fd : List Addr}, PVs K F H σ ρ vs ds is fd → ∀ a ∈ fd, ∃ o, H a = some o ∧ MutK o
  | _, _, _, _, .nil, _, h => nomatch h
  | _, _, _, _, .tmp r q, a, h => (List.mem_append.mp h).elim (r.mutk a) (q.mutk a)
  | _, _, _, _, .loc _ _ q, a, h => q.mutk a h
theorem PVs.len {ρ : Ro} : ∀ {vs : List V} {ds : List D} {is : List Nat} {fd : List Addr}, PVs K F H σ ρ vs ds is fd → vs.length = ds.length
  | _, _, _, _, .nil => rfl
  | _, _, _, _, .tmp r q => by simp [q.len]
  | _, _, _, _, .loc _ _ q => by simp [q.len]
end
section
variable {X : Cx} {T : Tb} {W : WK} {e : Expr} {es : List Expr} {m : Ex} {ar : Pe} {F : Addr → Prop} {H : Hp} {σ : L2.St} {ρ : Ro} {fps : List Addr}
end

/-! ### the promise -/
section
variable {X : Cx} {T : Tb} {W : WK} {F : Addr → Prop} {H : Hp} {σ : L2.St} {ρ : Ro} {fps : List Addr}
end
/-! ### owned data stands, whatever becomes of what is frozen -/
end IS
end
section
set_option Elab.async false
set_option linter.all false
set_option autoImplicit false
set_option maxRecDepth 100000
set_option maxHeartbeats 1000000
/-! IS, part 10: a pure def's call, and its body. -/
namespace IS
open PySem PySem.Spec PyProof.Rows L2 IL LamX
section
variable {X : Cx} {T : Tb} {W : WK} {e : Expr} {F : Addr → Prop} {H : Hp} {σ : L2.St} {ρ : Ro} {fps : List Addr} {f : Fp} {p : Pe} {n : Nat}
end

/-! ### calls, operations -/
section
variable {X : Cx} {T : Tb} {W : WK} {e : Expr} {f : Fp} {p : Pe} {n : Nat} {ma mb mc : Ex}
def f1 (f : D → Option D) : Fp := fun ds => match ds with
  | [a] => (match f a with | some z => .ret z | none => .bad)
  | _ => .bad
def f2 (f : D → D → Option D) : Fp := fun ds => match ds with
  | [a, b] => (match f a b with | some z => .ret z | none => .bad)
  | _ => .bad
end

/-! ### the body of a pure def -/
section
variable {P : Program} {w : World} {K : Frag} {mg : Str → Option Value} {base : Heap} {x qual : Str} {params : Arguments} {body : List Stmt} {scope : Scope} {f : Addr} {fd : FuncData} {N ps : List Str} {k n : Nat} {b : S} {T : Tb}
end
end IS
end
section
set_option linter.all false
set_option autoImplicit false
/-! Ops: what Python's operations do to data (Lean alone, over the library's own orders of data). -/
namespace IL
open PySem PySem.W
def kD0 : Key → D
  | .inl i => .int i
  | .inr x => .str x
def kD : DK → D
  | .k x => kD0 x
  | .t xs => .tup (xs.map kD0)

/-! ### arithmetic -/
/-! ### comparisons -/
/-! ### built-ins -/
/-! ### slices -/
/-! ### parts -/
/-! ### as expressions -/
def g1 (f : D → Option D) : List D → Option D
  | [a] => f a
  | _ => none
def g2 (f : D → D → Option D) : List D → Option D
  | [a, b] => f a b
  | _ => none
/-! ### methods that change their object -/
/-! ### what is walked -/
def mem (d : D) : Option (List D) := match d with
  | .lst _ xs => some xs
  | .tup xs => some xs
  | .dct false _ ks _ => some (ks.map kD)
  | .cel _ xs => some xs
  | .str z => some (z.cps.toList.map fun c => .str ⟨#[c]⟩)
  | _ => none
def q1 (e : Ex) : Sq := qOf mem e
/-! ### dict comprehensions -/
end IL
end
section
set_option Elab.async false
set_option linter.all false
set_option autoImplicit false
set_option maxRecDepth 100000
set_option maxHeartbeats 1000000
/-! IS, part 11: operations. -/
namespace IS
open PySem PySem.Spec PySem.W PyProof.Rows L2 IL LamX
section
variable {K : PySem.W.Frag} {T : Tb} {W : WK} {F : Addr → Prop} {H : Hp} {σ : L2.St} {ρ : Ro} {fps : List Addr} {m : Ex} {p : Pe}
/-- what is done with an answer -/
def Res (K : PySem.W.Frag) (T : Tb) (F : Addr → Prop) (H : Hp) (z : D) (Q : VK) : Prop := ∀ (v : V) (F' : Addr → Prop) (H' : Hp) (fd : List Addr), Rep K F' H' v z fd → fd.Nodup → (∀ a ∈ fd, ¬ F' a) → (∀ a, F' a → Live H' a) → Tabs T H' → Evo F H [] F' H' fd → Q v H'
structure Sty (T : Tb) (F : Addr → Prop) (H : Hp) : Prop where
  lv : ∀ a, F a → Live H a
  tb : Tabs T H
/-- an operation on data -/
def rL (K : PySem.W.Frag) (T : Tb) (f : List D → Option D) : List V → Hp → VK → Prop := fun vs H Q => ∃ F ds z, Reps K F H vs ds [] ∧ Sty T F H ∧ f ds = some z ∧ Res K T F H z Q
abbrev r2 (K : PySem.W.Frag) (T : Tb) (f : D → D → Option D) : R2 := fun x y H Q => rL K T (g2 f) [x, y] H Q
/-! ### answers -/
variable {z : D} {Q : VK} {v : V}
theorem sty_laid {p : Addr} {o : HO} (st : Sty T F H) (h : H p = none) : Sty T F (upd H p o) := ⟨fun a z => let ⟨u, e, n⟩ := st.lv a z; (upd_keep (F := F) h a u e n).live n, tabs_upd st.tb h⟩
theorem Res.lst {vs : List V} {ds : List D} {p : Addr} (h : Res K T F H (.lst true ds) Q) (st : Sty T F H) (rs : Reps K F H vs ds []) (hl : vs.length ≤ sizeLine) (hp : H p = none) : Q (.ref p) (upd H p (.lst vs)) := by
  have s2 := sty_laid (o := .lst vs) st hp
  exact h (.ref p) F _ [p] (.lstO upd_same hl (rs.laid hp nomem')) (by simp) (fun a z w => by simp at z; subst z; exact live_none hp (st.lv _ w)) s2.lv s2.tb (by simpa using evo_laid (f := []) hp)
/-! ### what stands behind data -/
end
/-! ### from readings to expressions -/
section
variable {X : Cx} {T : Tb} {W : WK} {e : Expr} {f : List D → Option D} {p : Pe} {n : Nat} {ma mb mc : Ex}
end
end IS
end
section
set_option Elab.async false
set_option linter.all false
set_option autoImplicit false
set_option maxRecDepth 100000
set_option maxHeartbeats 1000000
/-! IS, part 12: arithmetic, comparisons. -/
namespace IS
open PySem PySem.Spec PySem.W PyProof.Rows L2 IL LamX
section
variable {X : Cx} {T : Tb} {H : Hp} {F : Addr → Prop} {K : PySem.W.Frag}
/-! ### plain data is read as the library's data -/
end
end IS
end
section
set_option Elab.async false
set_option linter.all false
set_option autoImplicit false
set_option maxRecDepth 100000
set_option maxHeartbeats 1000000
/-! IS, part 13: in, len, isinstance, sorted and the like. -/
namespace IS
open PySem PySem.Spec PySem.W PyProof.Rows L2 IL LamX
section
variable {X : Cx} {T : Tb} {H : Hp} {F : Addr → Prop} {K : PySem.W.Frag}
/-! ### in, not in -/
/-! ### len -/
/-! ### isinstance -/
end
end IS
end
section
set_option Elab.async false
set_option linter.all false
set_option autoImplicit false
set_option maxRecDepth 100000
set_option maxHeartbeats 1000000
/-! IS, part 14: sorted, list, tuple, int, str, min, max, all, any, sum, slices. -/
namespace IS
open PySem PySem.Spec PySem.W PyProof.Rows L2 IL LamX
section
variable {X : Cx} {T : Tb} {H : Hp} {F : Addr → Prop} {K : PySem.W.Frag}
end
end IS
end
section
set_option Elab.async false
set_option linter.all false
set_option autoImplicit false
set_option maxRecDepth 100000
set_option maxHeartbeats 1000000
/-! IS, part 15: list, tuple, int, str, min, max, all, any, sum, slices. -/
namespace IS
open PySem PySem.Spec PySem.W PyProof.Rows L2 IL LamX
section
variable {X : Cx} {T : Tb} {H : Hp} {F : Addr → Prop} {K : PySem.W.Frag}
/-! ### subscripts of texts -/
/-! ### slices -/
end
end IS
end
section
set_option Elab.async false
set_option linter.all false
set_option autoImplicit false
set_option maxRecDepth 100000
set_option maxHeartbeats 1000000
/-! IS, part 16: subscripts. -/
namespace IS
open PySem PySem.Spec PySem.W PyProof.Rows L2 IL LamX
section
variable {X : Cx} {T : Tb} {W : WK} {H : Hp} {F : Addr → Prop} {K : PySem.W.Frag}
variable {e a b : Expr} {ma mb : Ex} {pos : Pos}
end
end IS
end
section
set_option Elab.async false
set_option linter.all false
set_option autoImplicit false
set_option maxRecDepth 100000
set_option maxHeartbeats 1000000
/-! IS, part 17: methods. -/
namespace IS
open PySem PySem.Spec PySem.W PyProof.Rows L2 IL LamX
section
variable {X : Cx} {T : Tb} {W : WK} {H : Hp} {F : Addr → Prop} {K : PySem.W.Frag} {σ : L2.St}
variable {o e : Expr} {es : List Expr} {to : TE} {t : TA} {name : Str} {apos cpos : Pos} {N id : String} {r : V → List V → Hp → VK → Prop}
/-! ### only a value of that kind -/
variable {mo : Ex} {ar : A} {p : Pe} {kd : D → Bool} {n : Nat}
/-! ### methods that change their object -/
end
end IS
end
section
set_option Elab.async false
set_option linter.all false
set_option autoImplicit false
set_option maxRecDepth 100000
set_option maxHeartbeats 1000000
/-! IS, part 18: append, extend, pop, x[i] = v. -/
namespace IS
open PySem PySem.Spec PySem.W PyProof.Rows L2 IL LamX
section
variable {X : Cx} {T : Tb} {W : WK} {H : Hp} {F : Addr → Prop} {K : PySem.W.Frag} {σ : L2.St}
/-! ### x[i] = v -/
variable {o i value : Expr} {mo mi mv : Ex} {pos pos' : Pos} {n : Nat → Prop}
end
end IS
end
section
set_option Elab.async false
set_option linter.all false
set_option autoImplicit false
set_option maxRecDepth 100000
set_option maxHeartbeats 1000000
/-! IS, part 19: targets, what is walked. -/
namespace IS
open PySem PySem.Spec PySem.W PyProof.Rows L2 IL LamX
section
variable {X : Cx} {T : Tb} {W : WK} {H : Hp} {F : Addr → Prop} {K : PySem.W.Frag} {σ : L2.St} {n : Nat → Prop}
/-! ### x[i] = v -/
end
end IS
end
section
set_option Elab.async false
set_option linter.all false
set_option autoImplicit false
set_option maxRecDepth 100000
set_option maxHeartbeats 1000000
/-! IS, part 20: targets, what is walked. -/
namespace IS
open PySem PySem.Spec PySem.W PyProof.Rows L2 IL LamX
section
variable {X : Cx} {T : Tb} {W : WK} {H : Hp} {F : Addr → Prop} {K : PySem.W.Frag} {σ : L2.St} {n : Nat → Prop} {tg e : Expr} {es : List Expr} {g : G} {gs : List G} {m : Ex} {ar : A} {pos : Pos} {q : Sq}
/-! ### targets -/
/-! ### what is walked -/
theorem AllKeep.refl {H : Hp} {F : Addr → Prop} : AllKeep H F H := fun _ _ e _ => .inl e
end
end IS
end
section
set_option Elab.async false
set_option linter.all false
set_option autoImplicit false
set_option maxRecDepth 100000
set_option maxHeartbeats 1000000
/-! IS, part 21: lists, tuples, texts, dicts, ranges, enumerate, zip as what is walked. -/
namespace IS
open PySem PySem.Spec PySem.W PyProof.Rows L2 IL LamX
section
variable {X : Cx} {T : Tb} {W : WK} {H : Hp} {F : Addr → Prop} {K : PySem.W.Frag} {σ : L2.St} {tg e : Expr} {es : List Expr} {m : Ex} {ar : A} {pos : Pos}
/-! ### of arguments -/
end
end IS
end
section
set_option Elab.async false
set_option linter.all false
set_option autoImplicit false
set_option maxRecDepth 100000
set_option maxHeartbeats 1000000
/-! IS, part 22: a def that changes its first argument. -/
namespace IS
open PySem PySem.Spec PySem.W PyProof.Rows L2 IL LamX
section
variable {P : Program} {w : World} {K : PySem.W.Frag} {mg : Str → Option Value} {base : Heap} {x qual : Str} {params : Arguments} {body : List Stmt} {scope : Scope} {f : Addr} {fd : FuncData} {N ps : List Str} {k n : Nat} {b : S} {T : Tb}
end
section
variable {X : Cx} {T : Tb} {W : WK} {e : Expr} {mo : Ex} {f : Fm} {p : Pe} {n : Nat}
end
end IS
end
section
set_option Elab.async false
set_option linter.all false
set_option autoImplicit false
set_option maxRecDepth 100000
set_option maxHeartbeats 1000000
/-! IS, part 23: tests by operations, and / or / not as values, conditional expressions, comprehensions. -/
namespace IS
open PySem PySem.Spec PySem.W PyProof.Rows L2 IL LamX
section
variable {X : Cx} {T : Tb} {W : WK} {H : Hp} {F : Addr → Prop} {K : PySem.W.Frag} {σ : L2.St} {e a b c : Expr} {m ma mb mc : Ex} {u u' : IL.T} {pos : Pos} {n : Nat} {f : Fp} {p : Pe}
/-! ### as values -/
variable {rest : List Expr}
/-! ### comprehensions -/
variable {elt tg iter : Expr} {ifs : List Expr} {scope : Scope} {own : List (Str × Nat)} {q : Sq} {g : G} {m' : Ex} {N : Nat → Prop}
end
end IS
end
section
set_option Elab.async false
set_option linter.all false
set_option autoImplicit false
set_option maxRecDepth 100000
set_option maxHeartbeats 4000000
/-! IS, part 24: dict comprehensions. The walk of the block is HandS.DictComp's, for keys that are tuples, too. -/
namespace IS
open PySem PySem.Spec PyProof.Rows L2 LamX
section
variable {X : Cx}
end
end IS
end
section
set_option Elab.async false
set_option linter.all false
set_option autoImplicit false
set_option maxRecDepth 100000
set_option maxHeartbeats 4000000
/-! IS, part 25: dict comprehensions. -/
namespace IS
open PySem PySem.Spec PySem.W PyProof.Rows L2 IL LamX
section
variable {X : Cx} {T : Tb} {W : WK} {H : Hp} {F : Addr → Prop} {K : PySem.W.Frag} {σ : L2.St} {ρ : Ro} {fps : List Addr} {vs : List Nat} {q : Sq} {g : G} {u : IL.T} {mk mv : Ex}
variable {kx vx tg iter : Expr} {ifs : List Expr} {scope : Scope} {own : List (Str × Nat)} {pos : Pos} {b : Bool}
end
end IS
end
section
set_option Elab.async false
set_option linter.all false
set_option autoImplicit false
set_option maxRecDepth 100000
set_option maxHeartbeats 1000000
namespace IL
end IL
/-! IS, part 26: own errors are raised. -/
namespace IS
open PySem PySem.Spec PySem.W PyProof.Rows L2 IL LamX
section
variable {P : Program} {w : World} {K : PySem.W.Frag} {mg : Str → Option Value} {base : Heap} {qual x f : Str} {params : Arguments} {scope : Scope} {fI C : Addr} {fd : FuncData} {CX : CXT} {p1 p2 p3 pos : Pos}
end
section
variable {X : Cx} {T : Tb} {W : WK} {n : Nat → Prop} {CX : CXT} {C f : Str} {fI : Addr} {k : Nat} {fd : FuncData} {ps : List Str} {e : Expr} {ar : A} {p pos pos' : Pos}
end
end IS
end
section
set_option Elab.async false
set_option linter.all false
set_option autoImplicit false
set_option maxRecDepth 100000
set_option maxHeartbeats 1000000
namespace IL
open PySem PySem.W
end IL
/-! IS, part 27: {}, d.get, xs[::-1], str, count, extend, chains. -/
namespace IS
open PySem PySem.Spec PySem.W PyProof.Rows L2 IL LamX
section
variable {X : Cx} {T : Tb} {W : WK} {H : Hp} {F : Addr → Prop} {K : PySem.W.Frag} {σ : L2.St} {pos : Pos} {e : Expr} {m mo mk mx : Ex}
/-! ### d.get(k, x) -/
/-! ### xs[::-1] -/
/-! ### xs.count(y) -/
/-! ### xs.extend(ys) -/
/-! ### a < b < c -/
end
end IS
end
section
set_option Elab.async false
set_option linter.all false
set_option autoImplicit false
set_option maxRecDepth 100000
set_option maxHeartbeats 1000000
/-! IS, part 28: functions as values: their class, ==. -/
namespace PySem
open Sem (wp)
section
variable {prog : Program} {w : World} {A : Around} {E : Value → Shared → Prop} {h : Heap} {g : Array GenState} {d : Drawn} {t : Nat} {os : OsState} {a : Addr} {o : Obj}
end
end PySem
namespace IS
open PySem PySem.Spec PySem.W PyProof.Rows L2 IL LamX
end IS
end
section
set_option Elab.async false
set_option linter.all false
set_option autoImplicit false
set_option maxRecDepth 100000
set_option maxHeartbeats 1000000
/-! IS, part 29: functions as values: ==, isinstance. -/
namespace PySem
open Sem (wp)
open Builtin
section
variable {prog : Program} {w : World} {A : Around} {E : Value → Shared → Prop} {h : Heap} {g : Array GenState} {d : Drawn} {t : Nat} {os : OsState} {x : Addr} {o : Obj}
end
end PySem
namespace IL
open PySem
end IL
namespace IS
open PySem PySem.Spec PySem.W PyProof.Rows L2 IL LamX
section
variable {X : Cx} {T : Tb} {gl : List Str}
end
/-! ### constants of modules -/
section
variable {X : Cx} {T : Tb} {W : WK} {e : Expr} {m : Ex} {pos p : Pos}
end
end IS
end
section
set_option Elab.async false
set_option linter.all false
set_option autoImplicit false
set_option maxRecDepth 100000
set_option maxHeartbeats 1000000
namespace IL
end IL
/-! IS, part 30: calls by keywords alone. -/
namespace IS
open PySem PySem.Spec PySem.W PyProof.Rows L2 IL LamX
section
variable {K : PySem.W.Frag} {F : Addr → Prop} {H : Hp}
end
section
variable {X : Cx} {T : Tb} {W : WK} {CX : CXT} {k n : Nat} {f : Addr} {fd : FuncData} {ps ks : List Str} {x : Str} {p pos : Pos} {kws : List Keyword} {fp : Fp} {pr : Pe} {is : List Nat} {sp : Sp} {E : XK} {tk : TA} {g : List Value → List Value → List Value} {gV : List V → List V → List V} {nm : Option Str} {kpos : Pos} {e : Expr} {m : Ex}
end
end IS
end
section
set_option Elab.async false
set_option linter.all false
set_option autoImplicit false
set_option maxRecDepth 100000
set_option maxHeartbeats 1000000
/-! IS, part 31: sum(lists, []). -/
namespace PySem
open Sem (wp)
section
variable {prog : Program} {w : World} {A : Around} {R : Result → Shared → Prop} {I ax S : Addr} {lists : List (List Value)} {h0 : Heap} {vs : Array Value}
end
end PySem
namespace IL
end IL
namespace IS
open PySem PySem.Spec PySem.W PyProof.Rows L2 IL LamX
section
variable {X : Cx} {T : Tb} {K : PySem.W.Frag} {F : Addr → Prop} {H : Hp}
end
end IS
end
section
set_option Elab.async false
set_option linter.all false
set_option autoImplicit false
set_option maxRecDepth 100000
set_option maxHeartbeats 2000000
namespace IL
/-- a comprehension's loop: what is done with each is `body` -/
def loopB (vs : List Nat) (g : G) (t : T) (body : List D → Ro → Option (List D × Ro)) : List D → List D → Ro → Option (List D × Ro)
  | acc, [], ρ => some (acc, ρ)
  | acc, d :: ds, ρ => match g d ρ with
    | none => none
    | some ρ1 => match t ρ1 with
      | .ok true _ ρ2 => (match body acc ρ2 with
        | some (acc', ρ3) => loopB vs g t body acc' ds (wipeR ρ3 vs)
        | none => none)
      | .ok false _ ρ2 => loopB vs g t body acc ds (wipeR ρ2 vs)
      | _ => none
end IL
/-! IS, part 32: comprehensions with two for. -/
namespace IS
open PySem PySem.Spec PySem.W PyProof.Rows L2 IL LamX
abbrev Asd := (Addr → Prop) → Hp → List Addr → Prop
structure AsideOk (A : Asd) : Prop where
  keep : ∀ (F : Addr → Prop) (H : Hp) (fr S : List Addr) (F' : Addr → Prop) (H' : Hp), A F H fr → Keeps S F H F' H' → (∀ a ∈ S, ∃ o, H a = some o ∧ MutK o) → (∀ a ∈ S, ¬ F a) → (∀ a ∈ fr, a ∉ S ∧ ¬ F' a) → A F' H' fr
  mutk : ∀ (F : Addr → Prop) (H : Hp) (fr : List Addr), A F H fr → ∀ a ∈ fr, ∃ o, H a = some o ∧ MutK o
/-- the state within a comprehension: the new list at D, what stands aside -/
structure CSt (K : PySem.W.Frag) (T : Tb) (A : Asd) (D : Addr) (F : Addr → Prop) (H : Hp) (σ : L2.St) (ρ : Ro) (fps fA : List Addr) (acc : List V) (accD : List IL.D) (fa : List Addr) : Prop where
  ok : Ok K T F H σ ρ fps
  as : A F H fA
  cur : H D = some (.lst acc)
  rep : Reps K F H acc accD fa
  nd : (fps ++ (fA ++ D :: fa)).Nodup
  nf : ∀ a ∈ fA ++ D :: fa, ¬ F a
  len : accD.length ≤ sizeLine
section
variable {K : PySem.W.Frag} {T : Tb} {A : Asd} {D : Addr} {F : Addr → Prop} {H : Hp} {σ : L2.St} {ρ : Ro} {fps fA fa : List Addr} {acc : List V} {accD : List IL.D}
/-- what stands aside stands -/
theorem aside_stand (hA : AsideOk A) (as : A F H fA) (at1 : H D = some (.lst acc)) (rep : Reps K F H acc accD fa) (nf : ∀ a ∈ fA ++ D :: fa, ¬ F a) {S S3 : List Addr} {F3 : Addr → Prop} {H3 : Hp} (mk : ∀ a ∈ S, ∃ o, H a = some o ∧ MutK o) (nS : ∀ a ∈ S, ¬ F a) (dis : ∀ a ∈ fA ++ D :: fa, a ∉ S)
    (ev : Evo F H S F3 H3 S3) : A F3 H3 fA ∧ H3 D = some (.lst acc) ∧ Reps K F3 H3 acc accD fa ∧ (∀ a ∈ fA ++ D :: fa, ¬ F3 a) ∧ (∀ a ∈ fA ++ D :: fa, a ∉ S3) := by
  have lv : ∀ a ∈ fA ++ D :: fa, Live H a := fun a z => by
    simp only [List.mem_append, List.mem_cons] at z
    rcases z with z | rfl | z
    · exact live_of (hA.mutk _ _ _ as a z)
    · exact ⟨_, at1, nt_of_mutK trivial⟩
    · exact live_of (rep.mutk a z)
  have nF3 : ∀ a ∈ fA ++ D :: fa, ¬ F3 a := fun a z w => by
    rcases ev.fn a w with y | y | y
    · exact nf a z y
    · exact dis a z y
    · exact y (lv a z)
  refine ⟨hA.keep _ _ _ _ _ _ as ev.keeps mk nS fun a z => ⟨dis a (List.mem_append_left _ z), nF3 a (List.mem_append_left _ z)⟩, (ev.keep _ _ (dis D (by simp)) at1 (nt_of_mutK trivial)).ex (.inr fun z => z), rep.keep ev.keeps mk nS fun a z => ⟨dis a (by simp [z]), nF3 a (by simp [z])⟩, nF3, fun a z w => ?_⟩
  exact (ev.new a w).elim (dis a z) fun y => y (lv a z)
/-- what is done with each -/
def BodyOk (K : PySem.W.Frag) (T : Tb) (D : Addr) (vs : List Nat) (B : (Hp → Prop) → L2.St → Hp → Prop) (body : List IL.D → Ro → Option (List IL.D × Ro)) : Prop :=
  ∀ (A : Asd) (F : Addr → Prop) (H : Hp) (σ : L2.St) (ρ : Ro) (fps fA fa : List Addr) (acc : List V) (accD accD' : List IL.D) (ρ' : Ro) (Nx : Hp → Prop), AsideOk A → CSt K T A D F H σ ρ fps fA acc accD fa → body accD ρ = some (accD', ρ') →
    (∀ (F' : Addr → Prop) (H' : Hp) (σ' : L2.St) (fps' fa' : List Addr) (acc' : List V), L2.wipe σ' vs = L2.wipe σ vs → CSt K T A D F' H' σ' ρ' fps' fA acc' accD' fa' → Evo F H (fps ++ (fA ++ D :: fa)) F' H' (fps' ++ (fA ++ D :: fa')) → Nx H') → B Nx σ H
/-- from a part that goes on beside what stands aside -/
theorem evo_beside {S S3 R : List Addr} {F3 : Addr → Prop} {H3 : Hp} (ev : Evo F H S F3 H3 S3) (h : ∀ a ∈ S, a ∈ S ++ R) : Evo F H (S ++ R) F3 H3 (S3 ++ R) :=
  ⟨fun b o hb => ev.keep b o fun z => hb (List.mem_append_left _ z), fun a z => by
    rcases List.mem_append.mp z with z | z
    · exact (ev.new a z).imp (List.mem_append_left _) id
    · exact .inl (List.mem_append_right _ z), ev.fr, fun a z => (ev.fn a z).imp id (Or.imp (List.mem_append_left _) id)⟩
/-- the walked and what else stands aside -/
def AI (A : Asd) (I : Nat → (Addr → Prop) → Hp → List Addr → Prop) (f2 : List Addr) (i : Nat) : Asd := fun F H fr => ∃ f1, fr = f1 ++ f2 ∧ I i F H f1 ∧ A F H f2
theorem AI_ok {J : It} {ds : List IL.D} {I : Nat → (Addr → Prop) → Hp → List Addr → Prop} (hA : AsideOk A) (gv : Gives K J ds I) (f2 : List Addr) (i : Nat) : AsideOk (AI A I f2 i) where
  keep := fun F H fr S F' H' ⟨f1, e, h1, h2⟩ k mk nS hf => by
    subst e
    exact ⟨f1, rfl, gv.keep _ _ _ _ _ _ _ h1 k mk nS fun a z => hf a (List.mem_append_left _ z), hA.keep _ _ _ _ _ _ h2 k mk nS fun a z => hf a (List.mem_append_right _ z)⟩
  mutk := fun F H fr ⟨f1, e, h1, h2⟩ a z => by
    subst e
    exact (List.mem_append.mp z).elim (gv.mutk _ _ _ _ h1 a) (hA.mutk _ _ _ h2 a)
theorem lvl {vs : List Nat} {g : G} {u : IL.T} {B : (Hp → Prop) → L2.St → Hp → Prop} {body : List IL.D → Ro → Option (List IL.D × Ro)} {J : It} {ds : List IL.D} {I : Nat → (Addr → Prop) → Hp → List Addr → Prop} {accR : List IL.D} {ρR : Ro} {END : Hp → Prop} {f : List Addr}
    (hB : BodyOk K T D vs B body) (hA : AsideOk A) (gv : Gives K J ds I) (c : CSt K T (AI A I fA 0) D F H (L2.wipe σ vs) ρ fps f acc accD fa) (sem : loopB vs g u body accD ds ρ = some (accR, ρR))
    (hE : ∀ (F' : Addr → Prop) (H' : Hp) (fps' fa' : List Addr) (acc' : List V), CSt K T A D F' H' (L2.wipe σ vs) ρR fps' fA acc' accR fa' → Evo F H (fps ++ (f ++ D :: fa)) F' H' (fps' ++ (fA ++ D :: fa')) → END H') :
    ∃ W : Nat → Nat → Hp → Prop, (∃ m, W 0 m H) ∧ ∀ i m H, W i m H → (J.stop i H ∧ END H) ∨ (J.go i H ∧ ∃ Nx : Hp → Prop, (∀ H', Nx H' → ∃ m', m' < m ∧ W (i + 1) m' H') ∧ ∀ x H', J.yld i H x H' → tG K T (· ∈ vs) g x (L2.wipe σ vs) H' fun σ2 H2 => L2.wipe σ2 vs = L2.wipe σ vs ∧ tT K T W0 u σ2 H2 fun b H3 =>
      if b = true then B Nx σ2 H3 else Nx H3) := by
  refine ⟨fun i k H' => ∃ F' ρ' fps' f' acc' accD' fa', CSt K T (AI A I fA i) D F' H' (L2.wipe σ vs) ρ' fps' f' acc' accD' fa' ∧ Evo F H (fps ++ (f ++ D :: fa)) F' H' (fps' ++ (f' ++ D :: fa')) ∧ (∀ a ∈ f', a ∈ f) ∧ loopB vs g u body accD' (ds.drop i) ρ' = some (accR, ρR) ∧ i + k = ds.length,
    ⟨ds.length, F, ρ, fps, f, acc, accD, fa, c, Evo.refl, fun _ z => z, by simpa using sem, by simp⟩, ?_⟩
  rintro i k H' ⟨F', ρ', fps', f', acc', accD', fa', c', ev', sub', sem', ek⟩
  obtain ⟨f1, ef, i', a'⟩ := c'.as
  subst ef
  have nd' := c'.nd
  simp only [List.nodup_append, List.mem_append] at nd'
  obtain ⟨n1, ⟨⟨n2a, n2b, n2c⟩, n3, n4⟩, n5⟩ := nd'
  cases k with
  | zero =>
    have ei : i = ds.length := by omega
    subst ei
    rw [List.drop_length] at sem'
    simp only [loopB, Option.some.injEq, Prod.mk.injEq] at sem'
    obtain ⟨rfl, rfl⟩ := sem'
    refine .inl ⟨gv.stop F' H' f1 i', hE F' H' fps' fa' acc' ⟨c'.ok, a', c'.cur, c'.rep, ?_, fun a z => c'.nf a (by simp only [List.mem_append] at z ⊢; grind), c'.len⟩ (ev'.sub fun a z => ?_)⟩
    · simp only [List.nodup_append, List.mem_append]
      grind
    · simp only [List.mem_append] at z ⊢
      grind
  | succ k =>
    have hi : i < ds.length := by omega
    have hd : ds[i]? = some ds[i] := by simp [hi]
    obtain ⟨g1, g2⟩ := gv.go i F' H' f1 ds[i] i' hd
    refine .inr ⟨g1, fun H2 => ∃ F' ρ' fps' f' acc' accD' fa', CSt K T (AI A I fA (i + 1)) D F' H2 (L2.wipe σ vs) ρ' fps' f' acc' accD' fa' ∧ Evo F H (fps ++ (f ++ D :: fa)) F' H2 (fps' ++ (f' ++ D :: fa')) ∧ (∀ a ∈ f', a ∈ f) ∧ loopB vs g u body accD' (ds.drop (i + 1)) ρ' = some (accR, ρR),
      fun H2 ⟨F2, ρ2, fps2, f2, acc2, accD2, fa2, a1, a2, a3, a4⟩ => ⟨k, by omega, F2, ρ2, fps2, f2, acc2, accD2, fa2, a1, a2, a3, a4, by omega⟩, fun x H2 hy => ?_⟩
    obtain ⟨fd, fr2, r2, i2, k2, t2, sub3, nd2⟩ := g2 x H2 hy
    have okA := c'.ok.all k2 t2
    have kS : Keeps [] F' H' F' H2 := ⟨fun b u _ e n => k2 b u e n, fun _ z => z⟩
    have at2 : H2 D = some (.lst acc') := (k2 _ _ c'.cur (nt_of_mutK trivial)).ex (.inr fun z => z)
    have hr2 : Reps K F' H2 acc' accD' fa' := c'.rep.keep kS nomem' nomem' (fun a z => ⟨List.not_mem_nil, c'.nf a (by simp [z])⟩)
    have a2 : A F' H2 fA := hA.keep _ _ _ _ _ _ a' kS nomem' nomem' fun a z => ⟨List.not_mem_nil, c'.nf a (by simp [z])⟩
    have nd3 := nd2 n2a
    simp only [List.nodup_append] at nd3
    obtain ⟨n6, n7, n8⟩ := nd3
    have fd_fr : ∀ a ∈ fd, a ∈ f1 := fun a z => sub3 a (List.mem_append_left _ z)
    have fr2_fr : ∀ a ∈ fr2, a ∈ f1 := fun a z => sub3 a (List.mem_append_right _ z)
    have vo : VOk K T F' H2 (L2.wipe σ vs) ρ' fps' x ds[i] fd := ⟨okA, r2, List.nodup_append.mpr ⟨n1, n6, fun a z b e => n5 a z b (.inl (.inl (fd_fr b e)))⟩, fun a z => c'.nf a (by simp [fd_fr a z])⟩
    have aI : AI A I fA (i + 1) F' H2 (fr2 ++ fA) := ⟨fr2, rfl, i2, a2⟩
    have hAI := AI_ok hA gv fA (i + 1)
    have nfA : ∀ a ∈ (fr2 ++ fA) ++ D :: fa', ¬ F' a := fun a z => c'.nf a (by
      simp only [List.mem_append] at z ⊢
      rcases z with (z | z) | z
      · exact .inl (.inl (fr2_fr a z))
      · exact .inl (.inr z)
      · exact .inr z)
    have aside : ∀ a ∈ (fr2 ++ fA) ++ D :: fa', a ∉ fps' ++ fd := fun a z w => by
      simp only [List.mem_append] at z w
      rcases w with w | w
      · rcases z with (z | z) | z
        · exact n5 a w a (.inl (.inl (fr2_fr a z))) rfl
        · exact n5 a w a (.inl (.inr z)) rfl
        · exact n5 a w a (.inr z) rfl
      · rcases z with (z | z) | z
        · exact n8 a w a z rfl
        · exact n2c a (fd_fr a w) a z rfl
        · exact n4 a (.inl (fd_fr a w)) a z rfl
    have ndA : ((fr2 ++ fA) ++ D :: fa').Nodup := by
      simp only [List.nodup_append, List.mem_append]
      refine ⟨⟨n7, n2b, fun a z b w => n2c a (fr2_fr a z) b w⟩, n3, fun a z b w => ?_⟩
      rcases z with z | z
      · exact n4 a (.inl (fr2_fr a z)) b w
      · exact n4 a (.inr z) b w
    have evA : Evo F H (fps ++ (f ++ D :: fa)) F' H2 ((fps' ++ fd) ++ ((fr2 ++ fA) ++ D :: fa')) := ev'.trans (evo_all k2 fun a z => by
      simp only [List.mem_append] at z ⊢
      rcases z with (z | z) | (z | z) | z
      · exact .inl z
      · exact .inr (.inl (.inl (fd_fr a z)))
      · exact .inr (.inl (.inl (fr2_fr a z)))
      · exact .inr (.inl (.inr z))
      · exact .inr (.inr z))
    have subA : ∀ a ∈ fr2 ++ fA, a ∈ f := fun a z => sub' a (by
      simp only [List.mem_append] at z ⊢
      exact z.imp (fr2_fr a) id)
    have mkS : ∀ a ∈ fps' ++ fd, ∃ o, H2 a = some o ∧ MutK o := fun a z => (List.mem_append.mp z).elim (renv_mutk okA.env a) (r2.mutk a)
    have nfS : ∀ a ∈ fps' ++ fd, ¬ F' a := fun a z => (List.mem_append.mp z).elim (okA.nf a) (vo.nf a)
    refine ⟨F', ρ', fps', ds[i], fd, vo, ?_⟩
    rw [List.drop_eq_getElem_cons hi] at sem'
    unfold loopB at sem'
    cases hg : g ds[i] ρ' with
    | none => rw [hg] at sem'; cases sem'
    | some ρ3 =>
      rw [hg] at sem'
      simp only at sem'
      intro σ3 F3 H3 fps3 ok3 ev3 kp3
      have hw3 := (wipe_kp kp3).trans wipe_wipe
      refine ⟨hw3, F3, ρ3, fps3, ok3, ?_⟩
      cases ht : u ρ3 with
      | bad => rw [ht] at sem'; cases sem'
      | exc C fs st => rw [ht] at sem'; cases sem'
      | ok c0 st ρ4 =>
        rw [ht] at sem'
        intro F4 H4 fps4 ok4 ev4 sb4
        have ev34 := ev3.trans ev4
        obtain ⟨as4, at4, hr4, nf4, dis4⟩ := aside_stand hAI aI at2 hr2 nfA mkS nfS aside ev34
        have nd4 : (fps4 ++ ((fr2 ++ fA) ++ D :: fa')).Nodup := List.nodup_append.mpr ⟨ok4.nd, ndA, fun a z b e y => by subst y; exact dis4 a e z⟩
        have ev40 : Evo F H (fps ++ (f ++ D :: fa)) F4 H4 (fps4 ++ ((fr2 ++ fA) ++ D :: fa')) := evA.trans (evo_beside ev34 fun a z => List.mem_append_left _ z)
        cases c0 with
        | false =>
          simp only at sem'
          rw [if_neg Bool.false_ne_true]
          obtain ⟨fps5, ok5, sub5⟩ := ok4.wipe vs
          rw [hw3] at ok5
          refine ⟨F4, wipeR ρ4 vs, fps5, fr2 ++ fA, acc', accD', fa', ⟨ok5, as4, at4, hr4, ?_, nf4, c'.len⟩, ev40.sub fun a z => ?_, subA, sem'⟩
          · exact List.nodup_append.mpr ⟨ok5.nd, ndA, fun a z b e y => by subst y; exact dis4 a e (sub5.subset z)⟩
          · simp only [List.mem_append] at z ⊢
            exact z.imp (fun y => sub5.subset y) id
        | true =>
          simp only at sem'
          rw [if_pos rfl]
          cases hb : body accD' ρ4 with
          | none => rw [hb] at sem'; cases sem'
          | some p =>
            obtain ⟨accE, ρ5⟩ := p
            rw [hb] at sem'
            simp only at sem'
            refine hB (AI A I fA (i + 1)) F4 H4 σ3 ρ4 fps4 (fr2 ++ fA) fa' acc' accD' accE ρ5 _ hAI ⟨ok4, as4, at4, hr4, nd4, nf4, c'.len⟩ hb fun F5 H5 σ5 fps5 fa5 acc5 hw5 c5 ev5 => ?_
            obtain ⟨fps6, ok6, sub6⟩ := c5.ok.wipe vs
            rw [hw5, hw3] at ok6
            have nd5 := List.nodup_append.mp c5.nd
            refine ⟨F5, wipeR ρ5 vs, fps6, fr2 ++ fA, acc5, accE, fa5, ⟨ok6, c5.as, c5.cur, c5.rep, ?_, c5.nf, c5.len⟩, (ev40.trans ev5).sub fun a z => ?_, subA, sem'⟩
            · exact List.nodup_append.mpr ⟨ok6.nd, nd5.2.1, fun a z b e => nd5.2.2 a (sub6.subset z) b e⟩
            · simp only [List.mem_append] at z ⊢
              exact z.imp (fun y => sub6.subset y) id
end
section
variable {X : Cx} {T : Tb} {W : WK} {elt tg iter tg1 iter1 : Expr} {ifs ifs1 : List Expr} {scope : Scope} {own : List (Str × Nat)} {vs1 : List Nat} {pos : Pos} {q q1 : Sq} {g g1 : G} {u u1 : IL.T} {m : Ex}
end
end IS
end
section
set_option Elab.async false
set_option linter.all false
set_option autoImplicit false
set_option maxRecDepth 100000
set_option maxHeartbeats 2000000
/-! IS, part 33: several except clauses that name the error. The walk is HandS.TryMany's, with HandS.Exc's ending of a clause. -/
namespace IS
open PySem PySem.Spec PyProof.Rows L2
abbrev TsA := Addr → Value → Option Addr → TS
section
variable {X : Cx} {body : List Stmt} {h₀ : ExceptHandler} {hds : List ExceptHandler} {l : List (Value × Option Nat × TsA)} {pos : Pos} {tb : WX → TS} {Wout : WX}
end
end IS
end
section
set_option Elab.async false
set_option linter.all false
set_option autoImplicit false
set_option maxRecDepth 100000
set_option maxHeartbeats 2000000
namespace IL
/-- the clauses: which error; its tag; the field told, if it is named -/
abbrev Mh := List (PySem.Str × Option (PySem.Str × Option PySem.Str))
end IL
/-! IS, part 34: a def that calls what it got, and tells what came of it. -/
namespace IS
open PySem PySem.Spec PyProof.Rows L2 IL LamX
section
variable {X : Cx}
end
/-! ### the reading -/
section
variable {K : PySem.W.Frag} {T : Tb} {F : Addr → Prop} {H : Hp} {σ : L2.St} {ρ : Ro} {fps : List Addr}
end
section
variable {X : Cx} {T : Tb} {W : WK}
end
end IS
end
section
set_option Elab.async false
set_option linter.all false
set_option autoImplicit false
set_option maxRecDepth 100000
set_option maxHeartbeats 2000000
namespace IL
end IL
/-! IS, part 35: moves. -/
namespace IS
open PySem PySem.Spec PySem.W PyProof.Rows L2 IL LamX
section
variable {K : PySem.W.Frag} {F F' : Addr → Prop} {H H' : Hp}
end
section
variable {X : Cx} {T : Tb} {W : WK} {e : Expr}
end
section
variable {X : Cx} {T : Tb} {W : WK} {e : Expr} {m : Ex} {f : D → Option D} {r : V → Hp → VK → Prop}
end
section
variable {K : PySem.W.Frag} {F : Addr → Prop} {H : Hp} {T : Tb}
end
end IS
end
section
set_option Elab.async false
set_option linter.all false
set_option autoImplicit false
set_option maxRecDepth 100000
set_option maxHeartbeats 2000000
/-! IS, part 36: sorted and slices of owned lists. -/
namespace IS
open PySem PySem.Spec PySem.W PyProof.Rows L2 IL LamX
section
variable {X : Cx} {T : Tb} {W : WK}
end
section
variable {X : Cx} {T : Tb} {W : WK} {K : PySem.W.Frag} {F : Addr → Prop} {H : Hp}
variable {e : Expr} {m : Ex}
end
end IS
end
section
set_option Elab.async false
set_option linter.all false
set_option autoImplicit false
set_option maxRecDepth 100000
set_option maxHeartbeats 2000000
namespace IL
end IL
/-! IS, part 37: a loop that changes what it walks, part by part. -/
namespace IS
open PySem PySem.Spec PySem.W PyProof.Rows L2 IL LamX
section
variable {K : PySem.W.Frag} {T : Tb} {F : Addr → Prop} {H : Hp} {σ : L2.St} {ρ : Ro} {fps : List Addr}
end
section
variable {X : Cx} {T : Tb} {W : WK} {n : Nat → Prop} {st : Stmt} {f : Fm} {i j : Nat} {tb : TS}
end
end IS
end
section
set_option Elab.async false
set_option linter.all false
set_option autoImplicit false
set_option maxRecDepth 100000
set_option maxHeartbeats 2000000
/-! IS, part 38: defs that call themselves: without fuel. -/
namespace IS
open PySem PySem.Spec PySem.W PyProof.Rows L2 IL LamX
section
variable {P : Program} {w : World} {K : PySem.W.Frag} {mg : Str → Option Value} {base : Heap} {x qual : Str} {params : Arguments} {body : List Stmt} {scope : Scope} {f : Addr} {fd : FuncData} {N ps : List Str} {k n : Nat} {T : Tb} {CX : CXT}
end
end IS
end
section
set_option Elab.async false
set_option linter.all false
set_option autoImplicit false
set_option maxRecDepth 100000
set_option maxHeartbeats 2000000
/-! IS, part 39: enumerate of a tuple. -/
namespace PySem
open Sem (wp)
open AutoSeq1 (wpAny_loadPart')
section
variable {prog : Program} {w : World} {A : Around} {E : Value → Shared → Prop} {s : Shared}
end
end PySem
namespace IS
open PySem PySem.Spec PySem.W PyProof.Rows L2 IL LamX
end IS
end
section
set_option Elab.async false
set_option linter.all false
set_option autoImplicit false
set_option maxRecDepth 100000
set_option maxHeartbeats 2000000
namespace IL
end IL
/-! IS, part 40: enumerate of a list or a tuple. -/
namespace IS
open PySem PySem.Spec PySem.W PyProof.Rows L2 IL LamX
section
variable {X : Cx} {T : Tb} {W : WK} {ar : A} {pos : Pos}
end
end IS
end
section
set_option Elab.async false
set_option linter.all false
set_option autoImplicit false
set_option maxRecDepth 100000
set_option maxHeartbeats 2000000
namespace IL
open PySem
end IL
/-! IS, part 41: list(d.items()), dict([]). -/
namespace IS
open PySem PySem.Spec PySem.W PyProof.Rows L2 IL LamX
section
variable {X : Cx} {T : Tb} {W : WK} {e : Expr} {m : Ex} {te : TE} {p apos cpos pos : Pos}
end
section
variable {X : Cx} {T : Tb} {W : WK} {e : Expr} {m : Ex} {p apos cpos pos : Pos} {K : PySem.W.Frag} {F : Addr → Prop} {H : Hp}
end
end IS
end
section
set_option Elab.async false
set_option linter.all false
set_option autoImplicit false
set_option maxRecDepth 100000
set_option maxHeartbeats 2000000
/-! IS, part 42: facts of own errors, as truths that a head can tell. -/
namespace IS
open PySem PySem.Spec PySem.W PyProof.Rows L2 IL LamX
/-- the class C of the module, an own error with its own __init__ -/
def oexB (K : PySem.W.Frag) (C : Addr) : Bool := (match K.lookup C with
  | some ⟨.type t, _, .cls cd, sl⟩ => (match cd.mro, sl.toList with
    | .ref C' :: bm, [_, _, _, _, some (.builtin n), _] => t == "type" && C' == C && n == "ValueError.__new__" && !cd.hasDel && cd.hasDict && PySem.HandSPX.refsVE bm
    | _, _ => false)
  | _ => false) && (decide (PySem.W.findIn K (.ref C) "__setattr__" = some (some (.builtin "object.__setattr__"))) && (decide (PySem.W.subIn K (.ref C) (.type "BaseException") = some true) && (decide (PySem.W.typeIn K (.ref C) = some (.type "type")) && PySem.W.keepIn K (.ref C))))
end IS
end
section
set_option Elab.async false
set_option linter.all false
set_option autoImplicit false
set_option maxRecDepth 100000
set_option maxHeartbeats 2000000
/-! IS, part 43: short forms for a printed derivation. -/
namespace IS
open PySem PySem.Spec PySem.W PyProof.Rows L2 IL LamX
section
variable {X : Cx} {T : Tb} {W : WK} {x : Str} {ps : List Str} {n k j : Nat} {f : Fp} {fm : Fm} {p pos p2 : Pos} {e a b c : Expr} {es : List Expr} {pr : Pe} {m ma mb mc mo : Ex} {ar : A}
/-! ### built-ins by name -/
/-! ### displays -/
/-! ### slices -/
/-! ### for part in thing: f(part) -/
/-! ### raise C(e) -/
end
end IS
end
section
set_option Elab.async false
set_option linter.all false
set_option autoImplicit false
set_option maxRecDepth 100000
set_option maxHeartbeats 2000000
/-! IS, part 44: a def that holds lambdas; the def met. -/
namespace IS
open PySem PySem.Spec PySem.W PyProof.Rows L2 IL LamX
section
variable {P : Program} {w : World} {K : PySem.W.Frag} {mg : Str → Option Value} {base : Heap} {x : Str} {params : Arguments} {body : List Stmt} {scope : Scope} {fd : FuncData} {N ps : List Str} {k n : Nat} {b : S} {T : Tb}
end
/-! ### the def met -/
section
variable {X : Cx} {T : Tb} {W : WK} {x a told : Str} {h : Mh} {m : Ex} {c P : Addr} {k j : Nat} {params : Arguments} {body : Expr} {scope : Scope} {p lpos pos : Pos}
end
end IS
end
section
set_option Elab.async false
set_option linter.all false
set_option autoImplicit false
set_option maxRecDepth 100000
set_option maxHeartbeats 2000000
namespace IL
open PySem
end IL
/-! IS, part 45: the pairs of a dict, whatever its keys. -/
namespace IS
open PySem PySem.Spec PySem.W PyProof.Rows L2 IL LamX
section
variable {X : Cx} {pins : List (Addr × Obj)} {σ : L2.St} {H : Hp} {s : Shared} {d : Addr} {o : Obj}
end
section
variable {P : Program} {w : World} {K : PySem.W.Frag} {d : Addr} {o : Obj} {es : Array DictEntry} {ep : Nat}
end
section
variable {X : Cx} {tg e : Expr} {td : TE} {apos cpos : Pos}
end
section
variable {X : Cx} {T : Tb} {W : WK} {H : Hp} {F : Addr → Prop} {K : PySem.W.Frag} {σ : L2.St} {e : Expr} {m : Ex} {apos cpos : Pos}
end
end IS
end
section
set_option Elab.async false
set_option linter.all false
set_option autoImplicit false
set_option maxRecDepth 100000
set_option maxHeartbeats 2000000
namespace IL
open PySem
end IL
/-! IS, part 46: stars in a list display. -/
namespace IS
open PySem PySem.Spec PySem.W PyProof.Rows L2 IL LamX
section
variable {X : Cx} {T : Tb} {W : WK} {e : Expr} {es : List Expr} {m : Ex} {ar : A} {F : Addr → Prop} {H : Hp} {σ : L2.St} {ρ : Ro} {fps : List Addr} {pos p : Pos}
end
end IS
end
section
set_option Elab.async false
set_option linter.all false
set_option autoImplicit false
set_option maxRecDepth 100000
set_option maxHeartbeats 2000000
namespace IL
open PySem
end IL
/-! IS, part 47: != of empty dicts. -/
namespace IS
open PySem PySem.Spec PySem.W PyProof.Rows L2 IL LamX
section
variable {X : Cx} {T : Tb}
end
end IS
end
section
set_option Elab.async false
set_option linter.all false
set_option autoImplicit false
set_option maxRecDepth 100000
set_option maxHeartbeats 2000000
namespace IL
open PySem
abbrev LTab := List (Str × LamR × Fp)
end IL
/-! IS, part 48: lambdas that have captured nothing, as values. -/
namespace IS
open PySem PySem.Spec PySem.W PyProof.Rows L2 IL LamX NdefX
section
variable {X : Cx} {pins : List (Addr × Obj)} {σ : L2.St} {H : Hp} {s : Shared}
end
section
variable {X : Cx} {T : Tb} {W : WK} {c P : Addr} {params : Arguments} {body : Expr} {scope : Scope} {pos : Pos}
end
end IS
end
section
set_option Elab.async false
set_option linter.all false
set_option autoImplicit false
set_option maxRecDepth 100000
set_option maxHeartbeats 2000000
/-! IS, part 49: calls of lambdas that have captured nothing. -/
namespace IS
open PySem PySem.Spec PySem.W PyProof.Rows L2 IL LamX NdefX
section
variable {P : Program} {w : World} {K : PySem.W.Frag} {mg : Str → Option Value} {base : Heap} {r : LamR} {k : Nat} {ps : List Str} {b : Ex} {T : Tb}
end
section
variable {X : Cx} {T : Tb} {W : WK} {p : Pe} {tb : LTab} {i j k n : Nat} {x : Str} {e : Expr} {es : List Expr} {pn pos : Pos}
end
end IS
end
section
set_option Elab.async false
set_option linter.all false
set_option autoImplicit false
set_option maxRecDepth 100000
set_option maxHeartbeats 2000000
namespace IL
open PySem
end IL
/-! IS, part 50: min, max of ints; list of a text. -/
namespace IS
open PySem PySem.Spec PySem.W PyProof.Rows L2 IL LamX
section
variable {X : Cx} {T : Tb}
end
end IS
end
section
set_option Elab.async false
set_option linter.all false
set_option autoImplicit false
set_option maxRecDepth 100000
set_option maxHeartbeats 2000000
/-! IS, part 51: a call without arguments. -/
namespace IS
open PySem PySem.Spec PySem.W PyProof.Rows L2 IL LamX
section
variable {X : Cx} {T : Tb} {W : WK} {x : Str} {k j : Nat} {f : Fp} {p pos : Pos}
end
end IS
end
section
set_option Elab.async false
set_option linter.all false
set_option autoImplicit false
set_option maxRecDepth 100000
set_option maxHeartbeats 2000000
namespace IL
open PySem
end IL
/-! IS, part 52: attributes of instances. -/
namespace IS
open PySem PySem.Spec PySem.W PyProof.Rows L2 IL LamX
section
variable {X : Cx} {T : Tb} {W : WK} {e : Expr} {m : Ex} {pos : Pos} {C f : Str}
end
end IS
end
section
set_option Elab.async false
set_option linter.all false
set_option autoImplicit false
set_option maxRecDepth 100000
set_option maxHeartbeats 2000000
namespace IL
open PySem
end IL
/-! IS, part 53: instances are made. -/
namespace IS
open PySem PySem.Spec PySem.W PyProof.Rows L2 IL LamX
section
variable {X : Cx} {T : Tb} {W : WK} {e : Expr} {es : List Expr} {pr : Pe} {p pos : Pos} {C : Str} {fI : Addr} {fd : FuncData} {ps : List Str} {k n : Nat} {f : Fm} {CX : CXT}
end
end IS
end
section
set_option Elab.async false
set_option linter.all false
set_option autoImplicit false
set_option maxRecDepth 100000
set_option maxHeartbeats 2000000
namespace IL
open PySem
end IL
/-! IS, part 54: attributes are stored. -/
namespace IS
open PySem PySem.Spec PySem.W PyProof.Rows L2 IL LamX
section
variable {X : Cx} {T : Tb} {W : WK} {C f : Str} {K : PySem.W.Frag} {F : Addr → Prop} {H : Hp}
variable {o v : Expr} {mo mv : Ex} {p pos : Pos} {nn : Nat → Prop}
end
end IS
end
section
set_option Elab.async false
set_option linter.all false
set_option autoImplicit false
set_option maxRecDepth 100000
set_option maxHeartbeats 2000000
namespace IL
open PySem
end IL
/-! IS, part 55: methods that change nothing. -/
namespace IS
open PySem PySem.Spec PySem.W PyProof.Rows L2 IL LamX
section
variable {X : Cx} {T : Tb} {W : WK} {C m : Str} {o e : Expr} {es : List Expr} {mo : Ex} {p : Pe} {fm : Addr} {fd : FuncData} {ps : List Str} {k j n : Nat} {f : Fp} {pos apos : Pos}
end
end IS
end
section
set_option Elab.async false
set_option linter.all false
set_option autoImplicit false
set_option maxRecDepth 100000
set_option maxHeartbeats 2000000
namespace IL
open PySem
end IL
/-! IS, part 56: abs, index. -/
namespace IS
open PySem PySem.Spec PySem.W PyProof.Rows L2 IL LamX
section
variable {X : Cx} {T : Tb} {W : WK}
end
end IS
end
section
set_option Elab.async false
set_option linter.all false
set_option autoImplicit false
set_option maxRecDepth 100000
set_option maxHeartbeats 2000000
namespace IL
open PySem
end IL
/-! IS, part 57: reversed of a list. -/
namespace IS
open PySem PySem.Spec PySem.W PyProof.Rows L2 IL LamX
section
variable {X : Cx} {T : Tb} {W : WK} {ar : A} {pos : Pos} {tg : Expr}
end
end IS
end
section
set_option Elab.async false
set_option linter.all false
set_option autoImplicit false
set_option maxRecDepth 100000
set_option maxHeartbeats 2000000
namespace IL
open PySem
end IL
/-! IS, part 58: an attribute as a target among others. -/
namespace IS
open PySem PySem.Spec PySem.W PyProof.Rows L2 IL LamX
section
variable {X : Cx} {T : Tb} {C f : Str} {i : Nat} {o : Expr} {pos : Pos} {n : Nat → Prop}
end
end IS
end
section
set_option Elab.async false
set_option linter.all false
set_option autoImplicit false
set_option maxRecDepth 100000
set_option maxHeartbeats 2000000
namespace IL
open PySem
end IL
/-! IS, part 59: a turn in which a slot's thing goes by another name. -/
namespace IS
open PySem PySem.Spec PySem.W PyProof.Rows L2 IL LamX
section
variable {X : Cx} {K : PySem.W.Frag} {T : Tb} {W : WK} {F : Addr → Prop} {H : Hp} {σ : L2.St} {ρ : Ro} {fps : List Addr}
end
end IS
end
section
set_option Elab.async false
set_option linter.all false
set_option autoImplicit false
set_option maxRecDepth 100000
set_option maxHeartbeats 2000000
namespace IL
open PySem
end IL
/-! IS, part 60: a loop over two written pairs, whose first parts are slots' things. -/
namespace IS
open PySem PySem.Spec PySem.W PyProof.Rows L2 IL LamX
section
variable {X : Cx} {T : Tb} {W : WK} {st : Stmt} {f b l1 l2 : Nat} {c1 c2 : D} {k1 k2 : V} {s : S} {n n' : Nat → Prop} {td : TE}
end
end IS
end
section
set_option Elab.async false
set_option linter.all false
set_option autoImplicit false
set_option maxRecDepth 100000
set_option maxHeartbeats 4000000
/-! IS, part 61: dict comprehensions with two for: the walk of the block (after HandS.Comp and HandS.DictComp). -/
namespace IS
open PySem PySem.Spec PyProof.Rows L2 LamX
section
variable {prog : Program} {w : World} {A : Around} {R : Result → Shared → Prop} {s : Shared} {kx vx t0 i0 t1 i1 : Expr} {ifs0 ifs1 : List Expr} {scope : Scope} {pos : Pos} {it : Value} {D : Addr} {env : Env}
end

section
variable {X : Cx}
end
end IS
end
section
set_option Elab.async false
set_option linter.all false
set_option autoImplicit false
set_option maxRecDepth 100000
set_option maxHeartbeats 4000000
namespace IL
end IL
/-! IS, part 32: comprehensions with two for. -/
namespace IS
open PySem PySem.Spec PySem.W PyProof.Rows L2 IL LamX
section
variable {K : PySem.W.Frag} {T : Tb} {A : Asd} {D : Addr} {F : Addr → Prop} {H : Hp} {σ : L2.St} {ρ : Ro} {fps fA fa : List Addr} {acc : IL.D}
end
section
variable {X : Cx} {T : Tb} {W : WK} {kx vx tg iter tg1 iter1 : Expr} {ifs ifs1 : List Expr} {scope : Scope} {own : List (Str × Nat)} {vs1 : List Nat} {pos : Pos} {b : Bool} {q q1 : Sq} {g g1 : G} {u u1 : IL.T} {mk mv : Ex}
end
end IS
end
section
set_option Elab.async false
set_option linter.all false
set_option autoImplicit false
set_option maxRecDepth 100000
set_option maxHeartbeats 2000000
/-! IS, part 63: a lambda with one parameter, called while its maker's slots stand. -/
namespace IS
open PySem PySem.Spec PySem.W PyProof.Rows L2 IL LamX
section
variable {X : Cx} {pins : List (Addr × Obj)} {σ : L2.St} {H : Hp} {s : Shared} {scope : Scope} {x : Str}
end
end IS
end
section
set_option Elab.async false
set_option linter.all false
set_option autoImplicit false
set_option maxRecDepth 100000
set_option maxHeartbeats 4000000
namespace IL
open PySem PySem.W
end IL
/-! IS, part 64: sorted by a lambda's keys. -/
namespace IS
open PySem PySem.Spec PySem.W PyProof.Rows L2 IL LamX
end IS
end
section
set_option Elab.async false
set_option linter.all false
set_option autoImplicit false
set_option maxRecDepth 100000
set_option maxHeartbeats 4000000
/-! IS, part 65: sorted by a lambda's keys, the run. -/
namespace IS
open PySem PySem.Spec PySem.W PyProof.Rows L2 IL LamX
section
variable {X : Cx} {T : Tb} {j : Nat} {m : Ex} {body : Expr} {scope : Scope} {x : Str} {params : Arguments} {k : Nat} {pins : List (Addr × Obj)} {σ : L2.St} {ρ : Ro} {fps : List Addr}
end
end IS
end
section
set_option Elab.async false
set_option linter.all false
set_option autoImplicit false
set_option maxRecDepth 100000
set_option maxHeartbeats 4000000
/-! IS, part 66: sorted by a lambda's keys, the whole call. -/
namespace IS
open PySem PySem.Spec PySem.W PyProof.Rows L2 IL LamX
section
variable {X : Cx} {T : Tb} {j : Nat} {m : Ex} {body : Expr} {scope : Scope} {x : Str} {params : Arguments} {k : Nat} {pins : List (Addr × Obj)} {σ : L2.St} {ρ : Ro} {fps : List Addr}
end
end IS
end
section
set_option Elab.async false
set_option linter.all false
set_option autoImplicit false
set_option maxRecDepth 100000
set_option maxHeartbeats 4000000
/-! IS, part 67: sorted(range(e), key=lambda x: ..). -/
namespace IS
open PySem PySem.Spec PySem.W PyProof.Rows L2 IL LamX
section
variable {X : Cx} {T : Tb} {W : WK} {me m : Ex} {e body : Expr} {scope : Scope} {x y : Str} {params : Arguments} {k j : Nat} {p p2 pos pos2 kpos lpos : Pos} {c P : Addr}
end
end IS
end
section
set_option Elab.async false
set_option linter.all false
set_option autoImplicit false
set_option maxRecDepth 100000
set_option maxHeartbeats 4000000
namespace IL
open PySem PySem.W
end IL
/-! IS, part 68: min of a list of data. -/
namespace IS
open PySem PySem.Spec PySem.W PyProof.Rows L2 IL LamX
section
variable {X : Cx} {T : Tb}
end
end IS
end
section
set_option Elab.async false
set_option linter.all false
set_option autoImplicit false
set_option maxRecDepth 100000
set_option maxHeartbeats 4000000
namespace IL
open PySem
end IL
/-! IS, part 69: zip of three lists. -/
namespace IS
open PySem PySem.Spec PySem.W PyProof.Rows L2 IL LamX
section
variable {X : Cx} {T : Tb} {W : WK} {ar : A} {pos : Pos} {K : PySem.W.Frag} {F : Addr → Prop} {H : Hp}
end
end IS
end
section
set_option Elab.async false
set_option linter.all false
set_option autoImplicit false
set_option maxRecDepth 100000
set_option maxHeartbeats 2000000
/-! IS, part 70: defs and methods that hold lambdas. -/
namespace IS
open PySem PySem.Spec PySem.W PyProof.Rows L2 IL LamX
section
variable {P : Program} {w : World} {K : PySem.W.Frag} {mg : Str → Option Value} {base : Heap} {x : Str} {params : Arguments} {body : List Stmt} {scope : Scope} {fd : FuncData} {N ps : List Str} {k n : Nat} {b : S} {T : Tb}
end
end IS
end
section
set_option Elab.async false
set_option linter.all false
set_option autoImplicit false
set_option maxRecDepth 100000
set_option maxHeartbeats 2000000
/-! IS, part 71: classes as the generator names them; the loop over two names, as a statement. -/
namespace IS
open PySem PySem.Spec PySem.W PyProof.Rows L2 IL LamX
section
variable {X : Cx} {T : Tb} {W : WK} {C m : Str} {ps : List Str} {n k j : Nat} {f : Fp} {fm : Fm} {p pos apos : Pos} {e o : Expr} {es : List Expr} {pr : Pe} {mo : Ex}
end
section
variable {X : Cx} {T : Tb} {W : WK} {f b l1 l2 : Nat} {b1 b2 : Bool} {s : S} {n n' : Nat → Prop} {nf nb y1 y2 : Str} {body : List Stmt} {t1 t2 x1 x2 x3 x4 j1 j2 : Nat} {p0 p1 p2 p3 p4 p5 p6 p7 p8 p9 pos : Pos}
end
end IS
end
section
set_option Elab.async false
set_option linter.all false
set_option autoImplicit false
set_option maxRecDepth 100000
set_option maxHeartbeats 2000000
namespace IL
open PySem
end IL
/-! IS, part 72: list(range(e)). -/
namespace IS
open PySem PySem.Spec PySem.W PyProof.Rows L2 IL LamX
section
variable {X : Cx} {T : Tb} {W : WK} {me : Ex} {e : Expr} {p p2 pos pos2 : Pos}
end
end IS
end
section
set_option Elab.async false
set_option linter.all false
set_option autoImplicit false
set_option maxRecDepth 100000
set_option maxHeartbeats 4000000
namespace IL
open PySem
end IL
/-! IS, part 73: what is only seen changes nothing. -/
namespace IS
open PySem PySem.Spec PySem.W PyProof.Rows L2 IL LamX
section
variable {K : PySem.W.Frag} {F F' : Addr → Prop} {H H' : Hp}
end
section
variable {X : Cx} {T : Tb} {W : WK} {e : Expr} {m : Ex}
end
end IS
end
section
set_option Elab.async false
set_option linter.all false
set_option autoImplicit false
set_option maxRecDepth 100000
set_option maxHeartbeats 4000000
/-! IS, part 74: methods that change their object, called without arguments. -/
namespace IS
open PySem PySem.Spec PySem.W PyProof.Rows L2 IL LamX
section
variable {X : Cx} {T : Tb} {W : WK} {mo : Ex} {kd : D → Bool} {r : V → List V → Hp → VK → Prop}
end
end IS
end
section
set_option Elab.async false
set_option linter.all false
set_option autoImplicit false
set_option maxRecDepth 100000
set_option maxHeartbeats 2000000
namespace IL
open PySem
end IL
/-! IS, part 75: the values of a dict. -/
namespace IS
open PySem PySem.Spec PySem.W PyProof.Rows L2 IL LamX
section
variable {X : Cx} {tg e : Expr} {td : TE} {apos cpos : Pos}
end
section
variable {X : Cx} {T : Tb} {W : WK} {H : Hp} {F : Addr → Prop} {K : PySem.W.Frag} {σ : L2.St} {tg e : Expr} {m : Ex} {apos cpos : Pos}
end
end IS
end
section
set_option Elab.async false
set_option linter.all false
set_option autoImplicit false
set_option maxRecDepth 100000
set_option maxHeartbeats 2000000
namespace IL
open PySem
end IL
/-! IS, part 76: not in a module's tuple of texts. -/
namespace IS
open PySem PySem.Spec PySem.W PyProof.Rows L2 IL LamX
section
variable {X : Cx} {T : Tb} {W : WK} {e : Expr} {m : Ex} {pos p : Pos}
end
end IS
end
section
set_option Elab.async false
set_option linter.all false
set_option autoImplicit false
set_option maxRecDepth 100000
set_option maxHeartbeats 4000000
namespace IL
open PySem
end IL
/-! IS, part 77: a list that several name and that is changed afterwards. -/
namespace IS
open PySem PySem.Spec PySem.W PyProof.Rows L2 IL LamX
section
variable {X : Cx} {T : Tb} {W : WK} {K : PySem.W.Frag} {F : Addr → Prop} {H : Hp} {σ : L2.St} {ρ : Ro} {fps : List Addr} {n : Nat → Prop}
end
end IS
end
section
set_option Elab.async false
set_option linter.all false
set_option autoImplicit false
set_option maxRecDepth 100000
set_option maxHeartbeats 2000000
/-! IS, part 78: own errors as values: a class called with keywords. -/
namespace PySem
namespace HandSPX
open Builtin Builtin.ObjectAttr Sem Spec
section
variable {M : Model} {A : Around} {E : Value → Shared → Prop} {h : Heap} {g : Array GenState} {d : Drawn} {t : Nat} {os : OsState}
variable {nm q : Str} {C N : Addr} {bs bm bmB : List Value} {hdct : Bool} {sn : List Str} {sub : List Value} {ab : Bool} {col : Option Bool} {dd : Option Addr} {k0 k1 k2 k3 k5 : Option Value} {B newId initId : String}
end
section
variable {prog : Program} {w : World} {A : Around} {E : Value → Shared → Prop} {R : Result → Shared → Prop} {h : Heap} {g : Array GenState} {d : Drawn} {t : Nat} {os : OsState}
variable {nm q : Str} {C N : Addr} {bs bm bmB : List Value} {hdct : Bool} {sn : List Str} {sub : List Value} {ab : Bool} {col : Option Bool} {dd : Option Addr} {k0 k1 k2 k3 k5 : Option Value} {B newId initId : String}
end
end HandSPX
end PySem
end
section
set_option Elab.async false
set_option linter.all false
set_option autoImplicit false
set_option maxRecDepth 100000
set_option maxHeartbeats 2000000
namespace IL
open PySem
end IL
/-! IS, part 79: own errors as values. -/
namespace IS
open PySem PySem.Spec PySem.W PyProof.Rows L2 IL LamX
section
variable {P : Program} {w : World} {K : PySem.W.Frag} {mg : Str → Option Value} {base : Heap} {qual x f x2 f2 : Str} {params : Arguments} {scope : Scope} {fI C : Addr} {fd : FuncData} {CX : CXT} {p1 p2 p3 pos p4 p5 p6 pos2 : Pos}
end
/-! ### the object is made -/
section
variable {X : Cx} {CX : CXT} {x : Str} {C fI : Addr} {k : Nat} {fd : FuncData} {ps ks : List Str} {sp : Sp} {ta : TA} {e : Expr} {es : List Expr} {p pos : Pos} {kws : List Keyword} {js : List Nat}
end
end IS
end
section
set_option Elab.async false
set_option linter.all false
set_option autoImplicit false
set_option maxRecDepth 100000
set_option maxHeartbeats 2000000
/-! IS, part 80: own errors as values: C(e, ..), C(k = e, ..). -/
namespace IS
open PySem PySem.Spec PySem.W PyProof.Rows L2 IL LamX
section
variable {X : Cx} {T : Tb} {W : WK} {CX : CXT} {C : Str} {fI : Addr} {k n : Nat} {fd : FuncData} {ps ks fs : List Str} {e : Expr} {es : List Expr} {ar : A} {p pos kpos : Pos} {kws : List Keyword} {js : List Nat} {nm : Option Str} {m : Ex}
end
end IS
end
section
set_option Elab.async false
set_option linter.all false
set_option autoImplicit false
set_option maxRecDepth 100000
set_option maxHeartbeats 2000000
namespace PySem.W
open PySem PySem.Spec PySem.Calls PyProof.Rows
section
variable {prog : Program} {w : World} {A : Around} {E : Value → Shared → Prop} {s : Shared} {K : Frag} {x D : Addr} {ox : Obj} {ob : Option Obj}
end
end PySem.W
namespace IL
open PySem
end IL
/-! IS, part 81: own errors as values: their kind, their fields; C(). -/
namespace IS
open PySem PySem.Spec PySem.W PyProof.Rows L2 IL LamX
section
variable {X : Cx} {T : Tb} {W : WK} {K : PySem.W.Frag} {F : Addr → Prop} {H : Hp} {er : List Str} {root : Str}
end
section
variable {X : Cx} {T : Tb} {W : WK} {er : List Str} {root f C : Str} {e : Expr} {m : Ex} {pos p : Pos}
end
end IS
end
section
set_option Elab.async false
set_option linter.all false
set_option autoImplicit false
set_option maxRecDepth 100000
set_option maxHeartbeats 2000000
namespace IL
open PySem
end IL
/-! IS, part 82: a display of one pair. -/
namespace IS
open PySem PySem.Spec PySem.W PyProof.Rows L2 IL LamX
section
variable {X : Cx} {T : Tb} {W : WK} {ek ev : Expr} {mk mv : Ex} {pos : Pos} {K : PySem.W.Frag} {F : Addr → Prop} {H : Hp}
end
end IS
end
section
set_option Elab.async false
set_option linter.all false
set_option autoImplicit false
set_option maxRecDepth 100000
set_option maxHeartbeats 2000000
/-! IS, part 83: own errors as values, as the printer wants them. -/
namespace IS
open PySem PySem.Spec PySem.W PyProof.Rows L2 IL LamX
section
variable {X : Cx} {T : Tb} {W : WK} {C : Str} {fs ks : List Str} {js is : List Nat} {e : Expr} {es : List Expr} {ar : A} {p pos : Pos} {kws : List Keyword} {j : Nat} {mx mc : Ex} {ex ec : Expr} {er : List Str} {root : Str} {y : Str}
end
/-! ### what the head looks at -/
def ezB (K : PySem.W.Frag) (C : Str) (fs : List Str) : Bool := oexB K (ga K C) && (fs.all (fun f => decide (PySem.W.findIn K (.ref (ga K C)) f = some none)) && (decide (PySem.W.findIn K (.ref (ga K C)) "__init__" = some (some (.ref (He.ma K (ga K C) "__init__")))) &&
  decide (PySem.W.typeIn K (.ref (He.ma K (ga K C) "__init__")) = some (.type "function"))))
def ez0B (K : PySem.W.Frag) (C : Str) : Bool := PySem.W.excIn K (ga K C) PySem.HandSPX.veTail "ValueError.__new__" && PySem.W.keepIn K (.ref (ga K C))
def exC1B (K : PySem.W.Frag) (D : Addr) : Bool := decide (PySem.W.findIn K (.ref D) "__getattribute__" = some (some (.builtin "BaseException.__getattribute__"))) && (decide (PySem.W.findIn K (.ref D) "__getattr__" = some none) && (decide (PySem.W.subIn K (.ref D) (.type "BaseException") = some true) && (PySem.W.hasDictIn K D &&
  (decide (PySem.W.findIn K (.ref D) "__class__" = some (some (.builtin "object.__class__"))) && (decide (PySem.W.specialIn K (.builtin "object.__class__") "__get__" = some (some (.builtin "getset_descriptor.__get__"))) && (decide (PySem.W.takesIn K (.builtin "object.__class__") = some true) && decide (PySem.W.mroIn K D (.type "object") = some true)))))))
def eiB (K : PySem.W.Frag) (er : List Str) (root : Str) : Bool := er.all fun C => exC1B K (ga K C) && (xfB K (ga K C) && (er.all (fun C' => decide (PySem.W.kitOne K (.ref (ga K C)) (.ref (ga K C')) = some (decide (C = C') || decide (C' = root)))) &&
  (decide (PySem.W.kitOne K (.ref (ga K C)) (.type "ValueError") = some true) && ["LookupError", "ArithmeticError", "TypeError"].all fun n => decide (PySem.W.kitOne K (.ref (ga K C)) (.type n) = some false))))
end IS
namespace IS
open PySem PySem.Spec PySem.W PyProof.Rows L2 IL LamX
end IS
namespace IS
open PySem PySem.Spec PySem.W PyProof.Rows L2 IL LamX
section
variable {X : Cx} {T : Tb} {W : WK} {er : List Str} {root f : Str} {e : Expr} {m : Ex} {pos : Pos}
end
end IS
end
section
set_option Elab.async false
set_option linter.all false
set_option autoImplicit false
set_option maxRecDepth 100000
set_option maxHeartbeats 1000000
/-! HookY: the facts at the head's end, read off levels of names (no sieve of doubles). -/
namespace HookY
open PySem PySem.W He
/-- what an object names, but not its class nor a class's line -/
def refsL (o : Obj) : List Addr := (match o.dict with
  | some d => [d]
  | none => []) ++ match o.data with
  | .seq its _ => its.toList.flatMap refV
  | .dict es _ => es.toList.flatMap fun e => refV e.val
  | .func fd => refV fd.code ++ (refV fd.defaults ++ (refV fd.kwdefaults ++ fd.closure.map (·.2)))
  | .cls cd => [cd.ns]
  | .fields vs => vs.toList.flatMap refV
  | .cell (some v) => refV v
  | _ => []
def lvl (g : Addr → Option Obj) (as : List Addr) : List Addr := as.flatMap fun a => match g a with
  | some o => refsL o
  | none => []
def asN (g : Addr → Option Obj) : Nat → List Addr → List Addr
  | 0, as => as
  | n + 1, as => as ++ asN g n (lvl g as)
def asL (g : Addr → Option Obj) : List Addr := asN g 5 [mainGlobals]
def obsY (fa : List Fa) (fn : List DefD) (tf : List Defn) (ex : PySem.W.Frag → Bool) (g : Addr → Option Obj) : AlX := (obsT fa fn [] (frT g (asL g)), ex (frT g (asL g)) && tabsB g tf (frT g (asL g)))
theorem saysY {K : PySem.W.Frag} {as : List Addr} {fa : List Fa} {fn : List DefD} {tf : List Defn} {ex : PySem.W.Frag → Bool} {w : World} {h : Heap} (eK : K = frT h.get? as) (e : ((obsT fa fn [] K, ex K && tabsB h.get? tf K) : AlX) = valX fn [] w) : SaysX fa fn [] tf ex w h K := by
  have h2 : (ex K && tabsB h.get? tf K) = true := congrArg (fun z : AlX => z.2) e
  rw [Bool.and_eq_true] at h2
  have key : ∀ p ∈ tf, PySem.W.codeHdIn K (cT K p).1 (cT K p).2 = true ∧ ∃ o, h.get? (cT K p).2 = some o ∧ emptyTab o = true := fun p hp => by
    have h3 := List.all_eq_true.mp h2.2 p hp
    rw [Bool.and_eq_true] at h3
    refine ⟨h3.1, ?_⟩
    have h4 := h3.2
    cases q : h.get? (cT K p).2 with
    | none => rw [q] at h4; cases h4
    | some o => rw [q] at h4; exact ⟨o, rfl, h4⟩
  refine ⟨congrArg (fun z : AlX => z.1) e, h2.1, fun p hp => (key p hp).1, fun p hp => ?_, fun p hp => ?_⟩
  · obtain ⟨_, o, q, z⟩ := key p hp
    generalize (cT K p).2 = u at q ⊢
    subst eK
    exact frT_none q z
  · obtain ⟨_, o, q, z⟩ := key p hp
    rw [q, emptyTab_eq z]
def hookY (fa : List Fa) (fn : List DefD) (tf : List Defn) (ex : PySem.W.Frag → Bool) : PySem.W.Hook where
  α := AlX
  obs := fun s => obsY fa fn tf ex s.heap.get?
  val := fun w => valX fn [] w
  says := fun w h => ∃ K : PySem.W.Frag, K.In h ∧ SaysX fa fn [] tf ex w h K
  of := fun _ _ e => ⟨_, frT_in, saysY rfl e⟩
  keeps := fun _ _ _ ⟨K, hK, c⟩ k => ⟨K, PySem.W.Frag.In.keeps hK k, ⟨c.t, c.more, c.hd, c.out, fun p hp => k _ _ (c.empty p hp)⟩⟩
end HookY
end
section
set_option linter.all false
set_option autoImplicit false
set_option maxRecDepth 100000
set_option maxHeartbeats 2000000
noncomputable section
namespace K00
open PySem PySem.W L2 IL IS
def glf : List Str := []
def erl0 : List Str := ["NestError", "BadDeed", "BadForest", "BadForm", "BadFrame", "BadFrames", "BadGauge", "BadGrove", "BadHeight", "BadHigh", "BadHollow", "BadKind", "BadLevels", "BadLosses", "BadLot", "BadLots", "BadLow", "BadMany", "BadMost", "BadName", "BadNest", "BadNumber", "BadOrder", "BadOther", "BadParting", "BadPicture", "BadPlaces", "BadPrice", "BadPriced", "BadPulls"]
def erl1 : List Str := ["BadQuestion", "BadRoots", "BadRows", "BadSession", "BadSharing", "BadSome", "BadSorter", "BadSplit", "BadTable", "BadText", "BadTies", "BadTold", "BadTree", "BadTriple", "BadTriples", "BadTwice", "BadWeb", "Crossing", "InUse", "IsThere", "IsWatched", "NoCount", "NoFrame", "NoLot", "NoParts", "NoPlace", "NoRoot", "NoTie", "NotFull", "NotNow"]
def erl2 : List Str := ["NotThere", "NotWatched", "OtherPlaces", "SamePlace", "SavesNothing", "WouldChange"]
def erl : List Str := erl0 ++ erl1 ++ erl2
def top (i : Nat) : Stmt := PySem.Challenge.pw_nestprices_k00_errors_made.main.body.getD i (.Pass ⟨0, 0, 0, 0⟩)
end K00
end
end
section
set_option linter.all false
set_option autoImplicit false
set_option maxHeartbeats 400000
namespace K00M
open PySem PySem.W L2 IL IS K00
/-! ### evaluation, step by step -/
section
variable {e a b c : Ex} {t u : IL.T} {ar : A} {p : Pe} {ρ ρ1 ρ2 ρ3 ρ' : Ro} {d x y z : D} {i j : Nat} {ds : List D} {q q' : Bool} {s s' : S}
/-! ### statements -/
/-! ### what is walked -/
/-! ### comprehensions -/
/-! ### loops -/
/-! ### calls that change their first argument (slot 0) -/
/-! ### arguments that are owned, an answer that is an atom -/
end
section
variable {α : Type} {e : Ex} {t : IL.T} {ρ ρ1 ρ0 ρ' : Ro} {g : G} {b : S} {qq : Sq} {vs : List Nat} {L : List α}
/-! ### comprehensions and loops over what is made of the items of L -/
end
end K00M
end
section
set_option linter.all false
set_option autoImplicit false
set_option maxHeartbeats 400000
namespace K00M
open PySem PySem.W L2 IL IS K00
section
variable {α : Type} [DecidableEq α]
end
end K00M
end
section
set_option linter.all false
set_option autoImplicit false
set_option maxRecDepth 100000
set_option maxHeartbeats 4000000
noncomputable section
namespace K00M
open PySem PySem.W L2 IL IS K00
section
variable {ρ ρ' : Ro} {ar : A} {ds : List D} {x y z : D} {acc : List D}
end
end K00M
end
end
section
set_option linter.all false
set_option autoImplicit false
set_option maxRecDepth 100000
set_option maxHeartbeats 4000000
noncomputable section
namespace K00M
open PySem PySem.W L2 IL IS K00
section
variable {ρ : Ro} {C : Str} {fs : List Str} {vs acc : List D}
end
end K00M
end
end
section
set_option linter.all false
set_option autoImplicit false
set_option maxRecDepth 100000
set_option maxHeartbeats 4000000
noncomputable section
namespace K00M
open PySem PySem.W L2 IL IS K00
section
variable {ρ : Ro}
/-! ### the fields -/
end
end K00M
end
end
section
set_option linter.all false
set_option autoImplicit false
set_option maxRecDepth 100000
set_option maxHeartbeats 4000000
noncomputable section
namespace K00M
open PySem PySem.W L2 IL IS K00
/-! ### no cell, no script within -/
/-! ### what is drawn of -/
/-! ### the entries, frozen -/
/-! ### what is made -/
section
variable {ρ : Ro} {x y z : D}
end
end K00M
end
end
section
set_option linter.all false
set_option autoImplicit false
set_option maxRecDepth 100000
set_option maxHeartbeats 4000000
noncomputable section
namespace K00M
open PySem PySem.W L2 IL IS K00
section
variable {a0 a1 a2 a3 a4 a5 a6 a7 o8 o9 o10 o11 o12 o13 o14 : Option D} {x y : D}
end
/-! ### a turn -/
section
variable {a0 o3 o4 o5 o6 o7 o8 o9 o10 o11 o12 o14 : Option D}
end
/-! ### the held list -/
section
variable {a0 a1 a2 a3 o4 o5 o6 o7 o8 o9 o10 o11 o12 : Option D}
end
end K00M
end
end
section
set_option linter.all false
set_option autoImplicit false
set_option maxRecDepth 100000
set_option maxHeartbeats 4000000
noncomputable section
namespace K00M
open PySem PySem.W L2 IL IS K00
end K00M
end
end
section
set_option Elab.async false
set_option linter.all false
set_option autoImplicit false
set_option maxRecDepth 100000
set_option maxHeartbeats 8000000
namespace K00
open PySem PySem.Spec PySem.W PyProof.Rows L2 IL LamX IS

end K00
end
section
set_option Elab.async false
set_option linter.all false
set_option autoImplicit false
set_option maxRecDepth 100000
set_option maxHeartbeats 8000000
namespace K00
open PySem PySem.Spec PySem.W PyProof.Rows L2 IL LamX IS
section
variable {P : Program} {w : World} {K : PySem.W.Frag} {mg : Str → Option Value} {base : Heap} {T : Tb}
/-! ### _law_start -/
end
end K00
end
section
set_option Elab.async false
set_option linter.all false
set_option autoImplicit false
set_option maxRecDepth 100000
set_option maxHeartbeats 8000000
namespace K00
open PySem PySem.Spec PySem.W PyProof.Rows L2 IL LamX IS
section
variable {P : Program} {w : World} {K : PySem.W.Frag} {mg : Str → Option Value} {base : Heap} {T : Tb}
/-! ### _law_made_c -/
end
end K00
end
section
set_option Elab.async false
set_option linter.all false
set_option autoImplicit false
set_option maxRecDepth 100000
set_option maxHeartbeats 8000000
namespace K00
open PySem PySem.Spec PySem.W PyProof.Rows L2 IL LamX IS
section
variable {P : Program} {w : World} {K : PySem.W.Frag} {mg : Str → Option Value} {base : Heap} {T : Tb}
/-! ### _law_made_d -/
end
end K00
end
section
set_option Elab.async false
set_option linter.all false
set_option autoImplicit false
set_option maxRecDepth 100000
set_option maxHeartbeats 8000000
namespace K00
open PySem PySem.Spec PySem.W PyProof.Rows L2 IL LamX IS
section
variable {P : Program} {w : World} {K : PySem.W.Frag} {mg : Str → Option Value} {base : Heap} {T : Tb}
/-! ### _law_draw -/
end
end K00
end
section
set_option Elab.async false
set_option linter.all false
set_option autoImplicit false
set_option maxRecDepth 100000
set_option maxHeartbeats 8000000
namespace K00
open PySem PySem.Spec PySem.W PyProof.Rows L2 IL LamX IS
section
variable {P : Program} {w : World} {K : PySem.W.Frag} {mg : Str → Option Value} {base : Heap} {T : Tb}
/-! ### _law_mixed -/
end
end K00
end
section
set_option Elab.async false
set_option linter.all false
set_option autoImplicit false
set_option maxRecDepth 100000
set_option maxHeartbeats 8000000
namespace K00
open PySem PySem.Spec PySem.W PyProof.Rows L2 IL LamX IS
section
variable {P : Program} {w : World} {K : PySem.W.Frag} {mg : Str → Option Value} {base : Heap} {T : Tb}
/-! ### _law_made_a -/
end
end K00
end
section
set_option Elab.async false
set_option linter.all false
set_option autoImplicit false
set_option maxRecDepth 100000
set_option maxHeartbeats 8000000
namespace K00
open PySem PySem.Spec PySem.W PyProof.Rows L2 IL LamX IS
section
variable {P : Program} {w : World} {K : PySem.W.Frag} {mg : Str → Option Value} {base : Heap} {T : Tb}
/-! ### _law_made_b -/
end
end K00
end
section
set_option Elab.async false
set_option linter.all false
set_option autoImplicit false
set_option maxRecDepth 100000
set_option maxHeartbeats 8000000
namespace K00
open PySem PySem.Spec PySem.W PyProof.Rows L2 IL LamX IS
section
variable {P : Program} {w : World} {K : PySem.W.Frag} {mg : Str → Option Value} {base : Heap} {T : Tb}
/-! ### _law_kinds_d -/
end
end K00
end
section
set_option Elab.async false
set_option linter.all false
set_option autoImplicit false
set_option maxRecDepth 100000
set_option maxHeartbeats 8000000
namespace K00
open PySem PySem.Spec PySem.W PyProof.Rows L2 IL LamX IS
section
variable {P : Program} {w : World} {K : PySem.W.Frag} {mg : Str → Option Value} {base : Heap} {T : Tb}
/-! ### _law_kinds_c -/
end
end K00
end
section
set_option Elab.async false
set_option linter.all false
set_option autoImplicit false
set_option maxRecDepth 100000
set_option maxHeartbeats 8000000
namespace K00
open PySem PySem.Spec PySem.W PyProof.Rows L2 IL LamX IS
section
variable {P : Program} {w : World} {K : PySem.W.Frag} {mg : Str → Option Value} {base : Heap} {T : Tb}
/-! ### _law_kinds_a -/
end
end K00
end
section
set_option Elab.async false
set_option linter.all false
set_option autoImplicit false
set_option maxRecDepth 100000
set_option maxHeartbeats 8000000
namespace K00
open PySem PySem.Spec PySem.W PyProof.Rows L2 IL LamX IS
section
variable {P : Program} {w : World} {K : PySem.W.Frag} {mg : Str → Option Value} {base : Heap} {T : Tb}
/-! ### _law_kinds_b -/
end
end K00
end
section
set_option Elab.async false
set_option linter.all false
set_option autoImplicit false
set_option maxRecDepth 100000
set_option maxHeartbeats 8000000
namespace K00
open PySem PySem.Spec PySem.W PyProof.Rows L2 IL LamX IS
section
variable {P : Program} {w : World} {K : PySem.W.Frag} {mg : Str → Option Value} {base : Heap} {T : Tb}
/-! ### _law_kinds -/
end
end K00
end
section
set_option Elab.async false
set_option linter.all false
set_option autoImplicit false
set_option maxRecDepth 100000
set_option maxHeartbeats 8000000
namespace K00
open PySem PySem.Spec PySem.W PyProof.Rows L2 IL LamX IS
section
variable {P : Program} {w : World} {K : PySem.W.Frag} {mg : Str → Option Value} {base : Heap} {T : Tb}
/-! ### _law_same -/
end
end K00
end
section
set_option Elab.async false
set_option linter.all false
set_option autoImplicit false
set_option maxRecDepth 100000
set_option maxHeartbeats 8000000
namespace K00
open PySem PySem.Spec PySem.W PyProof.Rows L2 IL LamX IS
section
variable {P : Program} {w : World} {K : PySem.W.Frag} {mg : Str → Option Value} {base : Heap} {T : Tb}
/-! ### _law_are_these -/
end
end K00
end
section
set_option Elab.async false
set_option linter.all false
set_option autoImplicit false
set_option maxRecDepth 100000
set_option maxHeartbeats 8000000
namespace K00
open PySem PySem.Spec PySem.W PyProof.Rows L2 IL LamX IS
section
variable {P : Program} {w : World} {K : PySem.W.Frag} {mg : Str → Option Value} {base : Heap} {T : Tb}
/-! ### _law_is_own -/
end
end K00
end
section
set_option Elab.async false
set_option linter.all false
set_option autoImplicit false
set_option maxRecDepth 100000
set_option maxHeartbeats 8000000
namespace K00
open PySem PySem.Spec PySem.W PyProof.Rows L2 IL LamX IS
section
variable {P : Program} {w : World} {K : PySem.W.Frag} {mg : Str → Option Value} {base : Heap} {T : Tb}
/-! ### law -/
end
end K00
end
section
set_option Elab.async false
set_option linter.all false
set_option autoImplicit false
set_option maxRecDepth 100000
set_option maxHeartbeats 0
namespace K00
open PySem PySem.Spec PySem.W PyProof.Rows L2 IL LamX IS
def fn : List He.DefD := [⟨("BadDeed", some "__init__"), "__init__", "BadDeed.__init__", defArgs (inClass (top 2) 0), defBody (inClass (top 2) 0), defScope (inClass (top 2) 0), [], []⟩,
  ⟨("BadForest", some "__init__"), "__init__", "BadForest.__init__", defArgs (inClass (top 3) 0), defBody (inClass (top 3) 0), defScope (inClass (top 3) 0), [], []⟩,
  ⟨("BadForm", some "__init__"), "__init__", "BadForm.__init__", defArgs (inClass (top 4) 0), defBody (inClass (top 4) 0), defScope (inClass (top 4) 0), [], []⟩,
  ⟨("BadFrame", some "__init__"), "__init__", "BadFrame.__init__", defArgs (inClass (top 5) 0), defBody (inClass (top 5) 0), defScope (inClass (top 5) 0), [], []⟩,
  ⟨("BadFrames", some "__init__"), "__init__", "BadFrames.__init__", defArgs (inClass (top 6) 0), defBody (inClass (top 6) 0), defScope (inClass (top 6) 0), [], []⟩,
  ⟨("BadGauge", some "__init__"), "__init__", "BadGauge.__init__", defArgs (inClass (top 7) 0), defBody (inClass (top 7) 0), defScope (inClass (top 7) 0), [], []⟩,
  ⟨("BadGrove", some "__init__"), "__init__", "BadGrove.__init__", defArgs (inClass (top 8) 0), defBody (inClass (top 8) 0), defScope (inClass (top 8) 0), [], []⟩,
  ⟨("BadHeight", some "__init__"), "__init__", "BadHeight.__init__", defArgs (inClass (top 9) 0), defBody (inClass (top 9) 0), defScope (inClass (top 9) 0), [], []⟩,
  ⟨("BadHigh", some "__init__"), "__init__", "BadHigh.__init__", defArgs (inClass (top 10) 0), defBody (inClass (top 10) 0), defScope (inClass (top 10) 0), [], []⟩,
  ⟨("BadHollow", some "__init__"), "__init__", "BadHollow.__init__", defArgs (inClass (top 11) 0), defBody (inClass (top 11) 0), defScope (inClass (top 11) 0), [], []⟩,
  ⟨("BadKind", some "__init__"), "__init__", "BadKind.__init__", defArgs (inClass (top 12) 0), defBody (inClass (top 12) 0), defScope (inClass (top 12) 0), [], []⟩,
  ⟨("BadLevels", some "__init__"), "__init__", "BadLevels.__init__", defArgs (inClass (top 13) 0), defBody (inClass (top 13) 0), defScope (inClass (top 13) 0), [], []⟩,
  ⟨("BadLosses", some "__init__"), "__init__", "BadLosses.__init__", defArgs (inClass (top 14) 0), defBody (inClass (top 14) 0), defScope (inClass (top 14) 0), [], []⟩,
  ⟨("BadLot", some "__init__"), "__init__", "BadLot.__init__", defArgs (inClass (top 15) 0), defBody (inClass (top 15) 0), defScope (inClass (top 15) 0), [], []⟩,
  ⟨("BadLots", some "__init__"), "__init__", "BadLots.__init__", defArgs (inClass (top 16) 0), defBody (inClass (top 16) 0), defScope (inClass (top 16) 0), [], []⟩,
  ⟨("BadLow", some "__init__"), "__init__", "BadLow.__init__", defArgs (inClass (top 17) 0), defBody (inClass (top 17) 0), defScope (inClass (top 17) 0), [], []⟩,
  ⟨("BadMany", some "__init__"), "__init__", "BadMany.__init__", defArgs (inClass (top 18) 0), defBody (inClass (top 18) 0), defScope (inClass (top 18) 0), [], []⟩,
  ⟨("BadMost", some "__init__"), "__init__", "BadMost.__init__", defArgs (inClass (top 19) 0), defBody (inClass (top 19) 0), defScope (inClass (top 19) 0), [], []⟩,
  ⟨("BadName", some "__init__"), "__init__", "BadName.__init__", defArgs (inClass (top 20) 0), defBody (inClass (top 20) 0), defScope (inClass (top 20) 0), [], []⟩,
  ⟨("BadNest", some "__init__"), "__init__", "BadNest.__init__", defArgs (inClass (top 21) 0), defBody (inClass (top 21) 0), defScope (inClass (top 21) 0), [], []⟩,
  ⟨("BadNumber", some "__init__"), "__init__", "BadNumber.__init__", defArgs (inClass (top 22) 0), defBody (inClass (top 22) 0), defScope (inClass (top 22) 0), [], []⟩,
  ⟨("BadOrder", some "__init__"), "__init__", "BadOrder.__init__", defArgs (inClass (top 23) 0), defBody (inClass (top 23) 0), defScope (inClass (top 23) 0), [], []⟩,
  ⟨("BadOther", some "__init__"), "__init__", "BadOther.__init__", defArgs (inClass (top 24) 0), defBody (inClass (top 24) 0), defScope (inClass (top 24) 0), [], []⟩,
  ⟨("BadParting", some "__init__"), "__init__", "BadParting.__init__", defArgs (inClass (top 25) 0), defBody (inClass (top 25) 0), defScope (inClass (top 25) 0), [], []⟩,
  ⟨("BadPicture", some "__init__"), "__init__", "BadPicture.__init__", defArgs (inClass (top 26) 0), defBody (inClass (top 26) 0), defScope (inClass (top 26) 0), [], []⟩,
  ⟨("BadPlaces", some "__init__"), "__init__", "BadPlaces.__init__", defArgs (inClass (top 27) 0), defBody (inClass (top 27) 0), defScope (inClass (top 27) 0), [], []⟩,
  ⟨("BadPrice", some "__init__"), "__init__", "BadPrice.__init__", defArgs (inClass (top 28) 0), defBody (inClass (top 28) 0), defScope (inClass (top 28) 0), [], []⟩,
  ⟨("BadPriced", some "__init__"), "__init__", "BadPriced.__init__", defArgs (inClass (top 29) 0), defBody (inClass (top 29) 0), defScope (inClass (top 29) 0), [], []⟩,
  ⟨("BadPulls", some "__init__"), "__init__", "BadPulls.__init__", defArgs (inClass (top 30) 0), defBody (inClass (top 30) 0), defScope (inClass (top 30) 0), [], []⟩,
  ⟨("BadQuestion", some "__init__"), "__init__", "BadQuestion.__init__", defArgs (inClass (top 31) 0), defBody (inClass (top 31) 0), defScope (inClass (top 31) 0), [], []⟩,
  ⟨("BadRoots", some "__init__"), "__init__", "BadRoots.__init__", defArgs (inClass (top 32) 0), defBody (inClass (top 32) 0), defScope (inClass (top 32) 0), [], []⟩,
  ⟨("BadRows", some "__init__"), "__init__", "BadRows.__init__", defArgs (inClass (top 33) 0), defBody (inClass (top 33) 0), defScope (inClass (top 33) 0), [], []⟩,
  ⟨("BadSession", some "__init__"), "__init__", "BadSession.__init__", defArgs (inClass (top 34) 0), defBody (inClass (top 34) 0), defScope (inClass (top 34) 0), [], []⟩,
  ⟨("BadSharing", some "__init__"), "__init__", "BadSharing.__init__", defArgs (inClass (top 35) 0), defBody (inClass (top 35) 0), defScope (inClass (top 35) 0), [], []⟩,
  ⟨("BadSome", some "__init__"), "__init__", "BadSome.__init__", defArgs (inClass (top 36) 0), defBody (inClass (top 36) 0), defScope (inClass (top 36) 0), [], []⟩,
  ⟨("BadSorter", some "__init__"), "__init__", "BadSorter.__init__", defArgs (inClass (top 37) 0), defBody (inClass (top 37) 0), defScope (inClass (top 37) 0), [], []⟩,
  ⟨("BadSplit", some "__init__"), "__init__", "BadSplit.__init__", defArgs (inClass (top 38) 0), defBody (inClass (top 38) 0), defScope (inClass (top 38) 0), [], []⟩,
  ⟨("BadTable", some "__init__"), "__init__", "BadTable.__init__", defArgs (inClass (top 39) 0), defBody (inClass (top 39) 0), defScope (inClass (top 39) 0), [], []⟩,
  ⟨("BadText", some "__init__"), "__init__", "BadText.__init__", defArgs (inClass (top 40) 0), defBody (inClass (top 40) 0), defScope (inClass (top 40) 0), [], []⟩,
  ⟨("BadTies", some "__init__"), "__init__", "BadTies.__init__", defArgs (inClass (top 41) 0), defBody (inClass (top 41) 0), defScope (inClass (top 41) 0), [], []⟩,
  ⟨("BadTold", some "__init__"), "__init__", "BadTold.__init__", defArgs (inClass (top 42) 0), defBody (inClass (top 42) 0), defScope (inClass (top 42) 0), [], []⟩,
  ⟨("BadTree", some "__init__"), "__init__", "BadTree.__init__", defArgs (inClass (top 43) 0), defBody (inClass (top 43) 0), defScope (inClass (top 43) 0), [], []⟩,
  ⟨("BadTriple", some "__init__"), "__init__", "BadTriple.__init__", defArgs (inClass (top 44) 0), defBody (inClass (top 44) 0), defScope (inClass (top 44) 0), [], []⟩,
  ⟨("BadTriples", some "__init__"), "__init__", "BadTriples.__init__", defArgs (inClass (top 45) 0), defBody (inClass (top 45) 0), defScope (inClass (top 45) 0), [], []⟩,
  ⟨("BadTwice", some "__init__"), "__init__", "BadTwice.__init__", defArgs (inClass (top 46) 0), defBody (inClass (top 46) 0), defScope (inClass (top 46) 0), [], []⟩,
  ⟨("BadWeb", some "__init__"), "__init__", "BadWeb.__init__", defArgs (inClass (top 47) 0), defBody (inClass (top 47) 0), defScope (inClass (top 47) 0), [], []⟩,
  ⟨("Crossing", some "__init__"), "__init__", "Crossing.__init__", defArgs (inClass (top 48) 0), defBody (inClass (top 48) 0), defScope (inClass (top 48) 0), [], []⟩,
  ⟨("InUse", some "__init__"), "__init__", "InUse.__init__", defArgs (inClass (top 49) 0), defBody (inClass (top 49) 0), defScope (inClass (top 49) 0), [], []⟩,
  ⟨("IsThere", some "__init__"), "__init__", "IsThere.__init__", defArgs (inClass (top 50) 0), defBody (inClass (top 50) 0), defScope (inClass (top 50) 0), [], []⟩,
  ⟨("IsWatched", some "__init__"), "__init__", "IsWatched.__init__", defArgs (inClass (top 51) 0), defBody (inClass (top 51) 0), defScope (inClass (top 51) 0), [], []⟩,
  ⟨("NoCount", some "__init__"), "__init__", "NoCount.__init__", defArgs (inClass (top 52) 0), defBody (inClass (top 52) 0), defScope (inClass (top 52) 0), [], []⟩,
  ⟨("NoLot", some "__init__"), "__init__", "NoLot.__init__", defArgs (inClass (top 54) 0), defBody (inClass (top 54) 0), defScope (inClass (top 54) 0), [], []⟩,
  ⟨("NoParts", some "__init__"), "__init__", "NoParts.__init__", defArgs (inClass (top 55) 0), defBody (inClass (top 55) 0), defScope (inClass (top 55) 0), [], []⟩,
  ⟨("NoPlace", some "__init__"), "__init__", "NoPlace.__init__", defArgs (inClass (top 56) 0), defBody (inClass (top 56) 0), defScope (inClass (top 56) 0), [], []⟩,
  ⟨("NoRoot", some "__init__"), "__init__", "NoRoot.__init__", defArgs (inClass (top 57) 0), defBody (inClass (top 57) 0), defScope (inClass (top 57) 0), [], []⟩,
  ⟨("NoTie", some "__init__"), "__init__", "NoTie.__init__", defArgs (inClass (top 58) 0), defBody (inClass (top 58) 0), defScope (inClass (top 58) 0), [], []⟩,
  ⟨("NotNow", some "__init__"), "__init__", "NotNow.__init__", defArgs (inClass (top 60) 0), defBody (inClass (top 60) 0), defScope (inClass (top 60) 0), [], []⟩,
  ⟨("NotThere", some "__init__"), "__init__", "NotThere.__init__", defArgs (inClass (top 61) 0), defBody (inClass (top 61) 0), defScope (inClass (top 61) 0), [], []⟩,
  ⟨("NotWatched", some "__init__"), "__init__", "NotWatched.__init__", defArgs (inClass (top 62) 0), defBody (inClass (top 62) 0), defScope (inClass (top 62) 0), [], []⟩,
  ⟨("SamePlace", some "__init__"), "__init__", "SamePlace.__init__", defArgs (inClass (top 64) 0), defBody (inClass (top 64) 0), defScope (inClass (top 64) 0), [], []⟩,
  ⟨("SavesNothing", some "__init__"), "__init__", "SavesNothing.__init__", defArgs (inClass (top 65) 0), defBody (inClass (top 65) 0), defScope (inClass (top 65) 0), [], []⟩,
  ⟨("WouldChange", some "__init__"), "__init__", "WouldChange.__init__", defArgs (inClass (top 66) 0), defBody (inClass (top 66) 0), defScope (inClass (top 66) 0), [], []⟩,
  ⟨("_law_start", none), "_law_start", "_law_start", defArgs (top 68), defBody (top 68), defScope (top 68), [], []⟩,
  ⟨("_law_draw", none), "_law_draw", "_law_draw", defArgs (top 69), defBody (top 69), defScope (top 69), [], []⟩,
  ⟨("_law_mixed", none), "_law_mixed", "_law_mixed", defArgs (top 70), defBody (top 70), defScope (top 70), [], []⟩,
  ⟨("_law_made_a", none), "_law_made_a", "_law_made_a", defArgs (top 71), defBody (top 71), defScope (top 71), [], []⟩,
  ⟨("_law_made_b", none), "_law_made_b", "_law_made_b", defArgs (top 72), defBody (top 72), defScope (top 72), [], []⟩,
  ⟨("_law_made_c", none), "_law_made_c", "_law_made_c", defArgs (top 73), defBody (top 73), defScope (top 73), [], []⟩,
  ⟨("_law_made_d", none), "_law_made_d", "_law_made_d", defArgs (top 74), defBody (top 74), defScope (top 74), [], []⟩,
  ⟨("_law_kinds_a", none), "_law_kinds_a", "_law_kinds_a", defArgs (top 75), defBody (top 75), defScope (top 75), [], []⟩,
  ⟨("_law_kinds_b", none), "_law_kinds_b", "_law_kinds_b", defArgs (top 76), defBody (top 76), defScope (top 76), [], []⟩,
  ⟨("_law_kinds_c", none), "_law_kinds_c", "_law_kinds_c", defArgs (top 77), defBody (top 77), defScope (top 77), [], []⟩,
  ⟨("_law_kinds_d", none), "_law_kinds_d", "_law_kinds_d", defArgs (top 78), defBody (top 78), defScope (top 78), [], []⟩,
  ⟨("_law_kinds", none), "_law_kinds", "_law_kinds", defArgs (top 79), defBody (top 79), defScope (top 79), [], []⟩,
  ⟨("_law_is_own", none), "_law_is_own", "_law_is_own", defArgs (top 80), defBody (top 80), defScope (top 80), [], []⟩,
  ⟨("_law_same", none), "_law_same", "_law_same", defArgs (top 81), defBody (top 81), defScope (top 81), [], []⟩,
  ⟨("_law_are_these", none), "_law_are_these", "_law_are_these", defArgs (top 82), defBody (top 82), defScope (top 82), [], []⟩,
  ⟨("law", none), "law", "law", defArgs (top 83), defBody (top 83), defScope (top 83), [], []⟩]
def fa : List He.Fa := [.glo "NestError", .glo "BadDeed", .glo "BadForest", .glo "BadForm", .glo "BadFrame", .glo "BadFrames", .glo "BadGauge", .glo "BadGrove", .glo "BadHeight", .glo "BadHigh", .glo "BadHollow", .glo "BadKind", .glo "BadLevels", .glo "BadLosses", .glo "BadLot", .glo "BadLots", .glo "BadLow", .glo "BadMany", .glo "BadMost", .glo "BadName", .glo "BadNest", .glo "BadNumber", .glo "BadOrder", .glo "BadOther", .glo "BadParting", .glo "BadPicture", .glo "BadPlaces", .glo "BadPrice", .glo "BadPriced", .glo "BadPulls", .glo "BadQuestion", .glo "BadRoots", .glo "BadRows", .glo "BadSession", .glo "BadSharing", .glo "BadSome", .glo "BadSorter", .glo "BadSplit", .glo "BadTable", .glo "BadText", .glo "BadTies", .glo "BadTold", .glo "BadTree", .glo "BadTriple", .glo "BadTriples", .glo "BadTwice", .glo "BadWeb", .glo "Crossing", .glo "InUse", .glo "IsThere", .glo "IsWatched", .glo "NoCount", .glo "NoFrame", .glo "NoLot", .glo "NoParts", .glo "NoPlace", .glo "NoRoot", .glo "NoTie", .glo "NotFull", .glo "NotNow", .glo "NotThere", .glo "NotWatched", .glo "OtherPlaces", .glo "SamePlace", .glo "SavesNothing", .glo "WouldChange", .glo "_law_start", .glo "_law_draw", .glo "_law_mixed", .glo "_law_made_a", .glo "_law_made_b", .glo "_law_made_c", .glo "_law_made_d", .glo "_law_kinds_a", .glo "_law_kinds_b", .glo "_law_kinds_c", .glo "_law_kinds_d", .glo "_law_kinds", .glo "_law_is_own", .glo "_law_same", .glo "_law_are_these", .glo "law", .free "len", .free "isinstance", .free "all", .free "list", .free "tuple", .free "int", .free "str", .free "dict", .free "bool", .free "range", .free "enumerate", .free "zip", .free "ValueError", .free "LookupError", .free "ArithmeticError", .free "TypeError"]
def loose0 : List PySem.Str := ["NestError", "BadDeed", "BadForest", "BadForm", "BadFrame", "BadFrames", "BadGauge", "BadGrove", "BadHeight", "BadHigh", "BadHollow", "BadKind", "BadLevels", "BadLosses", "BadLot", "BadLots", "BadLow", "BadMany", "BadMost", "BadName", "BadNest", "BadNumber", "BadOrder", "BadOther", "BadParting", "BadPicture", "BadPlaces", "BadPrice", "BadPriced", "BadPulls"]
def loose1 : List PySem.Str := ["BadQuestion", "BadRoots", "BadRows", "BadSession", "BadSharing", "BadSome", "BadSorter", "BadSplit", "BadTable", "BadText", "BadTies", "BadTold", "BadTree", "BadTriple", "BadTriples", "BadTwice", "BadWeb", "Crossing", "InUse", "IsThere", "IsWatched", "NoCount", "NoFrame", "NoLot", "NoParts", "NoPlace", "NoRoot", "NoTie", "NotFull", "NotNow"]
def loose2 : List PySem.Str := ["NotThere", "NotWatched", "OtherPlaces", "SamePlace", "SavesNothing", "WouldChange", "_law_start", "_law_draw", "_law_mixed", "_law_made_a", "_law_made_b", "_law_made_c", "_law_made_d", "_law_kinds_a", "_law_kinds_b", "_law_kinds_c", "_law_kinds_d", "_law_kinds", "_law_is_own", "_law_same", "_law_are_these"]
def loose : List PySem.Str := loose0 ++ loose1 ++ loose2
def tf : List He.Defn := [("_law_made_c", none), ("_law_made_d", none), ("_law_made_a", none), ("_law_made_b", none)]
def fnB (K : PySem.W.Frag) (gl : List Str) : Bool := gl.all fun x => match K.lookup (ga K x) with
  | some ⟨.type c, _, _, _⟩ => decide (c = "function")
  | _ => false
/-- unlike defs have unlike tables -/
def lamB (K : PySem.W.Frag) (l : List He.Defn) : Bool := l.all fun n => l.all fun m => decide (n = m) || decide ((He.cT K n).2 ≠ (He.cT K m).2)
def ex1 (K : PySem.W.Frag) : Bool := fnB K glf && (lamB K tf && (eiB K erl "NestError" && (erl.all (fun C => decide (PySem.W.findIn K (.ref (ga K C)) "fault" = some none)) && (erl.all (fun C => decide (PySem.W.findIn K (.ref (ga K C)) "index" = some none)) && (erl.all (fun C => decide (PySem.W.findIn K (.ref (ga K C)) "line" = some none)) && (erl.all (fun C => decide (PySem.W.findIn K (.ref (ga K C)) "lot" = some none)) && (erl.all (fun C => decide (PySem.W.findIn K (.ref (ga K C)) "one" = some none)))))))))
def ex2 (K : PySem.W.Frag) : Bool := erl.all (fun C => decide (PySem.W.findIn K (.ref (ga K C)) "other" = some none)) && (erl.all (fun C => decide (PySem.W.findIn K (.ref (ga K C)) "place" = some none)) && (erl.all (fun C => decide (PySem.W.findIn K (.ref (ga K C)) "question" = some none)) && (erl.all (fun C => decide (PySem.W.findIn K (.ref (ga K C)) "sign" = some none)) && (erl.all (fun C => decide (PySem.W.findIn K (.ref (ga K C)) "thing" = some none)) && (erl.all (fun C => decide (PySem.W.findIn K (.ref (ga K C)) "why" = some none)))))))
def ex3 (K : PySem.W.Frag) : Bool := ezB K "BadDeed" ["thing"] && (ezB K "BadForest" ["thing"] && (ezB K "BadForm" ["thing"] && (ezB K "BadFrame" ["thing"] && (ezB K "BadFrames" ["index"] && (ezB K "BadGauge" ["thing"] && (ezB K "BadGrove" ["thing"] && (ezB K "BadHeight" ["thing"] && (ezB K "BadHigh" ["thing"] && (ezB K "BadHollow" ["thing"] && (ezB K "BadKind" ["thing"]))))))))))
def ex4 (K : PySem.W.Frag) : Bool := ezB K "BadLevels" ["thing"] && (ezB K "BadLosses" ["fault"] && (ezB K "BadLot" ["index"] && (ezB K "BadLots" ["index"] && (ezB K "BadLow" ["thing"] && (ezB K "BadMany" ["thing"] && (ezB K "BadMost" ["thing"] && (ezB K "BadName" ["thing"] && (ezB K "BadNest" ["thing"] && (ezB K "BadNumber" ["thing"] && (ezB K "BadOrder" ["index"]))))))))))
def ex5 (K : PySem.W.Frag) : Bool := ezB K "BadOther" ["thing"] && (ezB K "BadParting" ["thing"] && (ezB K "BadPicture" ["thing"] && (ezB K "BadPlaces" ["index"] && (ezB K "BadPrice" ["thing"] && (ezB K "BadPriced" ["thing"] && (ezB K "BadPulls" ["thing"] && (ezB K "BadQuestion" ["thing"] && (ezB K "BadRoots" ["index"] && (ezB K "BadRows" ["index"] && (ezB K "BadSession" ["thing"]))))))))))
def ex6 (K : PySem.W.Frag) : Bool := ezB K "BadSharing" ["thing"] && (ezB K "BadSome" ["index"] && (ezB K "BadSorter" ["thing"] && (ezB K "BadSplit" ["thing"] && (ezB K "BadTable" ["thing"] && (ezB K "BadText" ["line", "sign"] && (ezB K "BadTies" ["index"] && (ezB K "BadTold" ["index"] && (ezB K "BadTree" ["thing"] && (ezB K "BadTriple" ["thing"] && (ezB K "BadTriples" ["index"]))))))))))
def ex7 (K : PySem.W.Frag) : Bool := ezB K "BadTwice" ["thing"] && (ezB K "BadWeb" ["thing"] && (ezB K "Crossing" ["lot", "other"] && (ezB K "InUse" ["question"] && (ezB K "IsThere" ["lot"] && (ezB K "IsWatched" ["question"] && (ez0B K "NestError" && (ezB K "NoCount" ["thing"] && (ez0B K "NoFrame" && (ezB K "NoLot" ["thing"] && (ezB K "NoParts" ["lot"]))))))))))
def ex8 (K : PySem.W.Frag) : Bool := ezB K "NoPlace" ["thing"] && (ezB K "NoRoot" ["place"] && (ezB K "NoTie" ["one", "other"] && (ez0B K "NotFull" && (ezB K "NotNow" ["why"] && (ezB K "NotThere" ["lot"] && (ezB K "NotWatched" ["question"] && (ez0B K "OtherPlaces" && (ezB K "SamePlace" ["thing"] && (ezB K "SavesNothing" ["lot"] && (ezB K "WouldChange" ["question", "why"]))))))))))
def ex (K : PySem.W.Frag) : Bool := ex1 K && (ex2 K && (ex3 K && (ex4 K && (ex5 K && (ex6 K && (ex7 K && (ex8 K)))))))
abbrev R : PySem.W.OpenRow := PySem.W.OpenLaw.row PySem.Challenge.rw_nestprices_k00_errors_made
abbrev hk : PySem.W.Hook := HookY.hookY fa fn tf ex
def ob (s : PySem.W.SharedT) : He.AlX := HookY.obsY fa fn tf ex (HandSHeadRun.getT s)
/-- eiB, the outer classes alone -/
def eiP (K : PySem.W.Frag) (l er : List Str) (root : Str) : Bool := l.all fun C => exC1B K (ga K C) && (xfB K (ga K C) && (er.all (fun C' => decide (PySem.W.kitOne K (.ref (ga K C)) (.ref (ga K C')) = some (decide (C = C') || decide (C' = root)))) &&
  (decide (PySem.W.kitOne K (.ref (ga K C)) (.type "ValueError") = some true) && ["LookupError", "ArithmeticError", "TypeError"].all fun n => decide (PySem.W.kitOne K (.ref (ga K C)) (.type n) = some false))))
theorem eiP_cut {K : PySem.W.Frag} {er : List Str} {root : Str} (n : Nat) (h1 : eiP K (er.take n) er root = true) (h2 : eiP K (er.drop n) er root = true) : eiB K er root = true := by
  have h3 : eiP K (er.take n ++ er.drop n) er root = true := by
    unfold eiP at h1 h2 ⊢
    rw [List.all_append, h1, h2]
    rfl
  rw [List.take_append_drop] at h3
  exact h3
def exF (K : PySem.W.Frag) : Bool := erl.all (fun C => decide (PySem.W.findIn K (.ref (ga K C)) "fault" = some none)) && (erl.all (fun C => decide (PySem.W.findIn K (.ref (ga K C)) "index" = some none)) && (erl.all (fun C => decide (PySem.W.findIn K (.ref (ga K C)) "line" = some none)) && (erl.all (fun C => decide (PySem.W.findIn K (.ref (ga K C)) "lot" = some none)) && (erl.all (fun C => decide (PySem.W.findIn K (.ref (ga K C)) "one" = some none))))))
theorem ex1_of {K : PySem.W.Frag} (h1 : (fnB K glf && lamB K tf) = true) (h2 : eiB K erl "NestError" = true) (h3 : exF K = true) : ex1 K = true := by
  unfold ex1
  rw [Bool.and_eq_true] at h1
  rw [h1.1, h1.2, h2]
  exact h3
theorem map_and {α : Type} {o : Option α} {f g : α → Bool} (h : o.map (fun s => f s && g s) = some true) : o.map f = some true ∧ o.map g = some true := by
  cases o with
  | none => cases h
  | some s =>
    simp only [Option.map_some, Option.some.injEq, Bool.and_eq_true] at h ⊢
    exact h
theorem map_x1 {o : Option PySem.W.SharedT} {t : PySem.W.SharedT → Bool} {k : PySem.W.SharedT → PySem.W.Frag} (n : Nat) (h1 : o.map (fun s => (fnB (k s) glf && lamB (k s) tf) && t s) = some true) (h2 : o.map (fun s => eiP (k s) (erl.take n) erl "NestError") = some true) (h3 : o.map (fun s => eiP (k s) (erl.drop n) erl "NestError") = some true) (h4 : o.map (fun s => exF (k s)) = some true) :
    o.map (fun s => ex1 (k s) && t s) = some true := by
  cases o with
  | none => cases h1
  | some s =>
    simp only [Option.map_some, Option.some.injEq] at h1 h2 h3 h4 ⊢
    rw [Bool.and_eq_true] at h1
    rw [ex1_of h1.1 (eiP_cut n h2 h3) h4, h1.2]
    rfl
theorem run_xb (w : World) (os : PySem.OsState) : ((HandSHeadRun.endF (HandSHeadRun.stepQ (HandSHeadRun.denQ HandSHeadRun.tabQ) R.prog w) 30000 R.prog w os).map (fun s => eiP (He.frT (HandSHeadRun.getT s) (HookY.asL (HandSHeadRun.getT s))) (erl.take 33) erl "NestError")) = some (true) := by
  kernel_rfl
theorem run_xc (w : World) (os : PySem.OsState) : ((HandSHeadRun.endF (HandSHeadRun.stepQ (HandSHeadRun.denQ HandSHeadRun.tabQ) R.prog w) 30000 R.prog w os).map (fun s => eiP (He.frT (HandSHeadRun.getT s) (HookY.asL (HandSHeadRun.getT s))) (erl.drop 33) erl "NestError")) = some (true) := by
  kernel_rfl
theorem run_x2 (w : World) (os : PySem.OsState) : ((HandSHeadRun.endF (HandSHeadRun.stepQ (HandSHeadRun.denQ HandSHeadRun.tabQ) R.prog w) 30000 R.prog w os).map (fun s => ex2 (He.frT (HandSHeadRun.getT s) (HookY.asL (HandSHeadRun.getT s))))) = some (true) := by
  kernel_rfl
theorem run_xd (w : World) (os : PySem.OsState) : ((HandSHeadRun.endF (HandSHeadRun.stepQ (HandSHeadRun.denQ HandSHeadRun.tabQ) R.prog w) 30000 R.prog w os).map (fun s => exF (He.frT (HandSHeadRun.getT s) (HookY.asL (HandSHeadRun.getT s))))) = some (true) := by
  kernel_rfl
theorem run_xa (w : World) (os : PySem.OsState) : ((HandSHeadRun.endF (HandSHeadRun.stepQ (HandSHeadRun.denQ HandSHeadRun.tabQ) R.prog w) 30000 R.prog w os).map (fun s => (fnB (He.frT (HandSHeadRun.getT s) (HookY.asL (HandSHeadRun.getT s))) glf && lamB (He.frT (HandSHeadRun.getT s) (HookY.asL (HandSHeadRun.getT s))) tf) && He.tabsB (HandSHeadRun.getT s) tf (He.frT (HandSHeadRun.getT s) (HookY.asL (HandSHeadRun.getT s))))) = some (true) := by
  kernel_rfl
theorem run_f1 (w : World) (os : PySem.OsState) : ((HandSHeadRun.endF (HandSHeadRun.stepQ (HandSHeadRun.denQ HandSHeadRun.tabQ) R.prog w) 30000 R.prog w os).map (fun s => ((fn.take 21).all fun d => d.ok (He.frT (HandSHeadRun.getT s) (HookY.asL (HandSHeadRun.getT s)))))) = some (true) := by
  kernel_rfl
theorem run_f2 (w : World) (os : PySem.OsState) : ((HandSHeadRun.endF (HandSHeadRun.stepQ (HandSHeadRun.denQ HandSHeadRun.tabQ) R.prog w) 30000 R.prog w os).map (fun s => (((fn.drop 21).take 21).all fun d => d.ok (He.frT (HandSHeadRun.getT s) (HookY.asL (HandSHeadRun.getT s)))))) = some (true) := by
  kernel_rfl
theorem run_f3 (w : World) (os : PySem.OsState) : ((HandSHeadRun.endF (HandSHeadRun.stepQ (HandSHeadRun.denQ HandSHeadRun.tabQ) R.prog w) 30000 R.prog w os).map (fun s => ((((fn.drop 21).drop 21).take 21).all fun d => d.ok (He.frT (HandSHeadRun.getT s) (HookY.asL (HandSHeadRun.getT s)))))) = some (true) := by
  kernel_rfl
theorem run_f4 (w : World) (os : PySem.OsState) : ((HandSHeadRun.endF (HandSHeadRun.stepQ (HandSHeadRun.denQ HandSHeadRun.tabQ) R.prog w) 30000 R.prog w os).map (fun s => ((((fn.drop 21).drop 21).drop 21).all fun d => d.ok (He.frT (HandSHeadRun.getT s) (HookY.asL (HandSHeadRun.getT s)))))) = some (true) := by
  kernel_rfl
theorem run_xe (w : World) (os : PySem.OsState) : ((HandSHeadRun.endF (HandSHeadRun.stepQ (HandSHeadRun.denQ HandSHeadRun.tabQ) R.prog w) 30000 R.prog w os).map (fun s => ex3 (He.frT (HandSHeadRun.getT s) (HookY.asL (HandSHeadRun.getT s))) && (ex4 (He.frT (HandSHeadRun.getT s) (HookY.asL (HandSHeadRun.getT s))) && ex5 (He.frT (HandSHeadRun.getT s) (HookY.asL (HandSHeadRun.getT s)))))) = some (true) := by
  kernel_rfl
theorem run_x3 (w : World) (os : PySem.OsState) : ((HandSHeadRun.endF (HandSHeadRun.stepQ (HandSHeadRun.denQ HandSHeadRun.tabQ) R.prog w) 30000 R.prog w os).map (fun s => ex3 (He.frT (HandSHeadRun.getT s) (HookY.asL (HandSHeadRun.getT s))))) = some (true) := (map_and (run_xe w os)).1
theorem run_x4 (w : World) (os : PySem.OsState) : ((HandSHeadRun.endF (HandSHeadRun.stepQ (HandSHeadRun.denQ HandSHeadRun.tabQ) R.prog w) 30000 R.prog w os).map (fun s => ex4 (He.frT (HandSHeadRun.getT s) (HookY.asL (HandSHeadRun.getT s))))) = some (true) := (map_and (map_and (run_xe w os)).2).1
theorem run_x5 (w : World) (os : PySem.OsState) : ((HandSHeadRun.endF (HandSHeadRun.stepQ (HandSHeadRun.denQ HandSHeadRun.tabQ) R.prog w) 30000 R.prog w os).map (fun s => ex5 (He.frT (HandSHeadRun.getT s) (HookY.asL (HandSHeadRun.getT s))))) = some (true) := (map_and (map_and (run_xe w os)).2).2
theorem run_xf (w : World) (os : PySem.OsState) : ((HandSHeadRun.endF (HandSHeadRun.stepQ (HandSHeadRun.denQ HandSHeadRun.tabQ) R.prog w) 30000 R.prog w os).map (fun s => ex6 (He.frT (HandSHeadRun.getT s) (HookY.asL (HandSHeadRun.getT s))) && (ex7 (He.frT (HandSHeadRun.getT s) (HookY.asL (HandSHeadRun.getT s))) && ex8 (He.frT (HandSHeadRun.getT s) (HookY.asL (HandSHeadRun.getT s)))))) = some (true) := by
  kernel_rfl
theorem run_x6 (w : World) (os : PySem.OsState) : ((HandSHeadRun.endF (HandSHeadRun.stepQ (HandSHeadRun.denQ HandSHeadRun.tabQ) R.prog w) 30000 R.prog w os).map (fun s => ex6 (He.frT (HandSHeadRun.getT s) (HookY.asL (HandSHeadRun.getT s))))) = some (true) := (map_and (run_xf w os)).1
theorem run_x7 (w : World) (os : PySem.OsState) : ((HandSHeadRun.endF (HandSHeadRun.stepQ (HandSHeadRun.denQ HandSHeadRun.tabQ) R.prog w) 30000 R.prog w os).map (fun s => ex7 (He.frT (HandSHeadRun.getT s) (HookY.asL (HandSHeadRun.getT s))))) = some (true) := (map_and (map_and (run_xf w os)).2).1
theorem run_x8 (w : World) (os : PySem.OsState) : ((HandSHeadRun.endF (HandSHeadRun.stepQ (HandSHeadRun.denQ HandSHeadRun.tabQ) R.prog w) 30000 R.prog w os).map (fun s => ex8 (He.frT (HandSHeadRun.getT s) (HookY.asL (HandSHeadRun.getT s))))) = some (true) := (map_and (map_and (run_xf w os)).2).2
theorem run_fw (w : World) (os : PySem.OsState) : ((HandSHeadRun.endF (HandSHeadRun.stepQ (HandSHeadRun.denQ HandSHeadRun.tabQ) R.prog w) 30000 R.prog w os).map (fun s => (fn.map fun d => He.fnW (He.frT (HandSHeadRun.getT s) (HookY.asL (HandSHeadRun.getT s))) d.at_))) = some (fn.map He.DefD.val) := by
  kernel_rfl
theorem run_x1 (w : World) (os : PySem.OsState) : ((HandSHeadRun.endF (HandSHeadRun.stepQ (HandSHeadRun.denQ HandSHeadRun.tabQ) R.prog w) 30000 R.prog w os).map (fun s => ex1 (He.frT (HandSHeadRun.getT s) (HookY.asL (HandSHeadRun.getT s))) && He.tabsB (HandSHeadRun.getT s) tf (He.frT (HandSHeadRun.getT s) (HookY.asL (HandSHeadRun.getT s))))) = some (true) := map_x1 (k := fun s => (He.frT (HandSHeadRun.getT s) (HookY.asL (HandSHeadRun.getT s)))) 33 (run_xa w os) (run_xb w os) (run_xc w os) (run_xd w os)
theorem run_fa (w : World) (os : PySem.OsState) : ((HandSHeadRun.endF (HandSHeadRun.stepQ (HandSHeadRun.denQ HandSHeadRun.tabQ) R.prog w) 30000 R.prog w os).map (fun s => (fa.all fun f => f.ok (He.frT (HandSHeadRun.getT s) (HookY.asL (HandSHeadRun.getT s)))))) = some (true) := by
  kernel_rfl
theorem run_c1 (w : World) (os : PySem.OsState) : ((HandSHeadRun.endF (HandSHeadRun.stepQ (HandSHeadRun.denQ HandSHeadRun.tabQ) R.prog w) 30000 R.prog w os).map (fun s => HandSHeadRun.looksF R.prog (boot_heap w.params) s.abs)) = some (true) := by
  kernel_rfl
theorem run_c2 (w : World) (os : PySem.OsState) : ((HandSHeadRun.endF (HandSHeadRun.stepQ (HandSHeadRun.denQ HandSHeadRun.tabQ) R.prog w) 30000 R.prog w os).map (fun s => HandSHeadRun.seenQ (PySem.W.view R.prog [83]) loose (importedModules R.prog.main.body) (fun s => xlAt (PySem.W.view R.prog [83]) [] s && recOk R.toRowW.records s) s.abs)) = some (openGood (PySem.W.view R.prog [83]) loose) := by
  kernel_rfl
theorem join {ε : Type} {o : Option PySem.W.SharedT} {f1 : PySem.W.SharedT → Bool} {f2 : PySem.W.SharedT → ε} {v2 : ε} {fa : List He.Fa} {fn : List He.DefD} {tf : List He.Defn} {e1 e2 e3 e4 e5 e6 e7 e8 : PySem.W.Frag → Bool} {w : World} (n : Nat)
    (hc1 : o.map f1 = some true) (hc2 : o.map f2 = some v2) (hfa : o.map (fun s => fa.all fun f => f.ok (He.frT (HandSHeadRun.getT s) (HookY.asL (HandSHeadRun.getT s)))) = some true)
    (hf1 : o.map (fun s => (fn.take n).all fun d => d.ok (He.frT (HandSHeadRun.getT s) (HookY.asL (HandSHeadRun.getT s)))) = some true)
    (hf2 : o.map (fun s => ((fn.drop n).take n).all fun d => d.ok (He.frT (HandSHeadRun.getT s) (HookY.asL (HandSHeadRun.getT s)))) = some true)
    (hf3 : o.map (fun s => (((fn.drop n).drop n).take n).all fun d => d.ok (He.frT (HandSHeadRun.getT s) (HookY.asL (HandSHeadRun.getT s)))) = some true)
    (hf4 : o.map (fun s => (((fn.drop n).drop n).drop n).all fun d => d.ok (He.frT (HandSHeadRun.getT s) (HookY.asL (HandSHeadRun.getT s)))) = some true)
    (hfw : o.map (fun s => fn.map fun d => He.fnW (He.frT (HandSHeadRun.getT s) (HookY.asL (HandSHeadRun.getT s))) d.at_) = some (fn.map He.DefD.val))
    (h1 : o.map (fun s => e1 (He.frT (HandSHeadRun.getT s) (HookY.asL (HandSHeadRun.getT s))) && He.tabsB (HandSHeadRun.getT s) tf (He.frT (HandSHeadRun.getT s) (HookY.asL (HandSHeadRun.getT s)))) = some true)
    (h2 : o.map (fun s => e2 (He.frT (HandSHeadRun.getT s) (HookY.asL (HandSHeadRun.getT s)))) = some true) (h3 : o.map (fun s => e3 (He.frT (HandSHeadRun.getT s) (HookY.asL (HandSHeadRun.getT s)))) = some true) (h4 : o.map (fun s => e4 (He.frT (HandSHeadRun.getT s) (HookY.asL (HandSHeadRun.getT s)))) = some true) (h5 : o.map (fun s => e5 (He.frT (HandSHeadRun.getT s) (HookY.asL (HandSHeadRun.getT s)))) = some true) (h6 : o.map (fun s => e6 (He.frT (HandSHeadRun.getT s) (HookY.asL (HandSHeadRun.getT s)))) = some true) (h7 : o.map (fun s => e7 (He.frT (HandSHeadRun.getT s) (HookY.asL (HandSHeadRun.getT s)))) = some true) (h8 : o.map (fun s => e8 (He.frT (HandSHeadRun.getT s) (HookY.asL (HandSHeadRun.getT s)))) = some true) :
    o.map (fun s => (f1 s, f2 s, HookY.obsY fa fn tf (fun K => e1 K && (e2 K && (e3 K && (e4 K && (e5 K && (e6 K && (e7 K && (e8 K)))))))) (HandSHeadRun.getT s))) = some (true, v2, He.valX fn [] w) := by
  cases o with
  | none => cases hc1
  | some s =>
    simp only [Option.map_some, Option.some.injEq] at hc1 hc2 hfa hf1 hf2 hf3 hf4 hfw h1 h2 h3 h4 h5 h6 h7 h8 ⊢
    have hall : (fn.all fun d => d.ok (He.frT (HandSHeadRun.getT s) (HookY.asL (HandSHeadRun.getT s)))) = true := by
      rw [← List.take_append_drop n fn, List.all_append, hf1, ← List.take_append_drop n (fn.drop n), List.all_append, hf2, ← List.take_append_drop n ((fn.drop n).drop n), List.all_append, hf3, hf4]
      rfl
    rw [Bool.and_eq_true] at h1
    have : HookY.obsY fa fn tf (fun K => e1 K && (e2 K && (e3 K && (e4 K && (e5 K && (e6 K && (e7 K && (e8 K)))))))) (HandSHeadRun.getT s) = He.valX fn [] w := by
      unfold HookY.obsY He.obsT He.obsD He.valX He.valT He.valD
      simp only [hfa, hall, hfw, h1.1, h1.2, h2, h3, h4, h5, h6, h7, h8, Bool.and_self, List.map_nil]
    rw [this, hc1, hc2]
theorem run (w : World) : HandSHeadRun.RunEq R (PySem.W.view R.prog [83]) hk ob 30000 loose w := fun os =>
  join 21 (run_c1 w os) (run_c2 w os) (run_fa w os) (run_f1 w os) (run_f2 w os) (run_f3 w os) (run_f4 w os) (run_fw w os) (run_x1 w os) (run_x2 w os) (run_x3 w os) (run_x4 w os) (run_x5 w os) (run_x6 w os) (run_x7 w os) (run_x8 w os)
end K00
end
set_option Elab.async false
section
set_option linter.all false
set_option autoImplicit false
/-! IL: plain data with ownership flags, and what the constructs of a Python program do to it. No heap, no model of Python: Lean alone. -/
namespace IL
open PySem

mutual
/-- all of it owned -/
def D.hot : D → Bool
  | .lst m xs => m && hots xs
  | .tup xs => hots xs
  | .dct m _ _ vs => m && hots vs
  | .ins m _ _ vs => m && hots vs
  | .cel _ _ => false
  | .err _ _ vs => hots vs
  | .non => true | .bl _ => true | .int _ => true | .str _ => true | .ty _ => true | .glo _ => true | .scr _ => true | .lam _ _ => true
def hots : List D → Bool
  | [] => true
  | x :: xs => x.hot && hots xs
end
/-- no object of the heap stands behind it that could be shared -/
def D.atom : D → Bool
  | .non => true | .bl _ => true | .int _ => true | .str _ => true | .ty _ => true | .glo _ => true
  | _ => false

/-! ### places -/
/-! ### results -/
/-- then: the value as one of its own -/
def R.bind (r : R) (k : D → Bool → Ro → R) : R := match r.own with
  | .ok d _ st ρ => k d st ρ
  | .exc C fs st => .exc C fs st
  | .bad => .bad

/-! ### expressions -/
def eC (d : D) : Ex := fun ρ => .ok d none true ρ
def eVar (i : Nat) : Ex := fun ρ => match ρ[i]? with
  | some (some d) => .ok d (some (i, [])) true ρ
  | _ => .bad
/-- an expression's value frozen (a ghost's step) -/
def eFrz (e : Ex) : Ex := fun ρ => match (e ρ).own with
  | .ok d _ st ρ => .ok d.frz none st ρ
  | r => r
def eUn (f : D → Option D) (a : Ex) : Ex := fun ρ => match a ρ with
  | .ok x _ sx ρ1 => (match f x with
    | some z => if z.atom then .ok z none sx ρ1 else .bad
    | none => .bad)
  | .exc C fs st => .exc C fs st
  | .bad => .bad
def eIf (c : T) (a b : Ex) : Ex := fun ρ => match c ρ with
  | .ok q sc ρ1 => (match (if q then a ρ1 else b ρ1).own with
    | .ok d _ st ρ2 => .ok d none (sc && st) ρ2
    | .exc C fs st => .exc C fs (sc && st)
    | .bad => .bad)
  | .exc C fs st => .exc C fs st
  | .bad => .bad

/-! ### arguments: each one of its own -/
def aNil : A := fun ρ => .ok [] true ρ
def aCons (e : Ex) (r : A) : A := fun ρ => match (e ρ).own with
  | .ok d _ s1 ρ1 => (match r ρ1 with
    | .ok ds s2 ρ2 => .ok (d :: ds) (s1 && s2) ρ2
    | .exc C fs s2 => .exc C fs (s1 && s2)
    | .bad => .bad)
  | .exc C fs st => .exc C fs st
  | .bad => .bad
def eTup (a : A) : Ex := fun ρ => match a ρ with
  | .ok ds st ρ' => .ok (.tup ds) none st ρ'
  | .exc C fs st => .exc C fs st
  | .bad => .bad
def eLst (a : A) : Ex := fun ρ => match a ρ with
  | .ok ds st ρ' => .ok (.lst true ds) none st ρ'
  | .exc C fs st => .exc C fs st
  | .bad => .bad
end IL
namespace IL
open PySem
/-! ### tests -/
def D.truth : D → Option Bool
  | .non => some false
  | .bl b => some b
  | .int i => some (i != 0)
  | .str x => some (x.length != 0)
  | .lst _ xs => some (!xs.isEmpty)
  | .tup xs => some (!xs.isEmpty)
  | _ => none
def tV (e : Ex) : T := fun ρ => match e ρ with
  | .ok d _ st ρ' => (match d.truth with
    | some b => .ok b st ρ'
    | none => .bad)
  | .exc C fs st => .exc C fs st
  | .bad => .bad
/-- a truth's value as a test -/
def tB (e : Ex) : T := fun ρ => match e ρ with
  | .ok (.bl b) _ st ρ' => .ok b st ρ'
  | .exc C fs st => .exc C fs st
  | _ => .bad
def tNot (t : T) : T := fun ρ => match t ρ with
  | .ok b st ρ' => .ok (!b) st ρ'
  | r => r
def tAnd (t u : T) : T := fun ρ => match t ρ with
  | .ok true s1 ρ1 => (match u ρ1 with
    | .ok b s2 ρ2 => .ok b (s1 && s2) ρ2
    | .exc C fs s2 => .exc C fs (s1 && s2)
    | .bad => .bad)
  | r => r
def tOr (t u : T) : T := fun ρ => match t ρ with
  | .ok false s1 ρ1 => (match u ρ1 with
    | .ok b s2 ρ2 => .ok b (s1 && s2) ρ2
    | .exc C fs s2 => .exc C fs (s1 && s2)
    | .bad => .bad)
  | r => r
/-- a test's answer as a value -/
def eT (t : T) : Ex := fun ρ => match t ρ with
  | .ok b st ρ' => .ok (.bl b) none st ρ'
  | .exc C fs st => .exc C fs st
  | .bad => .bad

/-! ### statements -/
def sNx : S := fun ρ => .nx ρ
def sSeq (a b : S) : S := fun ρ => match a ρ with
  | .nx ρ' => b ρ'
  | r => r
def sExp (e : Ex) : S := fun ρ => match e ρ with
  | .ok _ _ _ ρ' => .nx ρ'
  | .exc C fs _ => .exc C fs
  | .bad => .bad
def sRet (e : Ex) : S := fun ρ => match (e ρ).own with
  | .ok d _ _ ρ' => .rt d ρ'
  | .exc C fs _ => .exc C fs
  | .bad => .bad
def sIf (t : T) (a b : S) : S := fun ρ => match t ρ with
  | .ok q _ ρ' => if q then a ρ' else b ρ'
  | .exc C fs _ => .exc C fs
  | .bad => .bad
def gSet (i : Nat) : G := fun d ρ => if i < ρ.length then some (ρ.set i (some d)) else none
def gAll : List G → List D → Ro → Option Ro
  | [], [], ρ => some ρ
  | g :: gs, d :: ds, ρ => (match g d ρ with
    | some ρ' => gAll gs ds ρ'
    | none => none)
  | _, _, _ => none
/-- a, b, .. = a tuple or a list (whose items are frozen, if it is not a tuple) -/
def gUnp (gs : List G) : G := fun d ρ => match d with
  | .tup ds => gAll gs ds ρ
  | .lst _ ds => gAll gs ds ρ
  | _ => none
def sAsg (g : G) (e : Ex) : S := fun ρ => match (e ρ).own with
  | .ok d _ _ ρ' => (match g d ρ' with
    | some ρ2 => .nx ρ2
    | none => .bad)
  | .exc C fs _ => .exc C fs
  | .bad => .bad

/-! ### loops -/
def forL (g : G) (b : S) : List D → Ro → SR
  | [], ρ => .nx ρ
  | d :: ds, ρ => match g d ρ with
    | none => .bad
    | some ρ1 => match b ρ1 with
      | .nx ρ2 => forL g b ds ρ2
      | .ct ρ2 => forL g b ds ρ2
      | .bk ρ2 => .nx ρ2
      | .rt d ρ2 => .rt d ρ2
      | .exc C fs => .exc C fs
      | .bad => .bad
def whileL (t : T) (b : S) : Nat → Ro → SR
  | 0, _ => .bad
  | n + 1, ρ => match t ρ with
    | .bad => .bad
    | .exc C fs _ => .exc C fs
    | .ok false _ ρ1 => .nx ρ1
    | .ok true _ ρ1 => match b ρ1 with
      | .nx ρ2 => whileL t b n ρ2
      | .ct ρ2 => whileL t b n ρ2
      | .bk ρ2 => .nx ρ2
      | .rt d ρ2 => .rt d ρ2
      | .exc C fs => .exc C fs
      | .bad => .bad
def sWhile (n : Nat) (t : T) (b : S) : S := fun ρ => whileL t b n ρ

/-! ### defs -/
/-- a pure def: n slots beyond its parameters; its arguments are frozen -/
def fnP (n : Nat) (b : S) : Fp := fun ds => match b (ds.map some ++ List.replicate n none) with
  | .nx _ => .ret .non
  | .rt d _ => .ret d
  | .exc C fs => .exc C fs
  | _ => .bad
/-- a def that changes its first argument, which it never binds anew; the others are frozen -/
def fnM (n : Nat) (b : S) : Fm := fun io ds => match b (some io :: (ds.map some ++ List.replicate n none)) with
    | .nx ρ => (match ρ with
      | some io' :: _ => .ret .non io'
      | _ => .bad)
    | .rt d ρ => (match ρ with
      | some io' :: _ => .ret d io'
      | _ => .bad)
    | .exc C fs => .exc C fs
    | _ => .bad
/-! ### calls -/
def pNil : Pe := fun ρ => .ok [] [] true ρ
def pCons (e : Ex) (r : Pe) : Pe := fun ρ => match e ρ with
  | .ok d l s1 ρ1 => (match r ρ1 with
    | .ok ds is s2 ρ2 => (match l with
      | none => .ok (d :: ds) is (s1 && s2) ρ2
      | some l => if d.fz then .ok (d :: ds) is (s1 && s2) ρ2 else if s2 || l.2.isEmpty then (match ρ2.get l with
        | some d2 => .ok (d2 :: ds) (l.1 :: is) (s1 && s2) ρ2
        | none => .bad) else .bad)
    | .exc C fs s2 => .exc C fs (s1 && s2)
    | .bad => .bad)
  | .exc C fs st => .exc C fs st
  | .bad => .bad
/-- some slots frozen -/
def frzI (c : Nat → Bool) : Ro → Ro
  | [] => []
  | o :: ρ => (if c 0 then o.map D.frz else o) :: frzI (fun i => c (i + 1)) ρ
/-- a call of a pure def, an operation: its arguments are frozen; for good, if what it hands back may hold some of it -/
def eCallP (f : Fp) (p : Pe) : Ex := fun ρ => match p ρ with
  | .ok ds is st ρ' => (match f (frzs ds) with
    | .ret d => if d.hot || is.isEmpty then .ok d none st ρ' else .ok d none false (frzI (fun i => is.contains i) ρ')
    | .exc C fs => .exc C fs (st && is.isEmpty)
    | .bad => .bad)
  | .exc C fs st => .exc C fs st
  | .bad => .bad
/-- a call of a def that changes its first argument; what stands there is a thing of its own, or a place -/
def eCallM (f : Fm) (o : Ex) (p : Pe) : Ex := fun ρ => match o ρ with
  | .ok x lx _ ρ1 => (match p ρ1 with
    | .ok ds is s2 ρ2 => if is.isEmpty then (match lx with
      | none => (match f x (frzs ds) with
        | .ret d _ => .ok d none false ρ2
        | .exc C fs => .exc C fs false
        | .bad => .bad)
      | some l => if s2 || l.2.isEmpty then (match ρ2.get l with
        | some x2 => (match f x2 (frzs ds) with
          | .ret d io => if io.fz || !x2.fz then .ok d none false (ρ2.put l io) else .bad
          | .exc C fs => .exc C fs false
          | .bad => .bad)
        | none => .bad) else .bad) else .bad
    | .exc C fs _ => .exc C fs false
    | .bad => .bad)
  | .exc C fs st => .exc C fs st
  | .bad => .bad
/-- only a value of that kind -/
def eKd (kd : D → Bool) (o : Ex) : Ex := fun ρ => match o ρ with
  | .ok d l st ρ' => if kd d then .ok d l st ρ' else .bad
  | r => r
def kLst : D → Bool
  | .lst _ _ => true
  | _ => false
/-- an object is changed in place by a method -/
def eMut (f : D → List D → Option (D × D)) (o : Ex) (a : A) : Ex := fun ρ => match o ρ with
  | .ok _ (some l) _ ρ1 => (match a ρ1 with
    | .ok ds s2 ρ2 => if s2 || l.2.isEmpty then (match ρ2.get l with
      | some x => (match f x ds with
        | some (x', z) => .ok z none false (ρ2.put l x')
        | none => .bad)
      | none => .bad) else .bad
    | .exc C fs _ => .exc C fs false
    | .bad => .bad)
  | .exc C fs st => .exc C fs st
  | _ => .bad
/-- x[i] = v -/
def sPut (f : D → D → D → Option D) (o i v : Ex) : S := fun ρ => match (v ρ).own with
  | .ok d _ _ ρ1 => (match o ρ1 with
    | .ok _ (some l) _ ρ2 => (match i ρ2 with
      | .ok k lk s3 ρ3 => if (s3 || l.2.isEmpty) && k.fz then (match ρ3.get l with
        | some x => (match f x k d with
          | some x' => .nx (ρ3.put l x')
          | none => .bad)
        | none => .bad) else .bad
      | .exc C fs _ => .exc C fs
      | .bad => .bad)
    | .exc C fs _ => .exc C fs
    | _ => .bad)
  | .exc C fs _ => .exc C fs
  | .bad => .bad
end IL
namespace IL
open PySem
/-! ### what is walked -/
def sFor (q : Sq) (g : G) (b : S) : S := fun ρ => match q ρ with
  | .ok ds ρ' => forL g b ds ρ'
  | .exc C fs _ => .exc C fs
  | .bad => .bad
end IL
namespace IL
open PySem
/-! ### list comprehensions -/
inductive LR where
  | ok (ys : List D) (ρ : Ro) | bad
def compL (vs : List Nat) (g : G) (t : T) (e : Ex) : List D → List D → Ro → LR
  | acc, [], ρ => .ok acc ρ
  | acc, d :: ds, ρ => match g d ρ with
    | none => .bad
    | some ρ1 => match t ρ1 with
      | .ok true _ ρ2 => (match (e ρ2).own with
        | .ok y _ _ ρ3 => compL vs g t e (acc ++ [y]) ds (wipeR ρ3 vs)
        | _ => .bad)
      | .ok false _ ρ2 => compL vs g t e acc ds (wipeR ρ2 vs)
      | _ => .bad
def tYes : T := fun ρ => .ok true true ρ
def eLC (vs : List Nat) (q : Sq) (g : G) (t : T) (e : Ex) : Ex := fun ρ => match q ρ with
  | .ok ds ρ1 => (match compL vs g t e [] ds (wipeR ρ1 vs) with
    | .ok ys ρ2 => .ok (.lst true ys) none false ρ2
    | .bad => .bad)
  | .exc C fs st => .exc C fs st
  | .bad => .bad
end IL
end
section
set_option Elab.async false
set_option linter.all false
set_option autoImplicit false
set_option maxRecDepth 100000
set_option maxHeartbeats 1000000
/-! IS: what IL's constructs say of the model, over HandS. Part 1: data in the heap. -/
namespace IS
open PySem PySem.Spec L2 IL LamX


theorem Keeps.mono {S S' : List Addr} {F F' : Addr → Prop} {H H' : Hp} (k : Keeps S F H F' H') (h : ∀ a ∈ S, a ∈ S') : Keeps S' F H F' H' := ⟨fun b o hb => k.keep b o fun z => hb (h b z), k.fr⟩

section
variable {K : Frag} {F F' : Addr → Prop} {H H' : Hp} {S : List Addr}
end
mutual
/-- frozen data owns nothing -/
theorem Rep.fz {K : Frag} {F : Addr → Prop} {H : Hp} : ∀ {v : V} {d : D} {fp : List Addr}, Rep K F H v d fp → d.fz = true → fp = []
  | _, _, _, .non, _ => rfl
  | _, _, _, .bl b, _ => rfl
  | _, _, _, .int b, _ => rfl
  | _, _, _, .str b _, _ => rfl
  | _, _, _, .ty b, _ => rfl
  | _, _, _, .glo b, _ => rfl
  | _, _, _, .lstO e l r, h => by simp [D.fz] at h
  | _, _, _, .lstF f e l r, h => rfl
  | _, _, _, .scr _, _ => rfl
  | _, _, _, .lam _ _ _, _ => rfl
  | _, _, _, .cel _ _ _, _ => rfl
  | _, _, _, .err _ _ _ _, _ => rfl
  | _, _, _, .err0 _, _ => rfl
  | _, _, _, .tup e l r, h => Reps.fz r (by simpa [D.fz] using h)
  | _, _, _, .dctO e c l r, h => by simp [D.fz] at h
  | _, _, _, .dctF f e c l r, h => rfl
  | _, _, _, .insO e l r, h => by simp [D.fz] at h
  | _, _, _, .insF f e l r, h => rfl
theorem Reps.fz {K : Frag} {F : Addr → Prop} {H : Hp} : ∀ {vs : List V} {ds : List D} {fp : List Addr}, Reps K F H vs ds fp → fzs ds = true → fp = []
  | _, _, _, .nil, _ => rfl
  | _, _, _, .cons r q, h => by
    unfold fzs at h
    simp only [Bool.and_eq_true] at h
    rw [Rep.fz r h.1, Reps.fz q h.2]
    rfl
end
end IS
end
section
set_option Elab.async false
set_option linter.all false
set_option autoImplicit false
set_option maxRecDepth 100000
set_option maxHeartbeats 1000000
/-! IS, part 2: places within data, the slots. -/
namespace IS
open PySem PySem.Spec L2 IL LamX

section
variable {K : Frag} {F : Addr → Prop} {H : Hp}
theorem reps_len : ∀ {vs : List V} {ds : List D} {fp : List Addr}, Reps K F H vs ds fp → vs.length = ds.length
  | _, _, _, .nil => rfl
  | _, _, _, .cons _ q => by simp [reps_len q]
end
end IS
end
section
set_option Elab.async false
set_option linter.all false
set_option autoImplicit false
set_option maxRecDepth 100000
set_option maxHeartbeats 1000000
/-! IS, part 3: slots, the readings of expressions. -/
namespace IS
open PySem PySem.Spec L2 IL LamX

section
variable {K : Frag} {F F' : Addr → Prop} {H H' : Hp}
end

def tR (K : Frag) (T : Tb) (W : WK) (r : R) (F : Addr → Prop) (ρ : Ro) (fps : List Addr) : TE := fun σ H Q => match r with
  | .ok d none st ρ' => ∀ (v : V) (F' : Addr → Prop) (H' : Hp) (fps' fd : List Addr), VOk K T F' H' σ ρ' fps' v d fd → Evo F H fps F' H' (fps' ++ fd) → Stb st ρ ρ' fps fps' H F' H' → Q v H'
  | .ok d (some l) st ρ' => ∀ (v : V) (F' : Addr → Prop) (H' : Hp) (fps' : List Addr), Ok K T F' H' σ ρ' fps' → Evo F H fps F' H' fps' → Stb st ρ ρ' fps fps' H F' H' → AtL H' σ l v → ρ'.get l = some d → Q v H'
  | .exc C fs st => ExcW K T W F H fps C fs st
  | .bad => False
def tE (K : Frag) (T : Tb) (W : WK) (m : Ex) : TE := fun σ H Q => ∃ F ρ fps, Ok K T F H σ ρ fps ∧ tR K T W (m ρ) F ρ fps σ H Q

section
variable {X : Cx} {K : Frag} {T : Tb} {W : WK} {e : Expr} {t t' : TE} {m : Ex}
theorem pe_weak (h : PE X e t) (i : ∀ σ H Q, t' σ H Q → t σ H Q) : PE X e t' := ⟨fun pins s σ H Q I q => h.run pins s σ H Q I (i σ H Q q)⟩
/-- one starts from a state -/
theorem pe_from (h : PE X e t) (i : ∀ σ H Q F ρ fps, Ok K T F H σ ρ fps → tR K T W (m ρ) F ρ fps σ H Q → t σ H Q) : PE X e (tE K T W m) := pe_weak h fun σ H Q ⟨F, ρ, fps, ok, q⟩ => i σ H Q F ρ fps ok q

/-! ### the slot at a place -/
variable {F : Addr → Prop} {H : Hp} {σ : L2.St} {ρ : Ro} {fps : List Addr}
end
end IS
end
section
set_option Elab.async false
set_option linter.all false
set_option autoImplicit false
set_option maxRecDepth 100000
set_option maxHeartbeats 1000000
/-! IS, part 4: expressions. -/
namespace IS
open PySem PySem.Spec L2 IL LamX

theorem Reps.single {K : Frag} {F : Addr → Prop} {H : Hp} {v : V} {d : D} {fp : List Addr} (r : Rep K F H v d fp) : Reps K F H [v] [d] fp := by
  have := Reps.cons r .nil
  simpa using this

theorem VOk.aok {K : Frag} {T : Tb} {F : Addr → Prop} {H : Hp} {σ : L2.St} {ρ : Ro} {fps fd : List Addr} {v : V} {d : D} (h : VOk K T F H σ ρ fps v d fd) : AOk K T F H σ ρ fps [v] [d] fd := ⟨h.ok, .single h.rep, h.nd, h.nf⟩
def tAR (K : Frag) (T : Tb) (W : WK) (r : AR) (F : Addr → Prop) (ρ : Ro) (fps : List Addr) : TA := fun σ H Q => match r with
  | .ok ds st ρ' => ∀ (vs : List V) (F' : Addr → Prop) (H' : Hp) (fps' fd : List Addr), AOk K T F' H' σ ρ' fps' vs ds fd → Evo F H fps F' H' (fps' ++ fd) → Stb st ρ ρ' fps fps' H F' H' → Q vs H'
  | .exc C fs st => ExcW K T W F H fps C fs st
  | .bad => False
def tA (K : Frag) (T : Tb) (W : WK) (m : A) : TA := fun σ H Q => ∃ F ρ fps, Ok K T F H σ ρ fps ∧ tAR K T W (m ρ) F ρ fps σ H Q

/-- an error behind something that went well -/
theorem ExcW.after {K : Frag} {T : Tb} {W : WK} {F F1 : Addr → Prop} {H H1 : Hp} {fps fps1 fx : List Addr} {ρ ρ1 : Ro} {C : Str} {fs : Fs} {s1 s2 : Bool} (h : ExcW K T W F H fps C fs (s1 && s2)) (e : Evo F H fps F1 H1 (fps1 ++ fx)) (hs : Stb s1 ρ ρ1 fps fps1 H F1 H1) (hx : ∀ a ∈ fps1, ¬ F1 a) (hl : ∀ a ∈ fps1, Live H1 a) : ExcW K T W F1 H1 fps1 C fs s2 := by
  intro cls dx F' H' hr hv ht e2
  refine h cls dx F' H' hr hv ht ?_
  cases s2 with
  | false =>
    have e3 : Evo F1 H1 (fps1 ++ fx) F' H' [] := e2.more fun a z => List.mem_append_left _ z
    rw [Bool.and_false]
    exact e.trans e3
  | true =>
    rw [Bool.and_true]
    cases s1 with
    | false =>
      have e3 : Evo F1 H1 (fps1 ++ fx) F' H' [] := e2.more fun a z => nomatch z
      exact e.trans e3
    | true =>
      obtain ⟨_, rfl, k⟩ := hs rfl
      have fn : ∀ a, F1 a → F a ∨ a ∈ ([] : List Addr) ∨ ¬ Live H a := fun a z => by
        rcases e.fn a z with q | q | q
        · exact .inl q
        · exact absurd z (hx a q)
        · exact .inr (.inr q)
      have e0 : Evo F H [] F1 H1 [] := ⟨fun b o _ q n => k b o q n, nomem', e.fr, fn⟩
      exact e0.trans e2
section
variable {X : Cx} {T : Tb} {W : WK} {e e' : Expr} {es : List Expr} {t t' : TE} {m m' : Ex} {F : Addr → Prop} {H : Hp} {σ : L2.St} {ρ : Ro} {fps : List Addr} {pos : Pos}
/-! ### the value as one of its own -/
theorem own_fz {d : D} {l : Lo} {st : Bool} {ρ : Ro} (h : d.fz = true) : (R.ok d (some l) st ρ).own = .ok d none st ρ := by simp [R.own, h]
theorem own_nf {d : D} {l : Lo} {st : Bool} {ρ : Ro} (h : ¬ d.fz = true) : (R.ok d (some l) st ρ).own = .ok d.frz none false (ρ.put l d.frz) := by simp [R.own, h]
theorem own_of {K : Frag} {r : R} {Q : VK} (ok : Ok K T F H σ ρ fps) (h : tR K T W r.own F ρ fps σ H Q) : tR K T W r F ρ fps σ H Q := by
  cases r with
  | bad => exact h
  | exc C fs st => exact h
  | ok d l st ρ' =>
    cases l with
    | none => exact h
    | some l =>
      intro v F' H' fps' ok' ev sb at' g
      obtain ⟨pre, fd, post, e1, r1, dis, k1⟩ := ok'.at at' g
      by_cases hz : d.fz = true
      · rw [own_fz hz] at h
        have e0 := r1.fz hz
        subst e0
        exact h v F' H' fps' [] ⟨ok', r1, by simpa using ok'.nd, fun a z => nomatch z⟩ (by simpa using ev) sb
      · rw [own_nf hz] at h
        have hF : ∀ a, F' a → (fun a => F' a ∨ a ∈ fd) a := fun a z => .inl z
        have r2 : Rep K (fun a => F' a ∨ a ∈ fd) H' v d.frz [] := r1.frz hF fun a z => .inr z
        have env := k1 (fun a => F' a ∨ a ∈ fd) H' d.frz [] ⟨fun _ _ _ e _ => .inl e, hF⟩ (fun a ha w => by
          rcases w with w | w
          · exact ok'.nf a (by rw [e1]; simp only [List.mem_append]; rcases ha with q | q <;> simp [q]) w
          · have := dis a w
            rcases ha with q | q <;> simp [q] at this) (fun _ => rfl) r2
        have nd := ok'.nd
        rw [e1] at nd
        have nd2 : (pre ++ ([] ++ post)).Nodup := by
          simp only [List.nodup_append, List.nil_append, List.mem_append] at nd ⊢
          grind
        have sub : ∀ a ∈ pre ++ ([] ++ post), a ∈ fps' := fun a z => by
          rw [e1]
          simp at z ⊢
          grind
        refine h v _ H' (pre ++ ([] ++ post)) [] ⟨⟨env, nd2, fun a z q => ?_, fun a q => ?_, ok'.tb⟩, r2, by simpa using nd2, fun a z => nomatch z⟩ ?_ Stb.no
        · rcases q with q | q
          · exact ok'.nf a (sub a z) q
          · have := dis a q
            simp at z
            grind
        · rcases q with q | q
          · exact ok'.lv a q
          · exact live_of (r1.mutk a q)
        · refine ⟨fun b o hb e n => (ev.keep b o hb e n).trans (fun o' e' _ => .inl e') n hF, fun a z => ev.new a (sub a (by simpa using z)), fun a z => .inl (ev.fr a z), fun a z => ?_⟩
          rcases z with z | z
          · exact ev.fn a z
          · exact .inr (ev.new a (by rw [e1]; simp [z]))
/-- the shape that most rules have: from an own value on -/
theorem own_ok {K : Frag} {r : R} {d : D} {l : Option Lo} {st : Bool} {ρ' : Ro} (h : r.own = .ok d l st ρ') : l = none := by
  cases r with
  | bad => cases h
  | exc C fs st => cases h
  | ok d0 l0 st0 ρ0 =>
    cases l0 with
    | none => cases h; rfl
    | some l0 =>
      by_cases hz : d0.fz = true
      · rw [own_fz hz] at h; cases h; rfl
      · rw [own_nf hz] at h; cases h; rfl
theorem tE_own {K : Frag} {Q : VK} (h : tE K T W (fun ρ => (m ρ).own) σ H Q) : tE K T W m σ H Q := let ⟨F, ρ, fps, ok, q⟩ := h; ⟨F, ρ, fps, ok, own_of ok q⟩
theorem pe_own (h : PE X e (tE X.K T W m)) : PE X e (tE X.K T W fun ρ => (m ρ).own) := pe_weak h fun σ H Q q => tE_own q

/-- an atom's value stands anywhere -/
theorem Ok.atom {K : Frag} {v : V} {d : D} (ok : Ok K T F H σ ρ fps) (r : Rep K F H v d []) : VOk K T F H σ ρ fps v d [] := ⟨ok, r, by simpa using ok.nd, fun a z => nomatch z⟩
theorem pe_const {v : V} {d : D} (h : PE X e (tC v)) (r : ∀ F H, Rep X.K F H v d []) : PE X e (tE X.K T W (eC d)) := pe_from h fun σ H Q F ρ fps ok q =>
  q v F H fps [] (ok.atom (r F H)) (by simpa using Evo.refl) Stb.refl
theorem pe_name {i : Nat} (h : PE X e (tVar i)) : PE X e (tE X.K T W (eVar i)) := pe_from h fun σ H Q F ρ fps ok q => by
  unfold eVar at q
  cases hi : ρ[i]? with
  | none => rw [hi] at q; exact q.elim
  | some o =>
    rw [hi] at q
    cases o with
    | none => exact q.elim
    | some d =>
      obtain ⟨v, pre, fd, post, e1, e2, r1, k1⟩ := renv_at ok.env hi
      exact ⟨v, e1, q v F H fps ok Evo.refl Stb.refl ⟨v, e1, .nil v⟩ (by simp [Ro.get, hi, D.get])⟩
theorem tE_frz {K : Frag} {Q : VK} (h : tE K T W (eFrz m) σ H Q) : tE K T W m σ H Q := tE_own (by
  obtain ⟨F, ρ, fps, ok, q⟩ := h
  refine ⟨F, ρ, fps, ok, ?_⟩
  show tR K T W (m ρ).own F ρ fps σ H Q
  unfold eFrz at q
  cases hr : (m ρ).own with
  | bad => rw [hr] at q; exact q
  | exc C fs st => rw [hr] at q; exact q
  | ok d l st ρ' =>
    rw [hr] at q
    have := own_ok (K := K) hr
    subst this
    intro v F' H' fps' fd vo ev sb
    have hF : ∀ a, F' a → (fun a => F' a ∨ a ∈ fd) a := fun a z => .inl z
    have mk := vo.rep.mutk
    have nd := vo.nd
    have dis : ∀ a ∈ fps', a ∉ fd := fun a z w => by
      simp only [List.nodup_append] at nd
      exact nd.2.2 a z a w rfl
    have env := renv_map (F' := fun a => F' a ∨ a ∈ fd) (H' := H') (S := fps') (fun {v d f} r hf => r.keep (S := []) ⟨fun _ _ _ e _ => .inl e, hF⟩ nomem' nomem' (fun a z => ⟨List.not_mem_nil, fun w => w.elim (vo.ok.nf a (hf a z)) (dis a (hf a z))⟩)) vo.ok.env fun a z => z
    refine q v _ H' fps' [] ⟨⟨env, vo.ok.nd, fun a z w => ?_, fun a w => ?_, vo.ok.tb⟩, vo.rep.frz hF fun a z => .inr z, by simpa using vo.ok.nd, fun a z => nomatch z⟩ ?_ (fun h => let ⟨a, b, c⟩ := sb h; ⟨a, b, fun b o e n => (c b o e n).trans (fun o' e' _ => .inl e') n hF⟩)
    · rcases w with w | w
      · exact vo.ok.nf a z w
      · exact dis a z w
    · rcases w with w | w
      · exact vo.ok.lv a w
      · exact live_of (mk a w)
    · refine ⟨fun b o hb e n => (ev.keep b o hb e n).trans (fun o' e' _ => .inl e') n hF, fun a z => ev.new a (by simp at z; simp [z]), fun a z => .inl (ev.fr a z), fun a z => ?_⟩
      rcases z with z | z
      · exact ev.fn a z
      · exact .inr (ev.new a (by simp [z])))
theorem pe_frz (h : PE X e (tE X.K T W m)) : PE X e (tE X.K T W (eFrz m)) := pe_weak h fun σ H Q q => tE_frz q
end
end IS
end
section
set_option Elab.async false
set_option linter.all false
set_option autoImplicit false
set_option maxRecDepth 100000
set_option maxHeartbeats 1000000
/-! IS, part 5: arguments, displays, operations. -/
namespace IS
open PySem PySem.Spec L2 IL LamX
section
variable {X : Cx} {T : Tb} {W : WK} {e a b : Expr} {es : List Expr} {t t' : TE} {ta : TA} {m m' ma mb : Ex} {ar : A} {F : Addr → Prop} {H : Hp} {σ : L2.St} {ρ : Ro} {fps : List Addr} {pos : Pos}

theorem own_st {K : Frag} (ok : Ok K T F H σ ρ fps) : (∀ a ∈ fps, ¬ F a) ∧ ∀ a ∈ fps, Live H a := ⟨ok.nf, fun a z => live_of (renv_mutk ok.env a z)⟩
/-! ### arguments -/
theorem Reps.app {K : Frag} : ∀ {vs ws : List V} {ds xs : List D} {f g : List Addr}, Reps K F H vs ds f → Reps K F H ws xs g → Reps K F H (vs ++ ws) (ds ++ xs) (f ++ g)
  | _, _, _, _, _, _, .nil, q => q
  | _, _, _, _, _, _, .cons r q, s => by
    rw [List.append_assoc]
    exact .cons r (Reps.app q s)
theorem pa_nil' : PA X [] (tA X.K T W aNil) := ⟨fun pos pins s σ H Q I ⟨F, ρ, fps, ok, q⟩ => pa_nil.run pos pins s σ H Q I (q [] F H fps [] ⟨ok, .nil, by simpa using ok.nd, nomem'⟩ (by simpa using Evo.refl) Stb.refl)⟩
theorem pa_cons' (ha : PE X e (tE X.K T W m)) (hr : PA X es (tA X.K T W ar)) (hs : starEach (e :: es) X.env = (false, eval e X.env) :: starEach es X.env := by rfl) : PA X (e :: es) (tA X.K T W (aCons m ar)) := by
  refine ⟨fun pos pins s σ H Q I ⟨F, ρ, fps, ok, q⟩ => (pa_cons (pe_own ha) hr hs).run pos pins s σ H Q I ⟨F, ρ, fps, ok, ?_⟩⟩
  unfold aCons at q
  show tR X.K T W (m ρ).own F ρ fps σ H _
  cases hr : (m ρ).own with
  | bad => rw [hr] at q; exact q
  | exc C fs st => rw [hr] at q; exact q
  | ok d l s1 ρ1 =>
    rw [hr] at q
    have := own_ok (K := X.K) hr
    subst this
    intro v F1 H1 fps1 fd1 vo ev sb
    refine ⟨F1, ρ1, fps1, vo.ok, ?_⟩
    simp only at q
    cases h2 : ar ρ1 with
    | bad => rw [h2] at q; exact q
    | exc C fs st =>
      rw [h2] at q
      exact ExcW.after (K := X.K) q ev sb (own_st vo.ok).1 (own_st vo.ok).2
    | ok ds s2 ρ2 =>
      rw [h2] at q
      intro vs F2 H2 fps2 fd2 v2 ev2 sb2
      obtain ⟨⟨r, nd, nf⟩, e3⟩ := vo.aok.trans v2 ev2
      refine q (v :: vs) F2 H2 fps2 (fd1 ++ fd2) ⟨v2.ok, Reps.app r v2.rep, nd, nf⟩ ?_ (sb.trans sb2 ev2.fr)
      exact ev.trans e3

theorem stb_laid {st : Bool} {p : Addr} {o : HO} (h : H p = none) : Stb st ρ ρ fps fps H F (upd H p o) := fun _ => ⟨rfl, rfl, upd_keep h⟩
theorem pe_tup' (h : PA X es (tA X.K T W ar)) (hz : ∀ ρ ds st ρ', ar ρ = .ok ds st ρ' → ds.length ≤ sizeLine) {x1 : Nat} : PE X (.Tuple es x1 pos) (tE X.K T W (eTup ar)) := pe_weak (pe_tup h) fun σ H Q ⟨F, ρ, fps, ok, q⟩ => by
  refine ⟨F, ρ, fps, ok, ?_⟩
  unfold eTup at q
  cases hr : ar ρ with
  | bad => rw [hr] at q; exact q
  | exc C fs st => rw [hr] at q; exact q
  | ok ds st ρ' =>
    rw [hr] at q
    intro vs F' H' fps' fd v ev sb
    have hl : vs.length ≤ sizeLine := by rw [reps_len v.rep]; exact hz _ _ _ _ hr
    refine ⟨hl, fun p hp => ?_⟩
    have e1 := ev.trans (evo_laid (F := F') (o := .tup vs) hp)
    refine q (.ref p) F' _ fps' fd ⟨v.ok.laid hp, .tup upd_same hl (v.rep.laid hp v.nf), v.nd, v.nf⟩ (e1.sub fun a z => List.mem_append_left _ z) ?_
    have := sb.trans (stb_laid (F := F') (st := true) (fps := fps') (ρ := ρ') (o := .tup vs) hp) fun _ z => z
    simpa using this
theorem pe_lst' (h : PA X es (tA X.K T W ar)) (hz : ∀ ρ ds st ρ', ar ρ = .ok ds st ρ' → ds.length ≤ sizeLine) : PE X (.List es pos) (tE X.K T W (eLst ar)) := pe_weak (pe_lst h) fun σ H Q ⟨F, ρ, fps, ok, q⟩ => by
  refine ⟨F, ρ, fps, ok, ?_⟩
  unfold eLst at q
  cases hr : ar ρ with
  | bad => rw [hr] at q; exact q
  | exc C fs st => rw [hr] at q; exact q
  | ok ds st ρ' =>
    rw [hr] at q
    intro vs F' H' fps' fd v ev sb
    have hl : vs.length ≤ sizeLine := by rw [reps_len v.rep]; exact hz _ _ _ _ hr
    refine ⟨hl, fun p hp => ?_⟩
    have e1 := ev.trans (evo_laid (F := F') (o := .lst vs) hp)
    have np : ∀ a ∈ fps' ++ fd, a ≠ p := fun a z e => by
      subst e
      have : Live H' a := by
        rcases List.mem_append.mp z with z | z
        · exact (own_st v.ok).2 a z
        · exact live_of (v.rep.mutk a z)
      exact live_none hp this
    refine q (.ref p) F' _ fps' (p :: fd) ⟨v.ok.laid hp, .lstO upd_same hl (v.rep.laid hp v.nf), ?_, fun a z => ?_⟩ (e1.sub fun a z => ?_) ?_
    · have n1 := v.nd
      simp only [List.nodup_append, List.nodup_cons, List.mem_cons] at n1 ⊢
      have h1 : p ∉ fd := fun z => np p (List.mem_append_right _ z) rfl
      have h2 : p ∉ fps' := fun z => np p (List.mem_append_left _ z) rfl
      grind
    · rcases List.mem_cons.mp z with rfl | z
      · exact fun w => live_none hp (v.ok.lv _ w)
      · exact v.nf a z
    · simp at z ⊢
      grind
    · have := sb.trans (stb_laid (F := F') (st := true) (fps := fps') (ρ := ρ') (o := .lst vs) hp) fun _ z => z
      simpa using this

/-! ### operations whose answer is an atom -/
def Op1 (X : Cx) (r : V → Hp → VK → Prop) (f : D → Option D) : Prop := ∀ (F : Addr → Prop) (H : Hp) (v : V) (x z : D) (fp : List Addr) (Q : VK), f x = some z → Rep X.K F H v x fp → (∀ u, (∀ F H, Rep X.K F H u z []) → Q u H) → r v H Q
theorem pe_un {r : V → Hp → VK → Prop} {f : D → Option D} (h : PE X e (tUn r (tE X.K T W ma))) (hf : Op1 X r f) : PE X e (tE X.K T W (eUn f ma)) := pe_weak h fun σ H Q ⟨F, ρ, fps, ok, q⟩ => by
  refine ⟨F, ρ, fps, ok, ?_⟩
  unfold eUn at q
  cases h1 : ma ρ with
  | bad => rw [h1] at q; exact q
  | exc C fs st => rw [h1] at q; exact q
  | ok x lx sx ρ1 =>
    rw [h1] at q
    simp only at q
    cases hz : f x with
    | none => rw [hz] at q; exact q.elim
    | some z =>
      rw [hz] at q
      simp only at q
      by_cases ha : z.atom = true
      · rw [if_pos ha] at q
        cases lx with
        | none => exact fun v F1 H1 fps1 fd vo ev sb => hf F1 H1 v x z fd Q hz vo.rep fun u ru => q u F1 H1 fps1 [] (vo.ok.atom (ru F1 H1)) (ev.sub fun a z => by simp at z; simp [z]) sb
        | some l =>
          intro v F1 H1 fps1 ok1 ev sb at1 g1
          obtain ⟨pre, fd, post, _, r1, _, _⟩ := ok1.at at1 g1
          exact hf F1 H1 v x z fd Q hz r1 fun u ru => q u F1 H1 fps1 [] (ok1.atom (ru F1 H1)) (by simpa using ev) sb
      · rw [if_neg ha] at q; exact q.elim
end
end IS
end
section
set_option Elab.async false
set_option linter.all false
set_option autoImplicit false
set_option maxRecDepth 100000
set_option maxHeartbeats 1000000
/-! IS, part 6: tests, statements. -/
namespace IS
open PySem PySem.Spec L2 IL LamX
def tSR (K : Frag) (T : Tb) (W : WK) (n : Nat → Prop) (r : SR) (F : Addr → Prop) (fps : List Addr) : TS := fun D σ H => match r with
  | .nx ρ' => ∀ (σ' : L2.St) (F' : Addr → Prop) (H' : Hp) (fps' : List Addr), Ok K T F' H' σ' ρ' fps' → Evo F H fps F' H' fps' → Kp n σ σ' → D.nx σ' H'
  | .bk ρ' => ∀ (σ' : L2.St) (F' : Addr → Prop) (H' : Hp) (fps' : List Addr), Ok K T F' H' σ' ρ' fps' → Evo F H fps F' H' fps' → Kp n σ σ' → D.bk σ' H'
  | .ct ρ' => ∀ (σ' : L2.St) (F' : Addr → Prop) (H' : Hp) (fps' : List Addr), Ok K T F' H' σ' ρ' fps' → Evo F H fps F' H' fps' → Kp n σ σ' → D.ct σ' H'
  | .rt d ρ' => ∀ (σ' : L2.St) (v : V) (F' : Addr → Prop) (H' : Hp) (fps' fd : List Addr), VOk K T F' H' σ' ρ' fps' v d fd → Evo F H fps F' H' (fps' ++ fd) → Kp n σ σ' → D.rt v H'
  | .exc C fs => ExcW K T W F H fps C fs false
  | .bad => False
def tS (K : Frag) (T : Tb) (W : WK) (n : Nat → Prop) (m : S) : TS := fun D σ H => ∃ F ρ fps, Ok K T F H σ ρ fps ∧ tSR K T W n (m ρ) F fps D σ H
section
variable {X : Cx} {T : Tb} {W : WK} {e a b : Expr} {es : List Expr} {t t' : TE} {tt : TT} {m m' ma mb : Ex} {u u' : IL.T} {F : Addr → Prop} {H : Hp} {σ : L2.St} {ρ : Ro} {fps : List Addr} {pos : Pos} {n : Nat → Prop} {st : Stmt} {sts : List Stmt} {s s' : S} {g : G} {tg : Expr}
theorem pt_weak {tt tt' : TT} (h : PT X e tt) (i : ∀ σ H Q, tt' σ H Q → tt σ H Q) : PT X e tt' := ⟨fun pins s σ H Q I q => h.run pins s σ H Q I (i σ H Q q)⟩
theorem pw_weak {tt tt' : TT} (h : PW X e tt) (i : ∀ σ H Q, tt' σ H Q → tt σ H Q) : PW X e tt' := ⟨fun w pins s σ H Q I q => h.run w pins s σ H Q I (i σ H Q q)⟩
theorem ps_weak {t t' : TS} (h : PS X st t) (i : ∀ D σ H, t' D σ H → t D σ H) : PS X st t' := ⟨fun pins s σ H D I q => h.run pins s σ H D I (i D σ H q)⟩
theorem pss_weak {t t' : TS} (h : PSs X sts t) (i : ∀ D σ H, t' D σ H → t D σ H) : PSs X sts t' := ⟨fun pins s σ H D I q => h.run pins s σ H D I (i D σ H q)⟩

/-! ### tests -/
theorem isE {α β : Type} {xs : List α} {ys : List β} (h : xs.length = ys.length) : xs.isEmpty = ys.isEmpty := by
  cases xs <;> cases ys <;> simp_all
theorem truth_ok {K : Frag} {v : V} {d : D} {fp : List Addr} {k : Bool} (r : Rep K F H v d fp) (h : d.truth = some k) : TruV K v H k := by
  cases r with
  | non => cases h; exact rfl
  | bl b => cases h; exact rfl
  | int i => cases h; exact rfl
  | str x l =>
    cases h
    refine ⟨l, ?_⟩
    show (x.length != 0) = ((x.length : Int) != 0)
    rw [Bool.eq_iff_iff]
    simp only [bne_iff_ne, ne_eq]
    omega
  | ty _ => cases h
  | glo _ => cases h
  | lstO e l q => cases h; exact .inl ⟨_, .inl (.inl e), by rw [isE (reps_len q)]⟩
  | lstF f e l q => cases h; exact .inl ⟨_, .inl e, by rw [isE (reps_len q)]⟩
  | scr _ => cases h
  | lam _ _ _ => cases h
  | cel _ _ _ => cases h
  | err _ _ _ _ => cases h
  | err0 _ => cases h
  | tup e l q => cases h; exact .inr (.inl ⟨_, .inl (.inl e), by rw [isE (reps_len q)]⟩)
  | dctO _ _ _ _ => cases h
  | dctF _ _ _ _ _ => cases h
  | insO _ _ _ => cases h
  | insF _ _ _ _ => cases h
theorem pt_V (h : PT X e (fun σ H Q => tE X.K T W m σ H fun x H' => ∃ k, TruV X.K x H' k ∧ Q k H')) : PT X e (tT X.K T W (tV m)) := pt_weak h fun σ H Q ⟨F, ρ, fps, ok, q⟩ => by
  refine ⟨F, ρ, fps, ok, ?_⟩
  unfold tV at q
  cases h1 : m ρ with
  | bad => rw [h1] at q; exact q
  | exc C fs st => rw [h1] at q; exact q
  | ok d l st ρ1 =>
    rw [h1] at q
    simp only at q
    cases hb : d.truth with
    | none => rw [hb] at q; exact q.elim
    | some k =>
      rw [hb] at q
      cases l with
      | none => exact fun v F1 H1 fps1 fd vo ev sb => ⟨k, truth_ok vo.rep hb, q F1 H1 fps1 vo.ok (ev.sub fun a z => List.mem_append_left _ z) sb⟩
      | some l =>
        intro v F1 H1 fps1 ok1 ev sb at1 g1
        obtain ⟨pre, fd, post, _, r1, _, _⟩ := ok1.at at1 g1
        exact ⟨k, truth_ok r1 hb, q F1 H1 fps1 ok1 ev sb⟩
theorem pt_not' (h : PT X a (tT X.K T W u)) : PT X (.UnaryOp .Not a pos) (tT X.K T W (IL.tNot u)) := pt_weak (pt_not h) fun σ H Q ⟨F, ρ, fps, ok, q⟩ => by
  refine ⟨F, ρ, fps, ok, ?_⟩
  unfold IL.tNot at q
  cases h1 : u ρ with
  | bad => rw [h1] at q; exact q
  | exc C fs st => rw [h1] at q; exact q
  | ok k st ρ1 =>
    rw [h1] at q
    exact fun F1 H1 fps1 ok1 ev sb => q F1 H1 fps1 ok1 ev sb
theorem tAnd_of {K : Frag} {Q : Bool → Hp → Prop} (ok : Ok K T F H σ ρ fps) (q : tTR K T W (IL.tAnd u u' ρ) F ρ fps σ H Q) : tTR K T W (u ρ) F ρ fps σ H fun c H1 => if c = true then tT K T W u' σ H1 Q else Q false H1 := by
  unfold IL.tAnd at q
  cases h1 : u ρ with
  | bad => rw [h1] at q; exact q
  | exc C fs st => rw [h1] at q; exact q
  | ok k st ρ1 =>
    rw [h1] at q
    cases k with
    | false => exact fun F1 H1 fps1 ok1 ev sb => iteF (q F1 H1 fps1 ok1 ev sb)
    | true =>
      intro F1 H1 fps1 ok1 ev sb
      refine iteT ?_
      refine ⟨F1, ρ1, fps1, ok1, ?_⟩
      simp only at q
      cases h2 : u' ρ1 with
      | bad => rw [h2] at q; exact q
      | exc C fs s2 =>
        rw [h2] at q
        exact ExcW.after (K := K) (fx := []) q (by simpa using ev) sb (own_st ok1).1 (own_st ok1).2
      | ok k2 s2 ρ2 =>
        rw [h2] at q
        exact fun F2 H2 fps2 ok2 ev2 sb2 => q F2 H2 fps2 ok2 (ev.trans ev2) (sb.trans sb2 ev2.fr)
theorem tOr_of {K : Frag} {Q : Bool → Hp → Prop} (ok : Ok K T F H σ ρ fps) (q : tTR K T W (IL.tOr u u' ρ) F ρ fps σ H Q) : tTR K T W (u ρ) F ρ fps σ H fun c H1 => if c = true then Q true H1 else tT K T W u' σ H1 Q := by
  unfold IL.tOr at q
  cases h1 : u ρ with
  | bad => rw [h1] at q; exact q
  | exc C fs st => rw [h1] at q; exact q
  | ok k st ρ1 =>
    rw [h1] at q
    cases k with
    | true => exact fun F1 H1 fps1 ok1 ev sb => iteT (q F1 H1 fps1 ok1 ev sb)
    | false =>
      intro F1 H1 fps1 ok1 ev sb
      refine iteF ?_
      refine ⟨F1, ρ1, fps1, ok1, ?_⟩
      simp only at q
      cases h2 : u' ρ1 with
      | bad => rw [h2] at q; exact q
      | exc C fs s2 =>
        rw [h2] at q
        exact ExcW.after (K := K) (fx := []) q (by simpa using ev) sb (own_st ok1).1 (own_st ok1).2
      | ok k2 s2 ρ2 =>
        rw [h2] at q
        exact fun F2 H2 fps2 ok2 ev2 sb2 => q F2 H2 fps2 ok2 (ev.trans ev2) (sb.trans sb2 ev2.fr)
variable {rest : List Expr}
theorem pw_and' (ha : PT X a (tT X.K T W u)) (hb : PW X (.BoolOp .And (b :: rest) pos) (tT X.K T W u')) : PW X (.BoolOp .And (a :: b :: rest) pos) (tT X.K T W (IL.tAnd u u')) :=
  pw_weak (pw_and ha hb) fun σ H Q ⟨F, ρ, fps, ok, q⟩ => ⟨F, ρ, fps, ok, tAnd_of ok q⟩
theorem pw_or' (ha : PT X a (tT X.K T W u)) (hb : PW X (.BoolOp .Or (b :: rest) pos) (tT X.K T W u')) : PW X (.BoolOp .Or (a :: b :: rest) pos) (tT X.K T W (IL.tOr u u')) :=
  pw_weak (pw_or ha hb) fun σ H Q ⟨F, ρ, fps, ok, q⟩ => ⟨F, ρ, fps, ok, tOr_of ok q⟩

/-! ### statements -/
theorem ExcW.any {K : Frag} {C : Str} {fs : Fs} {k : Bool} (h : ExcW K T W F H fps C fs false) : ExcW K T W F H fps C fs k := fun cls dx F' H' hr hv ht e => h cls dx F' H' hr hv ht (e.more fun a z => by cases k <;> simp [exS] at z ⊢; exact z)
theorem pss_nil' : PSs X [] (tS X.K T W n sNx) := pss_weak pss_nil fun D σ H ⟨F, ρ, fps, ok, q⟩ => q σ F H fps ok Evo.refl Kp.refl
theorem pss_cons' (h1 : PS X st (tS X.K T W n s)) (h2 : PSs X sts (tS X.K T W n s')) : PSs X (st :: sts) (tS X.K T W n (sSeq s s')) := pss_weak (pss_cons h1 h2) fun D σ H ⟨F, ρ, fps, ok, q⟩ => by
  refine ⟨F, ρ, fps, ok, ?_⟩
  unfold sSeq at q
  cases h1 : s ρ with
  | bad => rw [h1] at q; exact q
  | exc C fs => rw [h1] at q; exact q
  | bk ρ' => rw [h1] at q; exact q
  | ct ρ' => rw [h1] at q; exact q
  | rt d ρ' => rw [h1] at q; exact q
  | nx ρ1 =>
    rw [h1] at q
    simp only at q
    intro σ1 F1 H1 fps1 ok1 ev kp
    refine ⟨F1, ρ1, fps1, ok1, ?_⟩
    cases h2 : s' ρ1 with
    | bad => rw [h2] at q; exact q
    | exc C fs => rw [h2] at q; exact ExcW.then (fx := []) q (by simpa using ev)
    | bk ρ' => rw [h2] at q; exact fun σ2 F2 H2 fps2 ok2 e2 k2 => q σ2 F2 H2 fps2 ok2 (ev.trans e2) (kp.trans k2)
    | ct ρ' => rw [h2] at q; exact fun σ2 F2 H2 fps2 ok2 e2 k2 => q σ2 F2 H2 fps2 ok2 (ev.trans e2) (kp.trans k2)
    | nx ρ' => rw [h2] at q; exact fun σ2 F2 H2 fps2 ok2 e2 k2 => q σ2 F2 H2 fps2 ok2 (ev.trans e2) (kp.trans k2)
    | rt d ρ' => rw [h2] at q; exact fun σ2 v F2 H2 fps2 fd v2 e2 k2 => q σ2 v F2 H2 fps2 fd v2 (ev.trans e2) (kp.trans k2)
theorem pss_one' (h1 : PS X st (tS X.K T W n s)) : PSs X [st] (tS X.K T W n s) := pss_one h1
theorem ps_exp (h : PS X st (tDrop (tE X.K T W m))) : PS X st (tS X.K T W n (sExp m)) := ps_weak h fun D σ H ⟨F, ρ, fps, ok, q⟩ => by
  refine ⟨F, ρ, fps, ok, ?_⟩
  unfold sExp at q
  cases h1 : m ρ with
  | bad => rw [h1] at q; exact q
  | exc C fs st => rw [h1] at q; exact ExcW.any q
  | ok d l st ρ1 =>
    rw [h1] at q
    cases l with
    | none => exact fun v F1 H1 fps1 fd vo ev sb => q σ F1 H1 fps1 vo.ok (ev.sub fun a z => List.mem_append_left _ z) Kp.refl
    | some l => exact fun v F1 H1 fps1 ok1 ev sb _ _ => q σ F1 H1 fps1 ok1 ev Kp.refl
theorem ps_ret' (h : PE X e (tE X.K T W m)) : PS X (.Return (some e) pos) (tS X.K T W n (sRet m)) := ps_weak (ps_ret (pe_own h)) fun D σ H ⟨F, ρ, fps, ok, q⟩ => by
  refine ⟨F, ρ, fps, ok, ?_⟩
  unfold sRet at q
  show tR X.K T W (m ρ).own F ρ fps σ H _
  cases h1 : (m ρ).own with
  | bad => rw [h1] at q; exact q
  | exc C fs st => rw [h1] at q; exact ExcW.any q
  | ok d l st ρ1 =>
    rw [h1] at q
    have := own_ok (K := X.K) h1
    subst this
    exact fun v F1 H1 fps1 fd vo ev sb => q σ v F1 H1 fps1 fd vo ev Kp.refl
theorem ps_if' {as bs : List Stmt} (hc : PT X e (tT X.K T W u)) (ha : PSs X as (tS X.K T W n s)) (hb : PSs X bs (tS X.K T W n s')) : PS X (.If e as bs pos) (tS X.K T W n (sIf u s s')) := ps_weak (ps_if hc ha hb) fun D σ H ⟨F, ρ, fps, ok, q⟩ => by
  refine ⟨F, ρ, fps, ok, ?_⟩
  unfold sIf at q
  cases h1 : u ρ with
  | bad => rw [h1] at q; exact q
  | exc C fs st => rw [h1] at q; exact ExcW.any q
  | ok k st ρ1 =>
    rw [h1] at q
    simp only at q
    have go : ∀ (r : SR) (F1 : Addr → Prop) (H1 : Hp) (fps1 : List Addr), Ok X.K T F1 H1 σ ρ1 fps1 → Evo F H fps F1 H1 fps1 → tSR X.K T W n r F fps D σ H → tSR X.K T W n r F1 fps1 D σ H1 := by
      intro r F1 H1 fps1 ok1 ev q
      cases r with
      | bad => exact q
      | exc C fs => exact ExcW.then (fx := []) q (by simpa using ev)
      | bk ρ' => exact fun σ2 F2 H2 fps2 ok2 e2 k2 => q σ2 F2 H2 fps2 ok2 (ev.trans e2) k2
      | ct ρ' => exact fun σ2 F2 H2 fps2 ok2 e2 k2 => q σ2 F2 H2 fps2 ok2 (ev.trans e2) k2
      | nx ρ' => exact fun σ2 F2 H2 fps2 ok2 e2 k2 => q σ2 F2 H2 fps2 ok2 (ev.trans e2) k2
      | rt d ρ' => exact fun σ2 v F2 H2 fps2 fd v2 e2 k2 => q σ2 v F2 H2 fps2 fd v2 (ev.trans e2) k2
    intro F1 H1 fps1 ok1 ev sb
    cases k with
    | true => rw [if_pos rfl] at q ⊢; exact ⟨F1, ρ1, fps1, ok1, go _ F1 H1 fps1 ok1 ev q⟩
    | false => rw [if_neg Bool.false_ne_true] at q ⊢; exact ⟨F1, ρ1, fps1, ok1, go _ F1 H1 fps1 ok1 ev q⟩
theorem ps_asg' (h : PS X st (tAsg (tE X.K T W fun ρ => (m ρ).own) (tG X.K T n g))) : PS X st (tS X.K T W n (sAsg g m)) := ps_weak h fun D σ H ⟨F, ρ, fps, ok, q⟩ => by
  refine ⟨F, ρ, fps, ok, ?_⟩
  unfold sAsg at q
  show tR X.K T W (m ρ).own F ρ fps σ H _
  cases h1 : (m ρ).own with
  | bad => rw [h1] at q; exact q
  | exc C fs st => rw [h1] at q; exact ExcW.any q
  | ok d l st ρ1 =>
    rw [h1] at q
    have := own_ok (K := X.K) h1
    subst this
    simp only at q
    intro v F1 H1 fps1 fd vo ev sb
    refine ⟨F1, ρ1, fps1, d, fd, vo, ?_⟩
    cases hg : g d ρ1 with
    | none => rw [hg] at q; exact q
    | some ρ2 =>
      rw [hg] at q
      exact fun σ2 F2 H2 fps2 ok2 ev2 k2 => q σ2 F2 H2 fps2 ok2 (ev.trans ev2) k2

/-! ### targets -/
theorem pg_set {i : Nat} (h : PG X tg (gName i)) (hn : n i) : PG X tg (tG X.K T n (gSet i)) := by
  refine ⟨fun pins s σ H v u Q I r hq => h.run pins s σ H v u Q I r ?_⟩
  obtain ⟨F, ρ, fps, d, fd, vo, q⟩ := hq
  unfold gSet at q
  by_cases hi : i < ρ.length
  · simp only [hi, if_true] at q
    obtain ⟨fps', ok', sub⟩ := vo.set hi
    exact q _ F H fps' ok' (Evo.refl.sub sub) (Kp.set hn)
  · simp only [hi, if_false] at q
end
end IS
end
section
set_option Elab.async false
set_option linter.all false
set_option autoImplicit false
set_option maxRecDepth 100000
set_option maxHeartbeats 1000000
/-! IS, part 7: what is walked, for, while, list comprehensions. -/
namespace IS
open PySem PySem.Spec L2 IL LamX
def tQR (K : Frag) (T : Tb) (W : WK) (r : QR) (F : Addr → Prop) (fps : List Addr) : TI := fun σ H R => match r with
  | .ok ds ρ' => ∀ (J : It) (I : Nat → (Addr → Prop) → Hp → List Addr → Prop) (F' : Addr → Prop) (H' : Hp) (fps' fr : List Addr), Ok K T F' H' σ ρ' fps' → Gives K J ds I → I 0 F' H' fr → (fps' ++ fr).Nodup → (∀ a ∈ fr, ¬ F' a) → Evo F H fps F' H' (fps' ++ fr) → ds.length ≤ sizeLine → R J H'
  | .exc C fs st => ExcW K T W F H fps C fs st
  | .bad => False
def tQ (K : Frag) (T : Tb) (W : WK) (m : Sq) : TI := fun σ H R => ∃ F ρ fps, Ok K T F H σ ρ fps ∧ tQR K T W (m ρ) F fps σ H R
theorem Gives.frame {K : Frag} {J : It} {ds : List D} {I : Nat → (Addr → Prop) → Hp → List Addr → Prop} (g : Gives K J ds I) {i : Nat} {F F' : Addr → Prop} {H H' : Hp} {fr S S' : List Addr} (h : I i F H fr) (e : Evo F H S F' H' S') (hS : ∀ a ∈ S, ∃ o, H a = some o ∧ MutK o) (hF : ∀ a ∈ S, ¬ F a)
    (hd : ∀ a ∈ fr, a ∉ S) (hn : ∀ a ∈ fr, ¬ F a) : I i F' H' fr ∧ (∀ a ∈ fr, ¬ F' a) ∧ ∀ a ∈ fr, a ∉ S' := by
  have lv : ∀ a ∈ fr, Live H a := fun a ha => live_of (g.mutk i F H fr h a ha)
  have nF : ∀ a ∈ fr, ¬ F' a := fun a ha z => by
    rcases e.fn a z with q | q | q
    · exact hn a ha q
    · exact hd a ha q
    · exact q (lv a ha)
  refine ⟨g.keep i F H fr S F' H' h e.keeps hS hF (fun a ha => ⟨hd a ha, nF a ha⟩), nF, fun a ha z => ?_⟩
  · exact (e.new a z).elim (hd a ha) fun q => q (lv a ha)
section
variable {X : Cx} {T : Tb} {W : WK} {e a b : Expr} {F : Addr → Prop} {H : Hp} {σ : L2.St} {ρ : Ro} {fps : List Addr} {pos : Pos} {n : Nat → Prop} {st : Stmt} {s : S} {g : G} {q : Sq} {tg : Expr} {m : Ex} {u : IL.T}
theorem ps_for' (h : PS X st (tFor (tQ X.K T W q) (tG X.K T n g) (tS X.K T W n s))) : PS X st (tS X.K T W n (sFor q g s)) := ps_weak h fun D σ H ⟨F, ρ, fps, ok, w⟩ => by
  refine ⟨F, ρ, fps, ok, ?_⟩
  unfold sFor at w
  cases h1 : q ρ with
  | bad => rw [h1] at w; exact w
  | exc C fs st => rw [h1] at w; exact ExcW.any w
  | ok ds ρ1 =>
    rw [h1] at w
    simp only at w
    intro J I F1 H1 fps1 fr ok1 gv i0 nd1 nf1 ev1 hl
    generalize hres : forL g s ds ρ1 = res at w
    refine ⟨fun i k σ' H' => ∃ F' ρ' fps' fr', Ok X.K T F' H' σ' ρ' fps' ∧ I i F' H' fr' ∧ (fps' ++ fr').Nodup ∧ (∀ a ∈ fr', ¬ F' a) ∧ Evo F H fps F' H' (fps' ++ fr') ∧ Kp n σ σ' ∧ forL g s (ds.drop i) ρ' = res ∧ i + k = ds.length,
      ⟨ds.length, F1, ρ1, fps1, fr, ok1, i0, nd1, nf1, ev1, Kp.refl, by simpa using hres, by simp⟩, ?_⟩
    rintro i k σ' H' ⟨F', ρ', fps', fr', ok', i', nd', nf', ev', kp', er, ek⟩
    cases k with
    | zero =>
      have ei : i = ds.length := by omega
      subst ei
      refine .inl ⟨gv.stop F' H' fr' i', ?_⟩
      rw [List.drop_length] at er
      rw [← er] at w
      exact w σ' F' H' fps' ok' (ev'.sub fun a z => List.mem_append_left _ z) kp'
    | succ k =>
      have hi : i < ds.length := by omega
      have hd : ds[i]? = some ds[i] := by simp [hi]
      obtain ⟨g1, g2⟩ := gv.go i F' H' fr' ds[i] i' hd
      refine .inr ⟨g1, fun σ2 H2 => ∃ F2 ρ2 fps2 fr2, Ok X.K T F2 H2 σ2 ρ2 fps2 ∧ I (i + 1) F2 H2 fr2 ∧ (fps2 ++ fr2).Nodup ∧ (∀ a ∈ fr2, ¬ F2 a) ∧ Evo F H fps F2 H2 (fps2 ++ fr2) ∧ Kp n σ σ2 ∧ forL g s (ds.drop (i + 1)) ρ2 = res,
        fun σ2 H2 ⟨F2, ρ2, fps2, fr2, a1, a2, a3, a4, a5, a6, a7⟩ => ⟨k, by omega, F2, ρ2, fps2, fr2, a1, a2, a3, a4, a5, a6, a7, by omega⟩, fun x H2 hy => ?_⟩
      obtain ⟨fd, fr2, r2, i2, k2, t2, sub2, nd2⟩ := g2 x H2 hy
      have ok2 := ok'.all k2 t2
      have dis : ∀ a ∈ fr', a ∉ fps' := fun a z w => by
        simp only [List.nodup_append] at nd'
        exact nd'.2.2 a w a z rfl
      have ndr : fr'.Nodup := by
        simp only [List.nodup_append] at nd'
        exact nd'.2.1
      have nd3 := nd2 ndr
      have vo2 : VOk X.K T F' H2 σ' ρ' fps' x ds[i] fd := ⟨ok2, r2, by
        simp only [List.nodup_append] at nd' nd3 ⊢
        refine ⟨nd'.1, nd3.1, fun a z b z' e => ?_⟩
        subst e
        exact dis a (sub2 a (List.mem_append_left _ z')) z, fun a z => nf' a (sub2 a (List.mem_append_left _ z))⟩
      have fr2d : ∀ a ∈ fr2, a ∉ fps' ++ fd := fun a z w => by
        rcases List.mem_append.mp w with w | w
        · exact dis a (sub2 a (List.mem_append_right _ z)) w
        · simp only [List.nodup_append] at nd3
          exact nd3.2.2 a w a z rfl
      refine ⟨F', ρ', fps', ds[i], fd, vo2, ?_⟩
      rw [List.drop_eq_getElem_cons hi] at er
      unfold forL at er
      cases hg : g ds[i] ρ' with
      | none => rw [hg] at er; simp only at er; rw [← er] at w; exact w
      | some ρ3 =>
        rw [hg] at er
        simp only at er
        intro σ3 F3 H3 fps3 ok3 ev3 kp3
        have mk2 : ∀ a ∈ fps' ++ fd, ∃ o, H2 a = some o ∧ MutK o := fun a z => (List.mem_append.mp z).elim (renv_mutk ok2.env a) (r2.mutk a)
        have nf2 : ∀ a ∈ fps' ++ fd, ¬ F' a := fun a z => (List.mem_append.mp z).elim (ok2.nf a) (vo2.nf a)
        obtain ⟨i3, nf3, fr3⟩ := gv.frame i2 ev3 mk2 nf2 fr2d fun a z => nf' a (sub2 a (List.mem_append_right _ z))
        -- what has become of the heap up to here
        have evA : Evo F H fps F' H2 (fps' ++ (fd ++ fr2)) := ev'.trans (evo_all k2 fun a z => by
          simp only [List.mem_append] at z ⊢
          rcases z with z | z | z
          · exact .inl z
          · exact .inr (sub2 a (by simp [z]))
          · exact .inr (sub2 a (by simp [z])))
        have evB : Evo F H fps F3 H3 (fps3 ++ fr2) := evA.trans ⟨fun b o hb => ev3.keep b o fun z => hb (by simp only [List.mem_append] at z ⊢; grind), fun a z => by
          simp only [List.mem_append] at z ⊢
          rcases z with z | z
          · exact (ev3.new a z).imp (fun y => by simp only [List.mem_append] at y; grind) id
          · exact .inl (.inr (.inr z)), ev3.fr, fun a z => (ev3.fn a z).imp id (Or.imp (fun y => by simp only [List.mem_append] at y ⊢; grind) id)⟩
        refine ⟨F3, ρ3, fps3, ok3, ?_⟩
        -- behind the body
        have nxt : ∀ (ρ4 : Ro) (σ4 : L2.St) (F4 : Addr → Prop) (H4 : Hp) (fps4 fx : List Addr), Ok X.K T F4 H4 σ4 ρ4 fps4 → Evo F3 H3 fps3 F4 H4 (fps4 ++ fx) → I (i + 1) F4 H4 fr2 ∧ (∀ a ∈ fr2, ¬ F4 a) ∧ (∀ a ∈ fr2, a ∉ fps4) ∧ Evo F H fps F4 H4 (fps4 ++ fr2) := by
          intro ρ4 σ4 F4 H4 fps4 fx ok4 ev4
          obtain ⟨i4, nf4, fr4⟩ := gv.frame i3 ev4 (renv_mutk ok3.env) ok3.nf fr3 nf3
          refine ⟨i4, nf4, fun a z w => fr4 a z (List.mem_append_left _ w), evB.trans ⟨fun b o hb => ev4.keep b o fun z => hb (List.mem_append_left _ z), fun a z => ?_, ev4.fr, fun a z => (ev4.fn a z).imp id (Or.imp (List.mem_append_left _) id)⟩⟩
          simp only [List.mem_append] at z ⊢
          rcases z with z | z
          · exact (ev4.new a (List.mem_append_left _ z)).imp .inl id
          · exact .inl (.inr z)
        have ndr2 : fr2.Nodup := by
          simp only [List.nodup_append] at nd3
          exact nd3.2.1
        cases hb : s ρ3 with
        | bad => rw [hb] at er; simp only at er; rw [← er] at w; exact w
        | exc C fs =>
          rw [hb] at er; simp only at er; rw [← er] at w
          exact ExcW.then (fx := fr2) w evB
        | bk ρ4 =>
          rw [hb] at er; simp only at er; rw [← er] at w
          intro σ4 F4 H4 fps4 ok4 ev4 kp4
          exact w σ4 F4 H4 fps4 ok4 ((nxt ρ4 σ4 F4 H4 fps4 [] ok4 (by simpa using ev4)).2.2.2.sub fun a z => List.mem_append_left _ z) (kp'.trans (kp3.trans kp4))
        | ct ρ4 =>
          rw [hb] at er; simp only at er
          intro σ4 F4 H4 fps4 ok4 ev4 kp4
          obtain ⟨i4, nf4, fr4, ev5⟩ := nxt ρ4 σ4 F4 H4 fps4 [] ok4 (by simpa using ev4)
          exact ⟨F4, ρ4, fps4, fr2, ok4, i4, List.nodup_append.mpr ⟨ok4.nd, ndr2, fun a z b z' e => by subst e; exact fr4 a z' z⟩, nf4, ev5, kp'.trans (kp3.trans kp4), er⟩
        | nx ρ4 =>
          rw [hb] at er; simp only at er
          intro σ4 F4 H4 fps4 ok4 ev4 kp4
          obtain ⟨i4, nf4, fr4, ev5⟩ := nxt ρ4 σ4 F4 H4 fps4 [] ok4 (by simpa using ev4)
          exact ⟨F4, ρ4, fps4, fr2, ok4, i4, List.nodup_append.mpr ⟨ok4.nd, ndr2, fun a z b z' e => by subst e; exact fr4 a z' z⟩, nf4, ev5, kp'.trans (kp3.trans kp4), er⟩
        | rt d ρ4 =>
          rw [hb] at er; simp only at er; rw [← er] at w
          intro σ4 v F4 H4 fps4 fd4 v4 ev4 kp4
          exact w σ4 v F4 H4 fps4 fd4 v4 ((evB.trans ((ev4.more fun a z => List.mem_append_left _ z)))) (kp'.trans (kp3.trans kp4))
theorem ps_while' {k : Nat} (h : PS X st (tWhile (tT X.K T W u) (tS X.K T W n s))) : PS X st (tS X.K T W n (sWhile k u s)) := ps_weak h fun D σ H ⟨F, ρ, fps, ok, w⟩ => by
  unfold sWhile at w
  generalize hres : whileL u s k ρ = res at w
  refine ⟨fun i σ' H' => ∃ F' ρ' fps', Ok X.K T F' H' σ' ρ' fps' ∧ Evo F H fps F' H' fps' ∧ Kp n σ σ' ∧ whileL u s i ρ' = res, ⟨k, F, ρ, fps, ok, Evo.refl, Kp.refl, hres⟩, ?_⟩
  rintro i σ' H' ⟨F', ρ', fps', ok', ev', kp', er⟩
  refine ⟨F', ρ', fps', ok', ?_⟩
  cases i with
  | zero => rw [← er] at w; exact w.elim
  | succ i =>
    unfold whileL at er
    cases h1 : u ρ' with
    | bad => rw [h1] at er; simp only at er; rw [← er] at w; exact w
    | exc C fs st => rw [h1] at er; simp only at er; rw [← er] at w; exact ExcW.then (fx := []) w (by simpa using ev')
    | ok c st ρ1 =>
      rw [h1] at er
      cases c with
      | false =>
        simp only at er
        rw [← er] at w
        intro F1 H1 fps1 ok1 ev1 sb1
        rw [if_neg Bool.false_ne_true]
        exact w σ' F1 H1 fps1 ok1 (ev'.trans ev1) kp'
      | true =>
        simp only at er
        intro F1 H1 fps1 ok1 ev1 sb1
        rw [if_pos rfl]
        have evA := ev'.trans ev1
        refine ⟨fun σ2 H2 => ∃ F2 ρ2 fps2, Ok X.K T F2 H2 σ2 ρ2 fps2 ∧ Evo F H fps F2 H2 fps2 ∧ Kp n σ σ2 ∧ whileL u s i ρ2 = res, fun σ2 H2 z => ⟨i, Nat.lt_succ_self i, z⟩, F1, ρ1, fps1, ok1, ?_⟩
        cases hb : s ρ1 with
        | bad => rw [hb] at er; simp only at er; rw [← er] at w; exact w
        | exc C fs => rw [hb] at er; simp only at er; rw [← er] at w; exact ExcW.then (fx := []) w (by simpa using evA)
        | bk ρ4 => rw [hb] at er; simp only at er; rw [← er] at w; exact fun σ4 F4 H4 fps4 ok4 ev4 kp4 => w σ4 F4 H4 fps4 ok4 (evA.trans ev4) (kp'.trans kp4)
        | ct ρ4 => rw [hb] at er; simp only at er; exact fun σ4 F4 H4 fps4 ok4 ev4 kp4 => ⟨F4, ρ4, fps4, ok4, evA.trans ev4, kp'.trans kp4, er⟩
        | nx ρ4 => rw [hb] at er; simp only at er; exact fun σ4 F4 H4 fps4 ok4 ev4 kp4 => ⟨F4, ρ4, fps4, ok4, evA.trans ev4, kp'.trans kp4, er⟩
        | rt d ρ4 => rw [hb] at er; simp only at er; rw [← er] at w; exact fun σ4 v F4 H4 fps4 fd4 v4 ev4 kp4 => w σ4 v F4 H4 fps4 fd4 v4 (evA.trans ev4) (kp'.trans kp4)
end
end IS
end
section
set_option Elab.async false
set_option linter.all false
set_option autoImplicit false
set_option maxRecDepth 100000
set_option maxHeartbeats 1000000
/-! IS, part 8: list comprehensions. -/
namespace IS
open PySem PySem.Spec L2 IL LamX
section
variable {K : Frag} {F : Addr → Prop} {H : Hp}
/-- back to the slots around: what is forgotten may be anything -/
theorem renv_unwipe {σ : L2.St} {vs : List Nat} : ∀ {ρ : Ro} {fps : List Addr}, REnv K F H (wipe σ vs) ρ fps → REnv K F H σ ρ fps := by
  have go : ∀ (τ : L2.St) (ρ : Ro) (fps : List Addr), REnv K F H τ ρ fps → ∀ σ : L2.St, σ.length = τ.length → (∀ (j : Nat) (v : V), τ[j]? = some (some v) → σ[j]? = some (some v)) → REnv K F H σ ρ fps := by
    intro τ ρ fps r
    induction r with
    | nil => intro σ hl _; cases σ with
      | nil => exact .nil
      | cons _ _ => simp at hl
    | skip r ih =>
      intro σ hl hj
      cases σ with
      | nil => simp at hl
      | cons o σ => exact .skip (ih σ (by simpa using hl) fun j v e => by simpa using hj (j + 1) v (by simpa using e))
    | cons q r ih =>
      intro σ hl hj
      cases σ with
      | nil => simp at hl
      | cons o σ =>
        have e0 := hj 0 _ rfl
        simp at e0
        subst e0
        exact .cons q (ih σ (by simpa using hl) fun j v e => by simpa using hj (j + 1) v (by simpa using e))
  intro ρ fps r
  exact go _ _ _ r σ (wipe_length σ vs).symm fun j v e => (wipe_some e).1
end
section
variable {X : Cx} {T : Tb} {W : WK} {e elt tg iter : Expr} {F : Addr → Prop} {H : Hp} {σ : L2.St} {ρ : Ro} {fps : List Addr} {pos : Pos} {g : G} {q : Sq} {m : Ex} {u : IL.T} {vs : List Nat}
theorem tLc_of {K : Frag} {Q : VK} (ok : Ok K T F H σ ρ fps) (w : tR K T W (eLC vs q g u m ρ) F ρ fps σ H Q) : tLc (tQ K T W q) (tG K T (· ∈ vs) g) (tT K T W0 u) (tE K T W0 fun ρ => (m ρ).own) vs σ H Q := by
  refine ⟨F, ρ, fps, ok, ?_⟩
  unfold eLC at w
  cases h1 : q ρ with
  | bad => rw [h1] at w; exact w
  | exc C fs st => rw [h1] at w; exact w
  | ok ds ρ1 =>
    rw [h1] at w
    simp only at w
    intro J I F1 H1 fps1 fr ok1 gv i0 nd1 nf1 ev1 hl D hD
    generalize hres : compL vs g u m [] ds (wipeR ρ1 vs) = res at w
    have okD : Ok K T F1 (upd H1 D (.lst [])) σ ρ1 fps1 := ok1.laid hD
    obtain ⟨fps2, ok2, sub2⟩ := okD.wipe vs
    have liveR : ∀ a ∈ fps1 ++ fr, Live H1 a := fun a z => (List.mem_append.mp z).elim ((own_st ok1).2 a) fun z => live_of (gv.mutk 0 F1 H1 fr i0 a z)
    have nD : ∀ a ∈ fps1 ++ fr, a ≠ D := fun a z e => live_none hD (e ▸ liveR a z)
    have i1 : I 0 F1 (upd H1 D (.lst [])) fr := gv.keep 0 F1 H1 fr [] F1 _ i0 ⟨fun b u _ e n => upd_keep hD b u e n, fun _ z => z⟩ nomem' nomem' (fun a z => ⟨List.not_mem_nil, nf1 a z⟩)
    -- the invariant
    refine ⟨fun i k H' => ∃ F' ρ' fps' fr' acc accD fa, Ok K T F' H' (L2.wipe σ vs) ρ' fps' ∧ I i F' H' fr' ∧ H' D = some (.lst acc) ∧ Reps K F' H' acc accD fa ∧ accD.length ≤ i ∧ (fps' ++ (fr' ++ D :: fa)).Nodup ∧ (∀ a ∈ fr' ++ D :: fa, ¬ F' a) ∧
      Evo F H fps F' H' (fps' ++ (fr' ++ D :: fa)) ∧ compL vs g u m accD (ds.drop i) ρ' = res ∧ i + k = ds.length,
      ⟨ds.length, F1, wipeR ρ1 vs, fps2, fr, [], [], [], ok2, i1, upd_same, .nil, Nat.le_refl _, ?_, ?_, ?_, by simpa using hres, by simp⟩, ?_⟩
    · simp only [List.nodup_append, List.mem_append, List.nodup_cons, List.mem_singleton] at nd1 ⊢
      have := sub2.subset
      have s2 := ok2.nd
      refine ⟨s2, ⟨nd1.2.1, by simp, fun a z b e => ?_⟩, fun a z b e => ?_⟩
      · subst e
        exact nD a (List.mem_append_right _ z)
      · rcases e with e | e
        · exact nd1.2.2 a (this z) b e
        · subst e
          exact nD a (List.mem_append_left _ (this z))
    · intro a z
      simp only [List.mem_append, List.mem_singleton] at z
      rcases z with z | rfl
      · exact nf1 a z
      · exact fun w => live_none hD (ok1.lv _ w)
    · refine (ev1.trans (evo_laid (o := .lst []) hD)).sub fun a z => ?_
      simp only [List.mem_append, List.mem_singleton] at z ⊢
      rcases z with z | z | z
      · exact .inl (.inl (sub2.subset z))
      · exact .inl (.inr z)
      · exact .inr z
    · rintro i k H' ⟨F', ρ', fps', fr', acc, accD, fa, ok', i', hH, hr, hlen, nd', nf', ev', er, ek⟩
      cases k with
      | zero =>
        have ei : i = ds.length := by omega
        subst ei
        refine .inl ⟨gv.stop F' H' fr' i', ?_⟩
        rw [List.drop_length] at er
        unfold compL at er
        rw [← er] at w
        have hl2 : acc.length ≤ sizeLine := by
          rw [reps_len hr]
          exact Nat.le_trans hlen hl
        refine w (.ref D) F' H' fps' (D :: fa) ⟨⟨renv_unwipe ok'.env, ok'.nd, ok'.nf, ok'.lv, ok'.tb⟩, .lstO hH hl2 hr, ?_, fun a z => nf' a (List.mem_append_right _ z)⟩ (ev'.sub fun a z => ?_) Stb.no
        · simp only [List.nodup_append, List.mem_append] at nd' ⊢
          exact ⟨nd'.1, nd'.2.1.2.1, fun a z b e => nd'.2.2 a z b (.inr e)⟩
        · simp only [List.mem_append] at z ⊢
          exact z.imp id .inr
      | succ k =>
        have hi : i < ds.length := by omega
        have hd : ds[i]? = some ds[i] := by simp [hi]
        obtain ⟨g1, g2⟩ := gv.go i F' H' fr' ds[i] i' hd
        refine .inr ⟨g1, fun H2 => ∃ F' ρ' fps' fr' acc accD fa, Ok K T F' H2 (L2.wipe σ vs) ρ' fps' ∧ I (i + 1) F' H2 fr' ∧ H2 D = some (.lst acc) ∧ Reps K F' H2 acc accD fa ∧ accD.length ≤ i + 1 ∧ (fps' ++ (fr' ++ D :: fa)).Nodup ∧ (∀ a ∈ fr' ++ D :: fa, ¬ F' a) ∧
          Evo F H fps F' H2 (fps' ++ (fr' ++ D :: fa)) ∧ compL vs g u m accD (ds.drop (i + 1)) ρ' = res,
          fun H2 ⟨F2, ρ2, fps2, fr2, acc2, accD2, fa2, a1, a2, a3, a4, a5, a6, a7, a8, a9⟩ => ⟨k, by omega, F2, ρ2, fps2, fr2, acc2, accD2, fa2, a1, a2, a3, a4, a5, a6, a7, a8, a9, by omega⟩, fun x H2 hy => ?_⟩
        obtain ⟨fd, fr2, r2, i2, k2, t2, sub3, nd2⟩ := g2 x H2 hy
        have okA := ok'.all k2 t2
        have hH2 : H2 D = some (.lst acc) := (k2 _ _ hH (nt_of_mutK trivial)).ex (.inr fun z => z)
        have hr2 : Reps K F' H2 acc accD fa := hr.keep (S := []) ⟨fun b u _ e n => k2 b u e n, fun _ z => z⟩ nomem' nomem' (fun a z => ⟨List.not_mem_nil, nf' a (by simp [z])⟩)
        simp only [List.nodup_append, List.mem_append] at nd'
        obtain ⟨n1, ⟨n2, n3, n4⟩, n5⟩ := nd'
        have nd3 := nd2 n2
        simp only [List.nodup_append] at nd3
        obtain ⟨n6, n7, n8⟩ := nd3
        have fd_fr : ∀ a ∈ fd, a ∈ fr' := fun a z => sub3 a (List.mem_append_left _ z)
        have fr2_fr : ∀ a ∈ fr2, a ∈ fr' := fun a z => sub3 a (List.mem_append_right _ z)
        have vo : VOk K T F' H2 (L2.wipe σ vs) ρ' fps' x ds[i] fd := ⟨okA, r2, List.nodup_append.mpr ⟨n1, n6, fun a z b e => n5 a z b (.inl (fd_fr b e))⟩, fun a z => nf' a (List.mem_append_left _ (fd_fr a z))⟩
        -- what stands aside: the rest of the walked things, the new list
        have aside : ∀ a ∈ fr2 ++ D :: fa, a ∉ fps' ++ fd := fun a z w => by
          simp only [List.mem_append] at z w
          rcases z with z | z
          · rcases w with w | w
            · exact n5 a w a (.inl (fr2_fr a z)) rfl
            · exact n8 a w a z rfl
          · rcases w with w | w
            · exact n5 a w a (.inr z) rfl
            · exact n4 a (fd_fr a w) a z rfl
        have evA : Evo F H fps F' H2 (fps' ++ (fd ++ (fr2 ++ D :: fa))) := ev'.trans (evo_all k2 fun a z => by
          simp only [List.mem_append] at z ⊢
          rcases z with z | z | z | z
          · exact .inl z
          · exact .inr (.inl (fd_fr a z))
          · exact .inr (.inl (fr2_fr a z))
          · exact .inr (.inr z))
        refine ⟨F', ρ', fps', ds[i], fd, vo, ?_⟩
        rw [List.drop_eq_getElem_cons hi] at er
        unfold compL at er
        cases hg : g ds[i] ρ' with
        | none => rw [hg] at er; simp only at er; rw [← er] at w; exact w
        | some ρ3 =>
          rw [hg] at er
          simp only at er
          intro σ3 F3 H3 fps3 ok3 ev3 kp3
          refine ⟨(wipe_kp kp3).trans wipe_wipe, F3, ρ3, fps3, ok3, ?_⟩
          have mkS : ∀ a ∈ fps' ++ fd, ∃ o, H2 a = some o ∧ MutK o := fun a z => (List.mem_append.mp z).elim (renv_mutk okA.env a) (r2.mutk a)
          have nfS : ∀ a ∈ fps' ++ fd, ¬ F' a := fun a z => (List.mem_append.mp z).elim (okA.nf a) (vo.nf a)
          -- the things aside stand
          have stand : ∀ (F3 : Addr → Prop) (H3 : Hp) (S3 : List Addr), Evo F' H2 (fps' ++ fd) F3 H3 S3 → I (i + 1) F3 H3 fr2 ∧ H3 D = some (.lst acc) ∧ Reps K F3 H3 acc accD fa ∧ (∀ a ∈ fr2 ++ D :: fa, ¬ F3 a) ∧ (∀ a ∈ fr2 ++ D :: fa, a ∉ S3) := by
            intro F3 H3 S3 ev
            have lv : ∀ a ∈ fr2 ++ D :: fa, Live H2 a := fun a z => by
              simp only [List.mem_append, List.mem_cons] at z
              rcases z with z | rfl | z
              · exact live_of (gv.mutk _ _ _ _ i2 a z)
              · exact ⟨_, hH2, nt_of_mutK trivial⟩
              · exact live_of (hr2.mutk a z)
            have nfA : ∀ a ∈ fr2 ++ D :: fa, ¬ F' a := fun a z => by
              simp only [List.mem_append] at z
              rcases z with z | z
              · exact nf' a (List.mem_append_left _ (fr2_fr a z))
              · exact nf' a (List.mem_append_right _ z)
            have nF3 : ∀ a ∈ fr2 ++ D :: fa, ¬ F3 a := fun a z w => by
              rcases ev.fn a w with y | y | y
              · exact nfA a z y
              · exact aside a z y
              · exact y (lv a z)
            refine ⟨gv.keep _ _ _ _ _ _ _ i2 ev.keeps mkS nfS fun a z => ⟨aside a (List.mem_append_left _ z), nF3 a (List.mem_append_left _ z)⟩, (ev.keep _ _ (aside D (by simp)) hH2 (nt_of_mutK trivial)).ex (.inr fun z => z), hr2.keep ev.keeps mkS nfS fun a z => ⟨aside a (by simp [z]), nF3 a (by simp [z])⟩, nF3, fun a z w => ?_⟩
            · exact (ev.new a w).elim (aside a z) fun y => y (lv a z)
          have evTo : ∀ (F3 : Addr → Prop) (H3 : Hp) (S3 : List Addr), Evo F' H2 (fps' ++ fd) F3 H3 S3 → Evo F H fps F3 H3 (S3 ++ (fr2 ++ D :: fa)) := fun F3 H3 S3 ev => evA.trans ⟨fun b o hb => ev.keep b o fun z => hb (by simp only [List.mem_append] at z ⊢; grind), fun a z => by
            simp only [List.mem_append] at z ⊢
            rcases z with z | z
            · exact (ev.new a z).imp (fun y => by simp only [List.mem_append] at y; grind) id
            · exact .inl (.inr (.inr z)), ev.fr, fun a z => (ev.fn a z).imp id (Or.imp (fun y => by simp only [List.mem_append] at y ⊢; grind) id)⟩
          cases ht : u ρ3 with
          | bad => rw [ht] at er; simp only at er; rw [← er] at w; exact w
          | exc C fs st => rw [ht] at er; simp only at er; rw [← er] at w; exact w.elim
          | ok c st ρ4 =>
            rw [ht] at er
            intro F4 H4 fps4 ok4 ev4 sb4
            have ev34 := ev3.trans ev4
            cases c with
            | false =>
              simp only at er
              rw [if_neg Bool.false_ne_true]
              obtain ⟨i4, hH4, hr4, nf4, dis4⟩ := stand F4 H4 fps4 ev34
              obtain ⟨fps5, ok5, sub5⟩ := ok4.wipe vs
              rw [(wipe_kp kp3).trans wipe_wipe] at ok5
              refine ⟨F4, wipeR ρ4 vs, fps5, fr2, acc, accD, fa, ok5, i4, hH4, hr4, by omega, ?_, nf4, (evTo F4 H4 fps4 ev34).sub fun a z => ?_, er⟩
              · refine List.nodup_append.mpr ⟨ok5.nd, List.nodup_append.mpr ⟨n7, n3, fun a z b e => n4 a (fr2_fr a z) b e⟩, fun a z b e y => ?_⟩
                subst y
                exact dis4 a e (sub5.subset z)
              · simp only [List.mem_append] at z ⊢
                exact z.imp (fun y => sub5.subset y) id
            | true =>
              simp only at er
              rw [if_pos rfl]
              refine ⟨F4, ρ4, fps4, ok4, ?_⟩
              show tR K T W0 (m ρ4).own F4 ρ4 fps4 σ3 H4 _
              cases he : (m ρ4).own with
              | bad => rw [he] at er; simp only at er; rw [← er] at w; exact w
              | exc C fs st => rw [he] at er; simp only at er; rw [← er] at w; exact w.elim
              | ok y ly sy ρ5 =>
                have := own_ok (K := K) he
                subst this
                rw [he] at er
                simp only at er
                intro v F5 H5 fps5 fy v5 ev5 sb5
                have ev35 := ev34.trans ev5
                obtain ⟨i5, hH5, hr5, nf5, dis5⟩ := stand F5 H5 (fps5 ++ fy) ev35
                have hlt : acc.length < sizeLine := by
                  rw [reps_len hr]
                  exact Nat.lt_of_le_of_lt hlen (Nat.lt_of_lt_of_le hi hl)
                refine ⟨acc, hH5, hlt, ?_⟩
                -- the new list grows
                have mkD : ∀ a ∈ [D], ∃ o, H5 a = some o ∧ MutK o := fun a z => by
                  rw [List.mem_singleton.mp z]; exact ⟨_, hH5, trivial⟩
                have nFD : ∀ a ∈ [D], ¬ F5 a := fun a z => by rw [List.mem_singleton.mp z]; exact nf5 D (by simp)
                have kD : Keeps [D] F5 H5 F5 (upd H5 D (.lst (acc ++ [v]))) := ⟨fun b o hb e _ => .inl (by rw [upd_ne (fun z => hb (by simp [z]))]; exact e), fun _ z => z⟩
                have v5n := v5.nd
                simp only [List.nodup_append] at v5n
                have Dn : ∀ a, a ∈ fps5 ∨ a ∈ fy → a ∉ [D] := fun a z w => by
                  have := List.mem_singleton.mp w
                  subst this
                  exact dis5 _ (by simp) (List.mem_append.mpr z)
                have n3' := List.nodup_cons.mp n3
                have okG : Ok K T F5 (upd H5 D (.lst (acc ++ [v]))) σ3 ρ5 fps5 := ⟨renv_map (S := fps5) (fun {v d f} r hf => r.keep kD mkD nFD fun a z => ⟨Dn a (.inl (hf a z)), v5.ok.nf a (hf a z)⟩) v5.ok.env fun a z => z, v5.ok.nd, v5.ok.nf, fun a z => by
                  obtain ⟨o, e, nt⟩ := v5.ok.lv a z
                  by_cases ha : a = D
                  · subst ha; exact absurd z (nf5 _ (by simp))
                  · exact ⟨o, by rw [upd_ne ha]; exact e, nt⟩, fun p hp => by
                  obtain ⟨ps, h1, h2, h3⟩ := v5.ok.tb p hp
                  have hpD : p.1 ≠ D := fun e => by rw [e, hH5] at h1; cases h1
                  refine ⟨ps, by rw [upd_ne hpD]; exact h1, h2, fun pos cv hc => ?_⟩
                  obtain ⟨c, e1, e2⟩ := h3 pos cv hc
                  refine ⟨c, e1, ?_⟩
                  rw [upd_ne (fun e => by rw [e, hH5] at e2; cases e2)]
                  exact e2⟩
                obtain ⟨fps6, ok6, sub6⟩ := okG.wipe vs
                rw [(wipe_kp kp3).trans wipe_wipe] at ok6
                have i6 := gv.keep _ _ _ _ _ _ _ i5 kD mkD nFD fun a z => ⟨fun w => by
                  have := List.mem_singleton.mp w
                  subst this
                  exact n4 _ (fr2_fr _ z) _ (by simp) rfl, nf5 a (by simp [z])⟩
                have hr6 : Reps K F5 (upd H5 D (.lst (acc ++ [v]))) (acc ++ [v]) (accD ++ [y]) (fa ++ fy) := Reps.app (hr5.keep kD mkD nFD fun a z => ⟨fun w => by
                  have := List.mem_singleton.mp w
                  subst this
                  exact n3'.1 z, nf5 a (by simp [z])⟩) (Reps.single (v5.rep.keep kD mkD nFD fun a z => ⟨Dn a (.inr z), v5.nf a z⟩))
                refine ⟨F5, wipeR ρ5 vs, fps6, fr2, acc ++ [v], accD ++ [y], fa ++ fy, ok6, i6, upd_same, hr6, by simp; omega, ?_, fun a z => ?_, ?_, er⟩
                · refine List.nodup_append.mpr ⟨ok6.nd, List.nodup_append.mpr ⟨n7, List.nodup_cons.mpr ⟨fun z => ?_, List.nodup_append.mpr ⟨n3'.2, v5n.2.1, fun a z b e w => ?_⟩⟩, fun a z b e w => ?_⟩, fun a z b e w => ?_⟩
                  · rcases List.mem_append.mp z with z | z
                    · exact n3'.1 z
                    · exact dis5 D (by simp) (List.mem_append_right _ z)
                  · subst w
                    exact dis5 a (by simp [z]) (List.mem_append_right _ e)
                  · subst w
                    simp only [List.mem_cons, List.mem_append] at e
                    rcases e with e | e | e
                    · exact n4 a (fr2_fr a z) a (by simp [e]) rfl
                    · exact n4 a (fr2_fr a z) a (by simp [e]) rfl
                    · exact dis5 a (by simp [z]) (List.mem_append_right _ e)
                  · subst w
                    have z' := sub6.subset z
                    simp only [List.mem_append, List.mem_cons] at e
                    rcases e with e | e | e | e
                    · exact dis5 a (by simp [e]) (List.mem_append_left _ z')
                    · exact dis5 a (by simp [e]) (List.mem_append_left _ z')
                    · exact dis5 a (by simp [e]) (List.mem_append_left _ z')
                    · exact v5n.2.2 a z' a e rfl
                · simp only [List.mem_append, List.mem_cons] at z
                  rcases z with z | z | z | z
                  · exact nf5 a (by simp [z])
                  · exact nf5 a (by simp [z])
                  · exact nf5 a (by simp [z])
                  · exact v5.nf a z
                · have evB := evTo F5 H5 (fps5 ++ fy) ev35
                  have evC : Evo F5 H5 ((fps5 ++ fy) ++ (fr2 ++ D :: fa)) F5 (upd H5 D (.lst (acc ++ [v]))) ((fps5 ++ fy) ++ (fr2 ++ D :: fa)) := ⟨fun b o hb e nt => kD.keep b o (fun z => hb (by rw [List.mem_singleton.mp z]; simp)) e nt, fun a z => .inl z, fun _ z => z, fun _ z => .inl z⟩
                  refine (evB.trans evC).sub fun a z => ?_
                  simp only [List.mem_append, List.mem_cons] at z ⊢
                  rcases z with z | z | z | z | z
                  · exact .inl (.inl (sub6.subset z))
                  · exact .inr (.inl z)
                  · exact .inr (.inr (.inl z))
                  · exact .inr (.inr (.inr z))
                  · exact .inl (.inr z)
theorem pts_nil' {K : Frag} {Y : Cx} : PTs Y [] (tT K T W IL.tYes) := ⟨fun pins s σ H Q I ⟨F, ρ, fps, ok, w⟩ => pts_nil.run pins s σ H Q I (w F H fps ok Evo.refl Stb.refl)⟩
end
end IS
end
section
set_option Elab.async false
set_option linter.all false
set_option autoImplicit false
set_option maxRecDepth 100000
set_option maxHeartbeats 1000000
/-! IS, part 9: what a pure def promises; its calls. -/
namespace IS
open PySem PySem.Spec L2 IL LamX
section
variable {X : Cx} {pins : List (Addr × Obj)} {σ : L2.St} {H H' : Hp} {s : Shared}
/-- locked dicts are opened again -/
theorem unlocks (I : Inv X pins σ H s) (h : ∀ a, H' a = H a ∨ ∃ od u, H a = some (.frz od u) ∧ isD u ∧ H' a = some u ∧ ∀ o' u', X.H_0 a ≠ some (.frz o' u')) : Inv X pins σ H' s := by
  have same : ∀ b o, H b = some o → (∀ o' u', o ≠ .frz o' u') → H' b = some o := fun b o e hne => by
    rcases h b with q | ⟨od, u, q, _⟩
    · rw [q]; exact e
    · rw [e] at q; exact absurd (Option.some.inj q) (hne _ _)
  have none' : ∀ b, H b = none → H' b = none := fun b e => by
    rcases h b with q | ⟨od, u, q, _⟩
    · rw [q]; exact e
    · rw [e] at q; cases q
  refine ⟨I.ok, I.os, I.bare, ⟨I.base.keep, I.base.slot, fun b o e n hx => none' b (I.base.free b o e n hx), I.base.there, fun b xs e => same b _ (I.base.tups b xs e) (fun _ _ z => nomatch z), fun b o x e => ?_, fun b ps e => ?_⟩, I.loc, I.cell, none' _ I.free, fun x c e => none' c (I.freeC x c e), fun p hp => ?_, fun b o e => ?_, I.len⟩
  · have q := I.base.frzs b o x e
    rcases h b with r | ⟨od, u, r, _, _, hn⟩
    · rw [r]; exact q
    · exact absurd e (hn _ _)
  · obtain ⟨m, q⟩ := I.base.tbls b ps e
    exact ⟨m, same b _ q (fun _ _ z => nomatch z)⟩
  · obtain ⟨e, n, r⟩ := I.pin p hp
    exact ⟨e, none' _ n, r⟩
  · have stay : ∀ {u : HO}, ObjOk X.prog X.w H s.heap b u → ObjOk X.prog X.w H' s.heap b u := fun x => x.stay (fun c v _ q => q) (fun c q => same c _ q (fun _ _ z => nomatch z)) fun c xs q => same c _ q (fun _ _ z => nomatch z)
    rcases h b with r | ⟨od, u, r, _, r2, _⟩
    · rw [r] at e
      exact stay (I.hok b o e)
    · rw [r2] at e
      cases e
      obtain ⟨_, x⟩ := I.hok b _ r
      exact stay x
end

/-! ### arguments that are only seen -/
section
variable {K : Frag} {F F' : Addr → Prop} {H H' : Hp} {σ : L2.St}
/-- some slots frozen: the footprints fall apart into those that are frozen and the rest -/
theorem renv_frzI : ∀ {σ : L2.St} {ρ : Ro} {fps : List Addr} (c : Nat → Bool), REnv K F H σ ρ fps → fps.Nodup → (∀ a ∈ fps, ¬ F a) → ∃ (fz fk : List Addr), (∀ a, a ∈ fps ↔ a ∈ fz ∨ a ∈ fk) ∧ (∀ a ∈ fz, a ∉ fk) ∧ ((∀ i, c i = false) → fz = []) ∧ fk.Sublist fps ∧
    (∀ (i : Nat) (v : V), c i = true → σ[i]? = some (some v) → ∀ d, ρ[i]? = some (some d) → ∃ f, Rep K F H v d f ∧ ∀ a ∈ f, a ∈ fz) ∧
    ∀ F' : Addr → Prop, (∀ a, F a → F' a) → (∀ a ∈ fz, F' a) → (∀ a ∈ fk, ¬ F' a) → REnv K F' H σ (frzI c ρ) fk
  | _, _, _, c, .nil, _, _ => ⟨[], [], by simp, by simp, fun _ => rfl, .slnil, by simp, fun _ _ _ _ => .nil⟩
  | _, _, _, c, .skip r, nd, nf => by
    obtain ⟨fz, fk, h1, h2, h6, h3, h4, h5⟩ := renv_frzI (fun i => c (i + 1)) r nd nf
    refine ⟨fz, fk, h1, h2, fun hc => h6 fun i => hc (i + 1), h3, fun i v hc e d ed => ?_, fun F' a b x => ?_⟩
    · cases i with
      | zero => simp at ed
      | succ i => exact h4 i v hc (by simpa using e) d (by simpa using ed)
    · unfold frzI
      have e0 : (if c 0 = true then (none : Option D).map D.frz else none) = none := by split <;> rfl
      rw [e0]
      exact .skip (h5 F' a b x)
  | _, _, _, c, .cons (v := v) (d := d) (fp := fp) (fps := fps) q r, nd, nf => by
    simp only [List.nodup_append] at nd
    obtain ⟨fz, fk, h1, h2, h6, h3, h4, h5⟩ := renv_frzI (fun i => c (i + 1)) r nd.2.1 fun a z => nf a (List.mem_append_right _ z)
    by_cases hc : c 0 = true
    · refine ⟨fp ++ fz, fk, fun a => ?_, fun a z w => ?_, fun hz => absurd (hz 0) (by rw [hc]; simp), h3.trans (List.sublist_append_right _ _), fun i v' hci e d' ed => ?_, fun F' a b x => ?_⟩
      · simp only [List.mem_append, h1]
        exact or_assoc.symm
      · rcases List.mem_append.mp z with z | z
        · exact nd.2.2 a z a (h3.subset w) rfl
        · exact h2 a z w
      · cases i with
        | zero =>
          simp at e ed
          subst e ed
          exact ⟨fp, q, fun a z => List.mem_append_left _ z⟩
        | succ i =>
          obtain ⟨f, r1, r2⟩ := h4 i v' hci (by simpa using e) d' (by simpa using ed)
          exact ⟨f, r1, fun a z => List.mem_append_right _ (r2 a z)⟩
      · unfold frzI
        rw [if_pos hc]
        exact .cons (fp := []) (q.frz a fun x z => b x (List.mem_append_left _ z)) (h5 F' a (fun x z => b x (List.mem_append_right _ z)) x)
    · refine ⟨fz, fp ++ fk, fun a => ?_, fun a z w => ?_, fun hc => h6 fun i => hc (i + 1), (List.Sublist.refl fp).append h3, fun i v' hci e d' ed => ?_, fun F' a b x => ?_⟩
      · simp only [List.mem_append, h1]
        grind
      · rcases List.mem_append.mp w with w | w
        · exact nd.2.2 a w a ((h1 a).mpr (.inl z)) rfl
        · exact h2 a z w
      · cases i with
        | zero => exact absurd hci hc
        | succ i => exact h4 i v' hci (by simpa using e) d' (by simpa using ed)
      · unfold frzI
        rw [if_neg hc]
        exact .cons (q.keep (S := []) ⟨fun _ _ _ e _ => .inl e, a⟩ nomem' nomem' fun y z => ⟨List.not_mem_nil, x y (List.mem_append_left _ z)⟩) (h5 F' a b fun y z => x y (List.mem_append_right _ z))
end
def tPR (K : Frag) (T : Tb) (W : WK) (r : PR) (F : Addr → Prop) (ρ : Ro) (fps : List Addr) : TA := fun σ H Q => match r with
  | .ok ds is st ρ' => ∀ (vs : List V) (F' : Addr → Prop) (H' : Hp) (fps' fd : List Addr), Ok K T F' H' σ ρ' fps' → PVs K F' H' σ ρ' vs ds is fd → (fps' ++ fd).Nodup → (∀ a ∈ fd, ¬ F' a) → Evo F H fps F' H' (fps' ++ fd) → Stb st ρ ρ' fps fps' H F' H' → Q vs H'
  | .exc C fs st => ExcW K T W F H fps C fs st
  | .bad => False
def tP (K : Frag) (T : Tb) (W : WK) (m : Pe) : TA := fun σ H Q => ∃ F ρ fps, Ok K T F H σ ρ fps ∧ tPR K T W (m ρ) F ρ fps σ H Q
section
variable {X : Cx} {T : Tb} {W : WK} {e : Expr} {es : List Expr} {m : Ex} {ar : Pe} {F : Addr → Prop} {H : Hp} {σ : L2.St} {ρ : Ro} {fps : List Addr}
theorem tP_nil {K : Frag} {Q : List V → Hp → Prop} (h : tP K T W pNil σ H Q) : Q [] H := by
  obtain ⟨F, ρ, fps, ok, q⟩ := h
  exact q [] F H fps [] ok .nil (by simpa using ok.nd) nomem' (by simpa using Evo.refl) Stb.refl
theorem pp_nil : PA X [] (tP X.K T W pNil) := ⟨fun pos pins s σ H Q I ⟨F, ρ, fps, ok, q⟩ => pa_nil.run pos pins s σ H Q I (q [] F H fps [] ok .nil (by simpa using ok.nd) nomem' (by simpa using Evo.refl) Stb.refl)⟩
theorem tP_cons {K : Frag} {Q : List V → Hp → Prop} (h : tP K T W (pCons m ar) σ H Q) : tE K T W m σ H fun v H1 => tP K T W ar σ H1 fun vs H2 => Q (v :: vs) H2 := by
  obtain ⟨F, ρ, fps, ok, q⟩ := h
  refine ⟨F, ρ, fps, ok, ?_⟩
  unfold pCons at q
  cases h1 : m ρ with
  | bad => rw [h1] at q; exact q
  | exc C fs st => rw [h1] at q; exact q
  | ok d l s1 ρ1 =>
    rw [h1] at q
    simp only at q
    cases h2 : ar ρ1 with
    | bad =>
      rw [h2] at q
      cases l with
      | none => exact fun v F1 H1 fps1 fd1 vo ev sb => q.elim
      | some l => exact fun v F1 H1 fps1 ok1 ev sb at1 g1 => q.elim
    | exc C fs st =>
      rw [h2] at q
      cases l with
      | none =>
        intro v F1 H1 fps1 fd1 vo ev sb
        refine ⟨F1, ρ1, fps1, vo.ok, ?_⟩
        rw [h2]
        exact ExcW.after (K := K) q ev sb (own_st vo.ok).1 (own_st vo.ok).2
      | some l =>
        intro v F1 H1 fps1 ok1 ev sb at1 g1
        refine ⟨F1, ρ1, fps1, ok1, ?_⟩
        rw [h2]
        exact ExcW.after (K := K) (fx := []) q (by simpa using ev) sb (own_st ok1).1 (own_st ok1).2
    | ok ds is s2 ρ2 =>
      rw [h2] at q
      simp only at q
      cases l with
      | none =>
        simp only at q
        intro v F1 H1 fps1 fd1 vo ev sb
        refine ⟨F1, ρ1, fps1, vo.ok, ?_⟩
        rw [h2]
        intro vs F2 H2 fps2 fd2 ok2 pv nd nf ev2 sb2
        obtain ⟨r, nf1, dis, e3⟩ := vo.aok.frame ev2
        cases r with
        | cons r q0 =>
          cases q0
          refine q (v :: vs) F2 H2 fps2 _ ok2 (.tmp r pv) ?_ ?_ ?_ (sb.trans sb2 ev2.fr)
          · have n1 := vo.nd
            simp only [List.nodup_append, List.mem_append, List.append_nil] at n1 nd dis ⊢
            grind
          · intro a z
            rcases List.mem_append.mp z with z | z
            · exact nf1 a (by simpa using z)
            · exact nf a z
          · exact (ev.trans e3).sub fun a z => by simp only [List.mem_append, List.append_nil] at z ⊢; grind
      | some l =>
        intro v F1 H1 fps1 ok1 ev sb at1 g1
        refine ⟨F1, ρ1, fps1, ok1, ?_⟩
        rw [h2]
        intro vs F2 H2 fps2 fd2 ok2 pv nd nf ev2 sb2
        by_cases hz : d.fz = true
        · simp only [hz, if_true] at q
          obtain ⟨pre, fd, post, e1, r1, _, _⟩ := ok1.at at1 g1
          have e0 := r1.fz hz
          subst e0
          have r2 := r1.keep ev2.keeps (renv_mutk ok1.env) ok1.nf nomem2
          exact q (v :: vs) F2 H2 fps2 ([] ++ fd2) ok2 (.tmp r2 pv) (by simpa using nd) (by simpa using nf) (by simpa using ev.trans ev2) (sb.trans sb2 ev2.fr)
        · simp only [hz, if_false] at q
          by_cases hs : (s2 || l.2.isEmpty) = true
          · rw [if_pos hs] at q
            cases g2 : ρ2.get l with
            | none => rw [g2] at q; exact q.elim
            | some d2 =>
              rw [g2] at q
              have at2 : AtL H2 σ l v := by
                rw [Bool.or_eq_true] at hs
                rcases hs with hs | hs
                · obtain ⟨_, _, k⟩ := sb2 hs
                  exact at1.keep k
                · obtain ⟨v0, a1, a2⟩ := at1
                  obtain ⟨i, p⟩ := l
                  have hp : p = [] := by simpa using hs
                  subst hp
                  cases a2
                  exact ⟨_, a1, .nil _⟩
              exact q (v :: vs) F2 H2 fps2 fd2 ok2 (.loc at2 g2 pv) nd nf (ev.trans ev2) (sb.trans sb2 ev2.fr)
          · rw [if_neg hs] at q; exact q.elim
theorem pp_cons (ha : PE X e (tE X.K T W m)) (hr : PA X es (tP X.K T W ar)) (hs : starEach (e :: es) X.env = (false, eval e X.env) :: starEach es X.env := by rfl) : PA X (e :: es) (tP X.K T W (pCons m ar)) :=
  ⟨fun pos pins s σ H Q I h => (pa_cons ha hr hs).run pos pins s σ H Q I (tP_cons h)⟩
end

/-! ### the promise -/
def spP (K : Frag) (T : Tb) (n : Nat) (f : Fp) : Sp := fun vs H Q E => vs.length = n ∧ ∃ F ds, Reps K F H vs ds [] ∧ (∀ a, F a → Live H a) ∧ Tabs T H ∧ match f ds with
  | .ret d => ∀ (v : V) (F' : Addr → Prop) (H' : Hp) (fd : List Addr), Rep K F' H' v d fd → fd.Nodup → (∀ a ∈ fd, ¬ F' a) → (∀ a, F' a → Live H' a) → Tabs T H' → Evo F H [] F' H' fd → Q v H'
  | .exc C fs => ExcW K T E F H [] C fs true
  | .bad => False
theorem Rep.atom {K : Frag} {F : Addr → Prop} {H : Hp} {v : V} {d : D} {f : List Addr} (r : Rep K F H v d f) (h : d.atom = true) : ∀ F H, Rep K F H v d [] := fun F H => by
  cases r with
  | non => exact .non
  | bl b => exact .bl b
  | int i => exact .int i
  | str x l => exact .str x l
  | ty n => exact .ty n
  | glo x => exact .glo x
  | _ => simp [D.atom] at h
theorem Tabs.same {T : Tb} {H H' : Hp} (t : Tabs T H) (h : ∀ b o, H b = some o → (∀ o' u', o ≠ .frz o' u') → H' b = some o ∨ MutK o) : Tabs T H' := fun p hp => by
  obtain ⟨ps, h1, h2, h3⟩ := t p hp
  refine ⟨ps, (h _ _ h1 (fun _ _ z => nomatch z)).elim id fun z => z.elim, h2, fun pos cv hc => ?_⟩
  obtain ⟨c, e1, e2⟩ := h3 pos cv hc
  exact ⟨c, e1, (h _ _ e2 (fun _ _ z => nomatch z)).elim id fun z => z.elim⟩
section
variable {X : Cx} {T : Tb} {W : WK} {F : Addr → Prop} {H : Hp} {σ : L2.St} {ρ : Ro} {fps : List Addr}
theorem frzs_map {ds : List D} : frzs ds = ds.map D.frz := by
  induction ds with
  | nil => rfl
  | cons d ds ih => rw [frzs, ih]; rfl
theorem PVs.frz {K : Frag} {F' : Addr → Prop} {fz : List Addr} {c : Nat → Bool} (hz : ∀ (i : Nat) (v : V), c i = true → σ[i]? = some (some v) → ∀ d, ρ[i]? = some (some d) → ∃ f, Rep K F H v d f ∧ ∀ a ∈ f, a ∈ fz) (hf : ∀ a, F a → F' a) (hz2 : ∀ a ∈ fz, F' a) :
    ∀ {vs : List V} {ds : List D} {is : List Nat} {fd : List Addr}, PVs K F H σ ρ vs ds is fd → (∀ i ∈ is, c i = true) → (∀ a ∈ fd, F' a) → Reps K F' H vs (frzs ds) []
  | _, _, _, _, .nil, _, _ => by rw [frzs]; exact .nil
  | _, _, _, _, .tmp r q, hi, hd => by
    rw [frzs]
    exact .cons (fp := []) (r.frz hf fun a z => hd a (List.mem_append_left _ z)) (PVs.frz hz hf hz2 q hi fun a z => hd a (List.mem_append_right _ z))
  | _, _, _, _, .loc (l := l) at1 g q, hi, hd => by
    rw [frzs]
    refine .cons (fp := []) ?_ (PVs.frz hz hf hz2 q (fun i z => hi i (List.mem_cons_of_mem _ z)) hd)
    obtain ⟨v0, h1, h2⟩ := at1
    unfold Ro.get at g
    cases e : ρ[l.1]? with
    | none => rw [e] at g; cases g
    | some od =>
      rw [e] at g
      cases od with
      | none => cases g
      | some d0 =>
        obtain ⟨f, r1, r2⟩ := hz l.1 v0 (hi _ (List.mem_cons_self ..)) h1 d0 e
        obtain ⟨pre, fd, post, e1, r3, _⟩ := focus r1 h2 g
        exact r3.frz hf fun a z => hz2 a (r2 a (by rw [e1]; simp [z]))
end
/-! ### owned data stands, whatever becomes of what is frozen -/
def Hard (o : HO) : Prop := ¬ MutK o ∧ ∀ od u, o = .frz od u → ¬ isD u
theorem rd_hard {H H' : Hp} {a : Addr} {vs : List V} (h : ∀ b o, H b = some o → Hard o → H' b = some o) (r : H a = some (.tup vs)) : H' a = some (.tup vs) :=
  h _ _ r ⟨fun z => z, fun _ _ z => nomatch z⟩
mutual
theorem Rep.hot {K : Frag} {F F' : Addr → Prop} {H H' : Hp} (h : ∀ b o, H b = some o → Hard o → H' b = some o) : ∀ {v : V} {d : D} {f : List Addr}, Rep K F H v d f → d.hot = true → (∀ a ∈ f, H' a = H a) → Rep K F' H' v d f
  | _, _, _, .non, _, _ => .non
  | _, _, _, .bl b, _, _ => .bl b
  | _, _, _, .int b, _, _ => .int b
  | _, _, _, .str b l, _, _ => .str b l
  | _, _, _, .ty b, _, _ => .ty b
  | _, _, _, .glo b, _, _ => .glo b
  | _, _, _, .lstO e l r, z, hf => .lstO ((hf _ (List.mem_cons_self ..)).trans e) l (Reps.hot h r (by simpa [D.hot] using z) fun a z => hf a (List.mem_cons_of_mem _ z))
  | _, _, _, .lstF f e l r, z, _ => by simp [D.hot] at z
  | _, _, _, .scr (a := a) (ns := ns) e, _, _ => .scr fun H2 h2 => e H2 fun o ho => h2 o (h _ _ ho ⟨fun z => z, fun _ _ z => by cases z; exact fun w => w⟩)
  | _, _, _, .lam x e1 e2, _, _ => .lam x (h _ _ e1 ⟨fun z => z, fun _ _ z => by cases z⟩) (h _ _ e2 ⟨fun z => z, fun _ _ z => by cases z⟩)
  | _, _, _, .cel e l r, z, _ => by simp [D.hot] at z
  | _, _, _, .err e1 e2 l r, z, _ => .err (h _ _ e1 ⟨fun z => z, fun _ _ z => by cases z⟩) (h _ _ e2 ⟨fun z => z, fun _ _ z => by cases z⟩) l (Reps.hot h r (by simpa [D.hot] using z) fun a z => nomatch z)
  | _, _, _, .err0 e, _, _ => .err0 (h _ _ e ⟨fun z => z, fun _ _ z => by cases z⟩)
  | _, _, _, .tup e l r, z, hf => .tup (rd_hard h e) l (Reps.hot h r (by simpa [D.hot] using z) hf)
  | _, _, _, .dctO e c l r, z, hf => .dctO ((hf _ (List.mem_cons_self ..)).trans e) c l (Reps.hot h r (by simpa [D.hot] using z) fun a z => hf a (List.mem_cons_of_mem _ z))
  | _, _, _, .dctF f e c l r, z, _ => by simp [D.hot] at z
  | _, _, _, .insO e l r, z, hf => .insO ((hf _ (List.mem_cons_self ..)).trans e) l (Reps.hot h r (by simpa [D.hot] using z) fun a z => hf a (List.mem_cons_of_mem _ z))
  | _, _, _, .insF f e l r, z, _ => by simp [D.hot] at z
theorem Reps.hot {K : Frag} {F F' : Addr → Prop} {H H' : Hp} (h : ∀ b o, H b = some o → Hard o → H' b = some o) : ∀ {vs : List V} {ds : List D} {f : List Addr}, Reps K F H vs ds f → hots ds = true → (∀ a ∈ f, H' a = H a) → Reps K F' H' vs ds f
  | _, _, _, .nil, _, _ => .nil
  | _, _, _, .cons r q, z, hf => by
    unfold hots at z
    simp only [Bool.and_eq_true] at z
    exact .cons (Rep.hot h r z.1 fun a z => hf a (List.mem_append_left _ z)) (Reps.hot h q z.2 fun a z => hf a (List.mem_append_right _ z))
end
end IS
end
section
set_option Elab.async false
set_option linter.all false
set_option autoImplicit false
set_option maxRecDepth 100000
set_option maxHeartbeats 1000000
/-! IS, part 10: a pure def's call, and its body. -/
namespace IS
open PySem PySem.Spec PyProof.Rows L2 IL LamX
section
variable {X : Cx} {T : Tb} {W : WK} {e : Expr} {F : Addr → Prop} {H : Hp} {σ : L2.St} {ρ : Ro} {fps : List Addr} {f : Fp} {p : Pe} {n : Nat}
/-- locked dicts of this call are opened again -/
def Unl (X : Cx) (H2 H3 : Hp) : Prop := ∀ a, H3 a = H2 a ∨ ∃ od u, H2 a = some (.frz od u) ∧ isD u ∧ H3 a = some u ∧ ∀ o' u', X.H_0 a ≠ some (.frz o' u')
theorem seen_key {pins : List (Addr × Obj)} {s : Shared} {Q : VK} (I : Inv X pins σ H s) (hq : tE X.K T W (eCallP f p) σ H Q) (hn : ∀ ρ ds is st ρ', p ρ = .ok ds is st ρ' → ds.length = n) :
    tP X.K T W p σ H (fun vs H1 => spP X.K T n f vs H1 (fun v H2 => ∃ H3 : Hp, Unl X H2 H3 ∧ Q v H3) W) := by
    obtain ⟨F, ρ, fps, ok, q⟩ := hq
    refine ⟨F, ρ, fps, ok, ?_⟩
    unfold eCallP at q
    cases h1 : p ρ with
    | bad => rw [h1] at q; exact q
    | exc C fs st => rw [h1] at q; exact q
    | ok ds is st ρ1 =>
      rw [h1] at q
      simp only at q
      intro vs F1 H1 fps1 fd1 ok1 pv nd1 nf1 ev1 sb1
      obtain ⟨fz, fk, a1, a2, a6, a3, a4, a5⟩ := renv_frzI (fun i => is.contains i) ok1.env ok1.nd ok1.nf
      -- frozen for the call: what the arguments may reach
      have hFs : ∀ a, F1 a → (F1 a ∨ a ∈ fz ∨ a ∈ fd1) := fun a z => .inl z
      have mkS : ∀ a, a ∈ fz ∨ a ∈ fd1 → ∃ o, H1 a = some o ∧ MutK o := fun a z => z.elim (fun z => renv_mutk ok1.env a ((a1 a).mpr (.inl z))) (pv.mutk a)
      have lvS : ∀ a, (F1 a ∨ a ∈ fz ∨ a ∈ fd1) → Live H1 a := fun a z => z.elim (ok1.lv a) fun z => live_of (mkS a z)
      have reps : Reps X.K (fun a => F1 a ∨ a ∈ fz ∨ a ∈ fd1) H1 vs (frzs ds) [] := pv.frz (c := fun i => is.contains i) a4 hFs (fun a z => .inr (.inl z)) (fun i z => by simpa using z) fun a z => .inr (.inr z)
      have nd1' : ∀ a ∈ fps1, a ∉ fd1 := fun a z w => by
        simp only [List.nodup_append] at nd1
        exact nd1.2.2 a z a w rfl
      refine ⟨by rw [pv.len]; exact hn _ _ _ _ _ h1, _, frzs ds, reps, lvS, ok1.tb, ?_⟩
      cases hf : f (frzs ds) with
      | bad => rw [hf] at q; exact q
      | exc C fs =>
        rw [hf] at q
        simp only at q
        intro cls dx F2 H2 hr hv ht e2
        have e2k : ∀ b o, H1 b = some o → NT o → Kb F2 b o H2 := fun b o en nt => e2.keep b o List.not_mem_nil en nt
        have e2n : ∀ a, F2 a → (F1 a ∨ a ∈ fz ∨ a ∈ fd1) ∨ ¬ Live H1 a := fun a z => (e2.fn a z).imp id fun y => y.elim (fun y => absurd y List.not_mem_nil) id
        refine q cls dx F2 H2 hr hv ht ?_
        cases hst : (st && is.isEmpty) with
        | false =>
          show Evo F H fps F2 H2 []
          refine ev1.trans ⟨fun b o _ en nt => e2k b o en nt, nomem', fun a z => e2.fr a (.inl z), fun a z => ?_⟩
          rcases e2n a z with (y | y | y) | y
          · exact .inl y
          · exact .inr (.inl (List.mem_append_left _ ((a1 a).mpr (.inl y))))
          · exact .inr (.inl (List.mem_append_right _ y))
          · exact .inr (.inr y)
        | true =>
          simp only [Bool.and_eq_true] at hst
          have hz : fz = [] := a6 fun i => by
            have : is = [] := by simpa using hst.2
            rw [this]; rfl
          obtain ⟨hρ, hfp, k⟩ := sb1 hst.1
          have fr12 : ∀ a, F1 a → F2 a := fun a z => e2.fr a (.inl z)
          show Evo F H [] F2 H2 []
          refine ⟨fun b o _ en nt => (k b o en nt).trans (e2k b) nt fr12, nomem', fun a z => fr12 a (ev1.fr a z), fun a z => ?_⟩
          rcases e2n a z with (y | y | y) | y
          · rcases ev1.fn a y with w | w | w
            · exact .inl w
            · exact absurd y (ok1.nf a (by rw [hfp]; exact w))
            · exact .inr (.inr w)
          · rw [hz] at y; exact absurd y List.not_mem_nil
          · rcases ev1.new a (List.mem_append_right _ y) with w | w
            · exact absurd y (nd1' a (by rw [hfp]; exact w))
            · exact .inr (.inr w)
          · exact .inr (.inr fun ⟨o, en, nt⟩ => y ((k a o en nt).live nt))
      | ret d =>
        rw [hf] at q
        simp only at q
        intro v F2 H2 fd2 rv nd2 nf2 lv2 tb2 e2
        have e2k : ∀ b o, H1 b = some o → NT o → Kb F2 b o H2 := fun b o en nt => e2.keep b o List.not_mem_nil en nt
        have e2n : ∀ a, F2 a → (F1 a ∨ a ∈ fz ∨ a ∈ fd1) ∨ ¬ Live H1 a := fun a z => (e2.fn a z).imp id fun y => y.elim (fun y => absurd y List.not_mem_nil) id
        have e2w : ∀ a ∈ fd2, ¬ Live H1 a := fun a z => (e2.new a z).elim (fun y => absurd y List.not_mem_nil) id
        have lv1 : ∀ a ∈ fps1, Live H1 a := (own_st ok1).2
        have fkF : ∀ a ∈ fk, ¬ F2 a := fun a z w => by
          have zf : a ∈ fps1 := (a1 a).mpr (.inr z)
          rcases e2n a w with (y | y | y) | y
          · exact ok1.nf a zf y
          · exact a2 a y z
          · exact nd1' a zf y
          · exact y (lv1 a zf)
        by_cases hA : (d.hot || is.isEmpty) = true
        · rw [if_pos hA] at q
          -- back to the state ahead
          have H3d : ∀ a, (fun a => if a ∈ fz then H1 a else H2 a) a = (if a ∈ fz then H1 a else H2 a) := fun a => rfl
          generalize hH3 : (fun a => if a ∈ fz then H1 a else H2 a) = H3 at H3d
          have H3y : ∀ a ∈ fz, H3 a = H1 a := fun a z => by rw [H3d, if_pos z]
          have H3n : ∀ a, a ∉ fz → H3 a = H2 a := fun a z => by rw [H3d, if_neg z]
          have k13 : ∀ b o, H1 b = some o → NT o → Kb (fun a => F2 a ∧ a ∉ fz) b o H3 := fun b o en nt => by
            by_cases hb : b ∈ fz
            · exact .inl ((H3y b hb).trans en)
            · rcases e2k b o en nt with y | ⟨y1, y2, od, y3⟩
              · exact .inl ((H3n b hb).trans y)
              · exact .inr ⟨⟨y1, hb⟩, y2, od, (H3n b hb).trans y3⟩
          have fr13 : ∀ a, F1 a → F2 a ∧ a ∉ fz := fun a z => ⟨e2.fr a (.inl z), fun w => ok1.nf a ((a1 a).mpr (.inl w)) z⟩
          have nf3 : ∀ a ∈ fps1, ¬ (F2 a ∧ a ∉ fz) := fun a z w => by
            rcases (a1 a).mp z with y | y
            · exact w.2 y
            · exact fkF a y w.1
          have env3 : REnv X.K (fun a => F2 a ∧ a ∉ fz) H3 σ ρ1 fps1 := renv_map (S := fps1) (fun {v d f} r hf => r.keep (S := []) ⟨fun b o _ en nt => k13 b o en nt, fr13⟩ nomem' nomem' fun a z => ⟨List.not_mem_nil, nf3 a (hf a z)⟩) ok1.env fun a z => z
          have tb3 : Tabs T H3 := Tabs.same tb2 fun b o en hne => by
            by_cases hb : b ∈ fz
            · obtain ⟨o1, y1, y2⟩ := mkS b (.inl hb)
              rcases e2k b o1 y1 (nt_of_mutK y2) with y | ⟨_, _, od, y⟩
              · rw [en] at y; cases y; exact .inr y2
              · rw [en] at y; cases y; exact absurd rfl (hne _ _)
            · exact .inl ((H3n b hb).trans en)
          have ok3 : Ok X.K T (fun a => F2 a ∧ a ∉ fz) H3 σ ρ1 fps1 := ⟨env3, ok1.nd, nf3, fun a z => by
            obtain ⟨o, y1, y2⟩ := lv2 a z.1
            exact ⟨o, (H3n a z.2).trans y1, y2⟩, tb3⟩
          have rv3 : Rep X.K (fun a => F2 a ∧ a ∉ fz) H3 v d fd2 := by
            by_cases hat : d.hot = true
            · refine rv.hot (fun b o e hh => ?_) hat fun a z => H3n a fun w => ?_
              · refine (H3n b fun w => ?_).trans e
                obtain ⟨o1, y1, y2⟩ := mkS b (.inl w)
                rcases e2k b o1 y1 (nt_of_mutK y2) with y | ⟨_, yd, od, y⟩
                · rw [e] at y; cases y; exact hh.1 y2
                · rw [e] at y; cases y; exact hh.2 _ _ rfl yd
              · exact e2w a z (lvS a (.inr (.inl w)))
            · have hz : fz = [] := a6 fun i => by
                have : is = [] := by simpa [hat] using hA
                rw [this]; rfl
              have eF : (fun a => F2 a ∧ a ∉ fz) = F2 := funext fun a => propext ⟨fun z => z.1, fun z => ⟨z, by rw [hz]; exact List.not_mem_nil⟩⟩
              have eH : H3 = H2 := funext fun a => H3n a (by rw [hz]; exact List.not_mem_nil)
              rw [eF, eH]
              exact rv
          refine ⟨H3, fun a => ?_, q v (fun a => F2 a ∧ a ∉ fz) H3 fps1 fd2 ⟨ok3, rv3, ?_, fun a z w => nf2 a z w.1⟩ ?_ ?_⟩
          · by_cases ha : a ∈ fz
            · obtain ⟨o1, y1, y2⟩ := mkS a (.inl ha)
              rcases e2k a o1 y1 (nt_of_mutK y2) with y | ⟨_, yd, od, y⟩
              · exact .inl (((H3y a ha).trans y1).trans y.symm)
              · refine .inr ⟨od, o1, y, yd, (H3y a ha).trans y1, fun o' u' w => ?_⟩
                have w2 := I.base.frzs a o' u' w
                rcases ev1.new a (List.mem_append_left _ ((a1 a).mpr (.inl ha))) with x | x
                · obtain ⟨o2, x1, x2⟩ := renv_mutk ok.env a x
                  rw [w2] at x1; cases x1; exact x2
                · exact x ⟨_, w2, fun ps z => nomatch z⟩
            · exact .inl (H3n a ha)
          · refine List.nodup_append.mpr ⟨ok1.nd, nd2, fun a z b w y => ?_⟩
            subst y
            exact e2w a w (lv1 a z)
          · refine ev1.trans ⟨fun b o _ en nt => k13 b o en nt, fun a z => ?_, fr13, fun a z => ?_⟩
            · rcases List.mem_append.mp z with z | z
              · exact .inl (List.mem_append_left _ z)
              · exact .inr (e2w a z)
            · rcases e2n a z.1 with (y | y | y) | y
              · exact .inl y
              · exact absurd y z.2
              · exact .inr (.inl (List.mem_append_right _ y))
              · exact .inr (.inr y)
          · intro hst
            obtain ⟨hρ, hfp, k⟩ := sb1 hst
            exact ⟨hρ, hfp, fun b o en nt => (k b o en nt).trans (k13 b) nt fr13⟩
        · rw [if_neg hA] at q
          have nfk : ∀ a ∈ fk, ¬ (F1 a ∨ a ∈ fz ∨ a ∈ fd1) := fun a z w => by
            have zf : a ∈ fps1 := (a1 a).mpr (.inr z)
            rcases w with y | y | y
            · exact ok1.nf a zf y
            · exact a2 a y z
            · exact nd1' a zf y
          have env1 := a5 (fun a => F1 a ∨ a ∈ fz ∨ a ∈ fd1) hFs (fun a z => .inr (.inl z)) nfk
          have env2 : REnv X.K F2 H2 σ (frzI (fun i => is.contains i) ρ1) fk := renv_map (S := fk) (fun {v d f} r hf => r.keep (S := []) e2.keeps nomem' nomem' fun a z => ⟨List.not_mem_nil, fkF a (hf a z)⟩) env1 fun a z => z
          refine ⟨H2, fun a => .inl rfl, q v F2 H2 fk fd2 ⟨⟨env2, ok1.nd.sublist a3, fkF, lv2, tb2⟩, rv, ?_, nf2⟩ ?_ Stb.no⟩
          · refine List.nodup_append.mpr ⟨ok1.nd.sublist a3, nd2, fun a z b w y => ?_⟩
            subst y
            exact e2w a w (lv1 a ((a1 a).mpr (.inr z)))
          · refine ev1.trans ⟨fun b o _ en nt => e2k b o en nt, fun a z => ?_, fun a z => e2.fr a (.inl z), fun a z => ?_⟩
            · rcases List.mem_append.mp z with z | z
              · exact .inl (List.mem_append_left _ ((a1 a).mpr (.inr z)))
              · exact .inr (e2w a z)
            · rcases e2n a z with (y | y | y) | y
              · exact .inl y
              · exact .inr (.inl (List.mem_append_left _ ((a1 a).mpr (.inl y))))
              · exact .inr (.inl (List.mem_append_right _ y))
              · exact .inr (.inr y)
theorem pe_seen (h : PE X e (fun σ H Q => tP X.K T W p σ H fun vs H1 => spP X.K T n f vs H1 Q W)) (hn : ∀ ρ ds is st ρ', p ρ = .ok ds is st ρ' → ds.length = n) : PE X e (tE X.K T W (eCallP f p)) := by
  refine ⟨fun pins s σ H Q I hq => ?_⟩
  refine wpAny_mono (h.run pins s σ H _ I (seen_key I hq hn)) (fun u s' hq => ?_) fun _ _ z => z
  obtain ⟨v, H2, I2, r, H3, h3, q3⟩ := hq
  exact ⟨v, H3, unlocks I2 h3, r, q3⟩
end

/-! ### calls, operations -/
section
variable {X : Cx} {T : Tb} {W : WK} {e : Expr} {f : Fp} {p : Pe} {n : Nat} {ma mb mc : Ex}
theorem pe_callP (h : PE X e (tCall (spP X.K T n f) [] W (tP X.K T W p))) (hn : ∀ ρ ds is st ρ', p ρ = .ok ds is st ρ' → ds.length = n) : PE X e (tE X.K T W (eCallP f p)) :=
  pe_seen (pe_weak h fun σ H Q ⟨F, ρ, fps, ok, q⟩ => ⟨F, ρ, fps, ok, by
    cases hr : p ρ with
    | bad => rw [hr] at q; exact q
    | exc C fs st => rw [hr] at q; exact q
    | ok ds is st ρ1 =>
      rw [hr] at q
      intro vs F1 H1 fps1 fd1 ok1 pv nd nf ev sb
      rw [List.append_nil]
      exact q vs F1 H1 fps1 fd1 ok1 pv nd nf ev sb⟩) hn
end

/-! ### the body of a pure def -/
theorem renv_start {K : Frag} {F : Addr → Prop} {H : Hp} {n : Nat} : ∀ {vs : List V} {ds : List D} {fp : List Addr}, Reps K F H vs ds fp → REnv K F H (vs.map some ++ List.replicate n none) (ds.map some ++ List.replicate n none) fp
  | _, _, _, .nil => by
    induction n with
    | zero => exact .nil
    | succ n ih => exact .skip ih
  | _, _, _, .cons r q => .cons r (renv_start q)
section
variable {P : Program} {w : World} {K : Frag} {mg : Str → Option Value} {base : Heap} {x qual : Str} {params : Arguments} {body : List Stmt} {scope : Scope} {f : Addr} {fd : FuncData} {N ps : List Str} {k n : Nat} {b : S} {T : Tb}
theorem fnok_P (Fd : FunD K x qual params body scope [] [] f fd) (Sc : FnScope N ps scope) (hN : N.length = ps.length + n)
    (hb : ∀ (cdv : Value) (A : Around) (outer : List Env) (s : Shared) (H : Hp) (E : XK), Room k (A.deeper (envOfC qual scope s.heap.objs.size f cdv)) → PSs (cxOf (L2.CX P w) P w K mg base N qual scope f cdv A outer s H E) body (tS K T E (fun _ => True) b)) :
    FnOk P w K mg base (L2.CX P w) (k + 1) f fd ps (spP K T ps.length (fnP n b)) := by
  refine Fd.ok Sc (fun vs H Q E h => h.1) (fun cdv A outer s H vs Q E hr h => ⟨_, hb cdv A outer s H E hr, ?_⟩)
  obtain ⟨hl, F, ds, rs, lv, tb, q⟩ := h
  have e1 : N.length - vs.length = n := by omega
  have env : REnv K F H (L2.start N vs) (ds.map some ++ List.replicate n none) [] := by
    unfold L2.start
    rw [e1]
    exact renv_start rs
  refine ⟨F, _, [], ⟨env, List.nodup_nil, nomem', lv, tb⟩, ?_⟩
  unfold fnP at q
  cases h1 : b (ds.map some ++ List.replicate n none) with
  | bad => rw [h1] at q; exact q
  | bk ρ' => rw [h1] at q; exact q.elim
  | ct ρ' => rw [h1] at q; exact q.elim
  | exc C fs => rw [h1] at q; exact ExcW.any (k := false) (fun cls dx F' H' a b c d => q cls dx F' H' a b c d)
  | nx ρ' =>
    rw [h1] at q
    intro σ' F' H' fps' ok' ev' _
    exact q .non F' H' [] .non List.nodup_nil nomem' ok'.lv ok'.tb (ev'.sub fun a z => absurd z List.not_mem_nil)
  | rt d ρ' =>
    rw [h1] at q
    intro σ' v F' H' fps' fd' vo ev' _
    exact q v F' H' fd' vo.rep (List.nodup_append.mp vo.nd).2.1 vo.nf vo.ok.lv vo.ok.tb (ev'.sub fun a z => List.mem_append_right _ z)
end
end IS
end
section
set_option linter.all false
set_option autoImplicit false
/-! Ops: what Python's operations do to data (Lean alone, over the library's own orders of data). -/
namespace IL
open PySem PySem.W
abbrev sz : Nat := 16777216
mutual
def D.py : D → PyData
  | .bl b => .bool b | .int i => .int i | .str x => .str x
  | .lst _ xs => .list (pys xs) | .cel _ xs => .list (pys xs) | .tup xs => .tuple (pys xs)
  | .non => .none | .ty _ => .none | .glo _ => .none | .scr _ => .none | .lam _ _ => .none | .err _ _ _ => .none | .dct _ _ _ _ => .none | .ins _ _ _ _ => .none
def pys : List D → List PyData
  | [] => []
  | x :: xs => x.py :: pys xs
end
mutual
/-- plain data of a depth of at most n -/
def D.pl : D → Nat → Bool
  | .lst _ xs, n => n != 0 && pls xs (n - 1)
  | .cel _ xs, n => n != 0 && pls xs (n - 1)
  | .tup xs, n => n != 0 && pls xs (n - 1)
  | .non, _ => true | .bl _, _ => true | .int _, _ => true | .str x, _ => PySem.PyData.strOk x
  | .ty _, _ => false | .glo _, _ => false | .scr _, _ => false | .lam _ _, _ => false | .err _ _ _, _ => false | .dct _ _ _ _, _ => false | .ins _ _ _ _, _ => false
def pls : List D → Nat → Bool
  | [], _ => true
  | x :: xs, n => x.pl n && pls xs n
end
/-- a key of a dict, of intL and texts or of tuples of such -/
def D.key0 : D → Option Key
  | .int i => some (.inl i)
  | .str x => some (.inr x)
  | _ => none
def keys0 : List D → Option (List Key)
  | [] => some []
  | d :: ds => match d.key0, keys0 ds with
    | some k, some ks => some (k :: ks)
    | _, _ => none
def D.dk : Bool → D → Option DK
  | false, d => d.key0.map .k
  | true, .tup ds => (keys0 ds).map .t
  | true, _ => none
/-! ### arithmetic -/
def fAdd : D → D → Option D
  | .int i, .int j => some (.int (i + j))
  | .str a, .str b => if a.length + b.length ≤ sz then some (.str (a ++ b)) else none
  | .lst _ xs, .lst _ ys => if xs.length + ys.length ≤ sz then some (.lst true (xs ++ ys)) else none
  | .tup xs, .tup ys => if xs.length + ys.length ≤ sz then some (.tup (xs ++ ys)) else none
  | _, _ => none
def fMul : D → D → Option D
  | .int i, .int j => if (-(2 ^ 64) < i ∧ i < 2 ^ 64) ∨ (-(2 ^ 64) < j ∧ j < 2 ^ 64) then some (.int (i * j)) else none
  | .lst _ xs, .int k => if -(2 ^ 63) ≤ k ∧ k < 2 ^ 63 ∧ xs.length * k.toNat ≤ sz then some (.lst true (List.replicate k.toNat xs).flatten) else none
  | _, _ => none
def fPow : D → D → Option D
  | .int i, .int j => if 0 ≤ j ∧ j ≤ 1000000 ∧ i.natAbs < 2 ^ 64 then some (.int (i ^ j.toNat)) else none
  | _, _ => none
def fDiv : D → D → Option D
  | .int i, .int j => if 0 < j ∧ j < 1073741824 then some (.int (i / j)) else none
  | _, _ => none
def fMod : D → D → Option D
  | .int i, .int j => if 0 < j then some (.int (i % j)) else none
  | _, _ => none
def fNeg : D → Option D
  | .int i => some (.int (-i))
  | _ => none
/-! ### comparisons -/
def fEq (a b : D) : Option D := if a.pl 60 && b.pl 60 then some (.bl (PyData.eqv a.py b.py)) else none
def fNe (a b : D) : Option D := if a.pl 60 && b.pl 60 then some (.bl (!PyData.eqv a.py b.py)) else none
def isNon : D → Bool
  | .non => true
  | _ => false
/-- the two can be compared by < -/
def ordd (a b : D) : Bool := a.pl 60 && b.pl 60 && alike a.py b.py && !isNon a
def fGt (a b : D) : Option D := if ordd a b then some (.bl (dataLt b.py a.py)) else none
def fGe (a b : D) : Option D := if ordd a b then some (.bl (!dataLt a.py b.py)) else none
/-- x in c -/
def inn (x c : D) : Option Bool := match c with
  | .lst m ys => if x.pl 60 && (D.lst m ys).pl 60 then some (ys.any fun y => PyData.eqv y.py x.py) else none
  | .tup ys => if x.pl 60 && (D.tup ys).pl 60 then some (ys.any fun y => PyData.eqv y.py x.py) else none
  | .str z => (match x with
    | .str c => if c.length = 1 then some (decide (c.cps.getD 0 0 ∈ z.cps.toList)) else none
    | _ => none)
  | .dct _ t ks _ => (x.dk t).map fun k => decide (k ∈ ks)
  | _ => none
def fNotIn (x c : D) : Option D := (inn x c).map fun b => .bl (!b)
def fIs : D → D → Option D
  | a, .non => some (.bl (isNon a))
  | _, _ => none
/-! ### built-ins -/
def fLen : D → Option D
  | .str x => some (.int x.length)
  | .lst _ xs => some (.int xs.length)
  | .tup xs => some (.int xs.length)
  | .cel _ xs => some (.int xs.length)
  | .dct _ _ ks _ => some (.int ks.length)
  | _ => none
/-- the built-in type's name -/
def D.tyn : D → Option String
  | .non => some "NoneType" | .bl _ => some "bool" | .int _ => some "int" | .str _ => some "str"
  | .lst _ _ => some "list" | .tup _ => some "tuple" | .dct _ _ _ _ => some "dict" | .cel _ _ => some "list"
  | _ => none
def subTy (m n : String) : Bool := m == n || (m == "bool" && n == "int")
def tysOf : List D → Option (List String)
  | [] => some []
  | .ty n :: ds => (tysOf ds).map (n :: ·)
  | _ => none
def fIsi (x c : D) : Option D := match x.tyn, c with
  | some m, .ty n => if n ∈ ["bool", "int", "str", "list", "tuple", "dict"] then some (.bl (subTy m n)) else none
  | some m, .tup cs => (match tysOf cs with
    | some ns => if ns.all (· ∈ ["bool", "int", "str", "list", "tuple", "dict"]) then some (.bl (ns.any (subTy m))) else none
    | none => none)
  | _, _ => none
/-- what list(x), tuple(x), sorted(x) walk -/
def D.items : D → Option (List D)
  | .lst _ xs => some xs
  | .tup xs => some xs
  | .dct _ _ ks _ => some (ks.map kD)
  | .scr ns => some (ns.map .int)
  | _ => none
def fList (x : D) : Option D := x.items.map (.lst true)
def fIntOf : D → Option D
  | .int i => some (.int i)
  | .bl b => some (.int (if b then 1 else 0))
  | _ => none
def bls : List D → Option (List Bool)
  | [] => some []
  | .bl b :: ds => (bls ds).map (b :: ·)
  | _ => none
def intL : List D → Option (List Int)
  | [] => some []
  | .int b :: ds => (intL ds).map (b :: ·)
  | _ => none
def fAll : D → Option D
  | .lst _ xs => (bls xs).map fun bs => .bl (bs.all id)
  | _ => none
/-! ### slices -/
def bd : D → Option (Option Int)
  | .non => some none
  | .int i => some (some i)
  | _ => none
def cutL {α : Type} (xs : List α) (lo hi : Option Int) : List α := (xs.drop (HT.sIx xs.length 0 lo)).take (HT.sIx xs.length xs.length hi - HT.sIx xs.length 0 lo)
/-- xs[lo:hi]; absent bounds: none -/
def fSl (x l h : D) : Option D := match bd l, bd h with
  | some lo, some hi => (match x with
    | .lst _ xs => some (.lst true (cutL xs lo hi))
    | .str z => some (.str (L2.cutS z lo hi))
    | .tup xs => if HT.sIx xs.length 0 lo = 0 ∧ HT.sIx xs.length xs.length hi = xs.length then none else some (.tup (cutL xs lo hi))
    | _ => none)
  | _, _ => none
/-- a sign of a text -/
def fSign : D → D → Option D
  | .str z, .int i => (L2.atI z.cps.toList i).map fun c => .str ⟨#[c]⟩
  | _, _ => none
/-! ### parts -/
def lkOf : D → D → Option LK
  | .lst _ xs, .int i => (L2.ixN xs.length i).map .ix
  | .tup xs, .int i => (L2.ixN xs.length i).map .ix
  | .dct _ t _ _, k => (k.dk t).map .key
  | _, _ => none
/-- x[i]: a place within x, or a sign of a text -/
def eSub (a i : Ex) : Ex := fun ρ => match a ρ with
  | .ok x lx sx ρ1 => (match i ρ1 with
    | .ok k _ sk ρ2 => if (lx.isNone || sk) && k.fz then (match fSign x k with
      | some z => .ok z none (sx && sk) ρ2
      | none => (match lkOf x k with
        | some lk => (match x.sub lk with
          | some c => .ok c (lx.map fun l => (l.1, l.2 ++ [lk])) (sx && sk) ρ2
          | none => .bad)
        | none => .bad)) else .bad
    | .exc C fs sk => .exc C fs (sx && sk)
    | .bad => .bad)
  | .exc C fs st => .exc C fs st
  | .bad => .bad
/-! ### as expressions -/
def g3 (f : D → D → D → Option D) : List D → Option D
  | [a, b, c] => f a b c
  | _ => none
def fl (f : List D → Option D) : Fp := fun ds => match f ds with
  | some z => .ret z
  | none => .bad
def eOp1 (f : D → Option D) (a : Ex) : Ex := eCallP (fl (g1 f)) (pCons a pNil)
def eOp2 (f : D → D → Option D) (a b : Ex) : Ex := eCallP (fl (g2 f)) (pCons a (pCons b pNil))
def eOp3 (f : D → D → D → Option D) (a b c : Ex) : Ex := eCallP (fl (g3 f)) (pCons a (pCons b (pCons c pNil)))
/-! ### methods that change their object -/
def mAppend : D → List D → Option (D × D)
  | .lst true xs, [y] => if xs.length < sz then some (.lst true (xs ++ [y]), .non) else none
  | _, _ => none
def mPop : D → List D → Option (D × D)
  | .lst true xs, [] => (match xs[xs.length - 1]? with
    | some y => some (.lst true xs.dropLast, y)
    | none => none)
  | .lst true xs, [.int i] => (match L2.ixN xs.length i with
    | some j => (match xs[j]? with
      | some y => some (.lst true (xs.eraseIdx j), y)
      | none => none)
    | none => none)
  | _, _ => none
def putD : List DK → List D → DK → D → List DK × List D
  | k :: ks, v :: vs, j, d => if k = j then (k :: ks, d :: vs) else let r := putD ks vs j d; (k :: r.1, v :: r.2)
  | _, _, j, d => ([j], [d])
/-- x[k] = v -/
def pSet : D → D → D → Option D
  | .lst true xs, .int i, v => (L2.ixN xs.length i).map fun j => .lst true (xs.set j v)
  | .dct true t ks vs, k, v => (match k.dk t with
    | some j => if ks.length < sz then some (let r := putD ks vs j v; .dct true t r.1 r.2) else none
    | none => none)
  | _, _, _ => none
/-! ### what is walked -/
/-- of frozen arguments -/
def qA (f : List D → Option (List D)) (a : A) : Sq := fun ρ => match a ρ with
  | .ok ds _ ρ' => if fzs ds then (match f ds with
    | some xs => .ok xs ρ'
    | none => .bad) else .bad
  | .exc C fs st => .exc C fs st
  | .bad => .bad
def wRange1 : List D → Option (List D)
  | [.int j] => if -(2 ^ 62) ≤ j ∧ j < 2 ^ 24 then some ((List.range j.toNat).map fun (i : Nat) => .int (i : Int)) else none
  | _ => none
def wZip : List D → Option (List D)
  | [.lst _ xs, .lst _ ys] => some ((xs.zip ys).map fun p => .tup [p.1, p.2])
  | [.tup xs, .tup ys] => some ((xs.zip ys).map fun p => .tup [p.1, p.2])
  | _ => none
/-! ### dict comprehensions -/
inductive DR where
  | ok (d : D) (ρ : Ro) | bad
end IL
end
section
set_option Elab.async false
set_option linter.all false
set_option autoImplicit false
set_option maxRecDepth 100000
set_option maxHeartbeats 1000000
/-! IS, part 11: operations. -/
namespace IS
open PySem PySem.Spec PySem.W PyProof.Rows L2 IL LamX
section
variable {K : PySem.W.Frag} {T : Tb} {W : WK} {F : Addr → Prop} {H : Hp} {σ : L2.St} {ρ : Ro} {fps : List Addr} {m : Ex} {p : Pe}
theorem tR_mono {r : R} {Q Q' : VK} (hq : ∀ v H, Q v H → Q' v H) (h : tR K T W r F ρ fps σ H Q) : tR K T W r F ρ fps σ H Q' := by
  cases r with
  | bad => exact h
  | exc C fs st => exact h
  | ok d l st ρ' =>
    cases l with
    | none => exact fun v F' H' fps' fd a b c => hq _ _ (h v F' H' fps' fd a b c)
    | some l => exact fun v F' H' fps' a b c d e => hq _ _ (h v F' H' fps' a b c d e)
theorem tE_mono {Q Q' : VK} (hq : ∀ v H, Q v H → Q' v H) (h : tE K T W m σ H Q) : tE K T W m σ H Q' := by
  obtain ⟨F, ρ, fps, ok, q⟩ := h
  exact ⟨F, ρ, fps, ok, tR_mono hq q⟩
theorem rL_of {n : Nat} {f : List D → Option D} {vs : List V} {Q : VK} (h : spP K T n (fl f) vs H Q W) : rL K T f vs H Q := by
  obtain ⟨_, F, ds, rs, lv, tb, q⟩ := h
  unfold fl at q
  cases hf : f ds with
  | none => rw [hf] at q; exact q.elim
  | some z =>
    rw [hf] at q
    exact ⟨F, ds, z, rs, ⟨lv, tb⟩, hf, q⟩
abbrev r1 (K : PySem.W.Frag) (T : Tb) (f : D → Option D) : V → Hp → VK → Prop := fun x H Q => rL K T (g1 f) [x] H Q
theorem reps1 {v : V} {ds : List D} (h : Reps K F H [v] ds []) : ∃ a, ds = [a] ∧ Rep K F H v a [] := by
  generalize hf : ([] : List Addr) = f at h
  cases h with
  | cons r q =>
    cases q
    obtain ⟨e, _⟩ := List.append_eq_nil_iff.mp hf.symm
    subst e
    exact ⟨_, rfl, r⟩
theorem reps_cons {v : V} {vs : List V} {ds : List D} (h : Reps K F H (v :: vs) ds []) : ∃ a ds', ds = a :: ds' ∧ Rep K F H v a [] ∧ Reps K F H vs ds' [] := by
  generalize hf : ([] : List Addr) = f at h
  cases h with
  | cons r q =>
    obtain ⟨e, e'⟩ := List.append_eq_nil_iff.mp hf.symm
    subst e e'
    exact ⟨_, _, rfl, r, q⟩
theorem r1_out {f : D → Option D} {x : V} {Q : VK} (h : r1 K T f x H Q) : ∃ F a z, Rep K F H x a [] ∧ Sty T F H ∧ f a = some z ∧ Res K T F H z Q := by
  obtain ⟨F, ds, z, rs, st, hf, q⟩ := h
  obtain ⟨a, rfl, ra⟩ := reps1 rs
  exact ⟨F, a, z, ra, st, hf, q⟩
theorem r2_out {f : D → D → Option D} {x y : V} {Q : VK} (h : r2 K T f x y H Q) : ∃ F a b z, Rep K F H x a [] ∧ Rep K F H y b [] ∧ Sty T F H ∧ f a b = some z ∧ Res K T F H z Q := by
  obtain ⟨F, ds, z, rs, st, hf, q⟩ := h
  obtain ⟨a, ds', rfl, ra, rs⟩ := reps_cons rs
  obtain ⟨b, rfl, rb⟩ := reps1 rs
  exact ⟨F, a, b, z, ra, rb, st, hf, q⟩
/-! ### answers -/
variable {z : D} {Q : VK} {v : V}
theorem Res.same (h : Res K T F H z Q) (st : Sty T F H) (r : Rep K F H v z []) : Q v H := h v F H [] r List.nodup_nil nomem' st.lv st.tb Evo.refl
theorem Res.tup {vs : List V} {ds : List D} {p : Addr} (h : Res K T F H (.tup ds) Q) (st : Sty T F H) (rs : Reps K F H vs ds []) (hl : vs.length ≤ sizeLine) (hp : H p = none) : Q (.ref p) (upd H p (.tup vs)) := by
  have s2 := sty_laid (o := .tup vs) st hp
  exact h (.ref p) F _ [] (.tup upd_same hl (rs.laid hp nomem')) List.nodup_nil nomem' s2.lv s2.tb ((evo_laid (f := []) hp).sub fun a z => nomatch z)
theorem Res.dct {t : Bool} {o : HO} {ks : List DK} {vs : List V} {ds : List D} {p : Addr} (h : Res K T F H (.dct true t ks ds) Q) (st : Sty T F H) (c : DctO t o ks vs) (rs : Reps K F H vs ds []) (hl : vs.length ≤ sizeLine) (hp : H p = none) : Q (.ref p) (upd H p o) := by
  have s2 := sty_laid (o := o) st hp
  exact h (.ref p) F _ [p] (.dctO upd_same c hl (rs.laid hp nomem')) (by simp) (fun a z w => by simp at z; subst z; exact live_none hp (st.lv _ w)) s2.lv s2.tb (by simpa using evo_laid (f := []) hp)
/-! ### what stands behind data -/
theorem Rep.inv_lst {m : Bool} {xs : List D} (r : Rep K F H v (.lst m xs) []) : ∃ a vs, v = .ref a ∧ Rd H a (.lst vs) ∧ vs.length ≤ sizeLine ∧ Reps K F H vs xs [] := by
  cases r with
  | lstF f e l q => exact ⟨_, _, rfl, e, l, q⟩
theorem Rep.inv_cel {b : Nat} {xs : List D} {f : List Addr} (r : Rep K F H v (.cel b xs) f) : ∃ od vs, v = .ref b ∧ H b = some (.frz od (.lst vs)) ∧ Rd H b (.lst vs) ∧ vs.length ≤ sizeLine ∧ Reps K F H vs xs [] := by
  cases r with
  | cel e l q => exact ⟨_, _, rfl, e, .inr ⟨_, e⟩, l, q⟩
theorem Rep.inv_tup {xs : List D} (r : Rep K F H v (.tup xs) []) : ∃ a vs, v = .ref a ∧ H a = some (.tup vs) ∧ vs.length ≤ sizeLine ∧ Reps K F H vs xs [] := by
  cases r with
  | tup e l q => exact ⟨_, _, rfl, e, l, q⟩
theorem Rep.inv_dct {m t : Bool} {ks : List DK} {xs : List D} (r : Rep K F H v (.dct m t ks xs) []) : ∃ a o vs, v = .ref a ∧ Rd H a o ∧ DctO t o ks vs ∧ vs.length ≤ sizeLine ∧ Reps K F H vs xs [] := by
  cases r with
  | dctF f e c l q => exact ⟨_, _, _, rfl, e, c, l, q⟩
theorem Rep.inv_int {i : Int} {f : List Addr} (r : Rep K F H v (.int i) f) : v = .int i := by cases r; rfl
theorem Rep.inv_bl {i : Bool} {f : List Addr} (r : Rep K F H v (.bl i) f) : v = .bl i := by cases r; rfl
theorem Rep.inv_str {x : Str} {f : List Addr} (r : Rep K F H v (.str x) f) : v = .str x ∧ x.length ≤ sizeLine := by cases r with | str _ l => exact ⟨rfl, l⟩
theorem Rep.inv_ty {x : String} {f : List Addr} (r : Rep K F H v (.ty x) f) : v = .ty x := by cases r; rfl
theorem Rep.inv_non {f : List Addr} (r : Rep K F H v .non f) : v = .non := by cases r; rfl
theorem sqL_of {a : Addr} {vs : List V} (h : Rd H a (.lst vs)) : SqL K H a vs := .inl h
theorem sqT_of {a : Addr} {vs : List V} (h : H a = some (.tup vs)) : SqT K H a vs := .inl (.inl h)
theorem sl_sz : sizeLine = sz := sizeLine_eq
end
/-! ### from readings to expressions -/
section
variable {X : Cx} {T : Tb} {W : WK} {e : Expr} {f : List D → Option D} {p : Pe} {n : Nat} {ma mb mc : Ex}
theorem pe_oN {r : List V → Hp → VK → Prop} (h : PE X e (tCB r (tP X.K T W p))) (hr : ∀ vs H Q, rL X.K T f vs H Q → r vs H Q) (hn : ∀ ρ ds is st ρ', p ρ = .ok ds is st ρ' → ds.length = n) : PE X e (tE X.K T W (eCallP (fl f) p)) :=
  pe_seen (pe_weak h fun σ H Q ⟨F, ρ, fps, ok, q⟩ => ⟨F, ρ, fps, ok, by
    cases hp : p ρ with
    | bad => rw [hp] at q; exact q
    | exc C fs st => rw [hp] at q; exact q
    | ok ds is st ρ1 =>
      rw [hp] at q
      exact fun vs F1 H1 fps1 fd1 a b c d e g => hr _ _ _ (rL_of (q vs F1 H1 fps1 fd1 a b c d e g))⟩) hn
theorem pn_nil : ∀ ρ ds is st ρ', pNil ρ = .ok ds is st ρ' → ds.length = 0 := fun ρ ds is st ρ' h => by unfold pNil at h; cases h; rfl
theorem pn_cons {q : Pe} {m : Ex} (h : ∀ ρ ds is st ρ', q ρ = .ok ds is st ρ' → ds.length = n) : ∀ ρ ds is st ρ', pCons m q ρ = .ok ds is st ρ' → ds.length = n + 1 := fun ρ ds is st ρ' hh => by
  unfold pCons at hh
  cases h1 : m ρ with
  | bad => rw [h1] at hh; cases hh
  | exc C fs st => rw [h1] at hh; cases hh
  | ok d l s1 ρ1 =>
    rw [h1] at hh
    simp only at hh
    cases h2 : q ρ1 with
    | bad => rw [h2] at hh; cases hh
    | exc C fs st => rw [h2] at hh; cases hh
    | ok ds2 is2 s2 ρ2 =>
      rw [h2] at hh
      simp only at hh
      have := h _ _ _ _ _ h2
      cases l with
      | none => simp only at hh; cases hh; simp [this]
      | some l =>
        simp only at hh
        by_cases hz : d.fz = true
        · rw [if_pos hz] at hh; cases hh; simp [this]
        · rw [if_neg hz] at hh
          by_cases hs : (s2 || l.2.isEmpty) = true
          · rw [if_pos hs] at hh
            cases g2 : ρ2.get l with
            | none => rw [g2] at hh; cases hh
            | some d2 => rw [g2] at hh; cases hh; simp [this]
          · rw [if_neg hs] at hh; cases hh
theorem pe_o1 {r : V → Hp → VK → Prop} {f : D → Option D} (h : PE X e (tUn r (tE X.K T W ma))) (hr : ∀ x H Q, r1 X.K T f x H Q → r x H Q) : PE X e (tE X.K T W (eOp1 f ma)) :=
  pe_seen (n := 1) (pe_weak h fun σ H Q q => tE_mono (fun v H1 q => hr _ _ _ (rL_of (tP_nil q))) (tP_cons q)) (pn_cons pn_nil)
theorem pe_o2 {r : R2} {f : D → D → Option D} (h : PE X e (tOp r (tE X.K T W ma) (tE X.K T W mb))) (hr : ∀ x y H Q, r2 X.K T f x y H Q → r x y H Q) : PE X e (tE X.K T W (eOp2 f ma mb)) :=
  pe_seen (n := 2) (pe_weak h fun σ H Q q => tE_mono (fun v H1 q => tE_mono (fun w H2 q => hr _ _ _ _ (rL_of (tP_nil q))) (tP_cons q)) (tP_cons q)) (pn_cons (pn_cons pn_nil))
end
end IS
end
section
set_option Elab.async false
set_option linter.all false
set_option autoImplicit false
set_option maxRecDepth 100000
set_option maxHeartbeats 1000000
/-! IS, part 12: arithmetic, comparisons. -/
namespace IS
open PySem PySem.Spec PySem.W PyProof.Rows L2 IL LamX
section
variable {X : Cx} {T : Tb} {H : Hp} {F : Addr → Prop} {K : PySem.W.Frag}
theorem Reps.snoc2 {vs ws : List V} {ds xs : List D} (a : Reps K F H vs ds []) (b : Reps K F H ws xs []) : Reps K F H (vs ++ ws) (ds ++ xs) [] := Reps.app a b
theorem reps_rep {vs : List V} {ds : List D} (a : Reps K F H vs ds []) : ∀ k : Nat, Reps K F H (List.replicate k vs).flatten (List.replicate k ds).flatten []
  | 0 => .nil
  | k + 1 => by
    rw [List.replicate_succ, List.replicate_succ, List.flatten_cons, List.flatten_cons]
    exact a.snoc2 (reps_rep a k)
theorem fAdd_ok : OpR X (binaryOp .Add) (r2 X.K T fAdd) := by
  intro pins s σ H x y v u Q I rx ry h
  obtain ⟨F, a, b, z, ra, rb, st, hf, q⟩ := r2_out h
  cases a with
  | int i =>
    cases b with
    | int j => cases hf; cases ra.inv_int; cases rb.inv_int; exact op_add pins s σ H _ _ v u Q I rx ry ⟨_, _, rfl, rfl, q.same st (.int _)⟩
    | _ => cases hf
  | str i =>
    cases b with
    | str j =>
      simp only [fAdd] at hf
      split at hf
      · rename_i hl
        cases hf; cases ra.inv_str.1; cases rb.inv_str.1
        refine op_add_str pins s σ H _ _ v u Q I rx ry ⟨_, _, rfl, rfl, by rw [sl_sz]; exact hl, q.same st (.str _ ?_)⟩
        rw [sl_sz]
        show (i.cps ++ j.cps).size ≤ sz
        rw [Array.size_append]
        exact hl
      · cases hf
    | _ => cases hf
  | lst m xs =>
    cases b with
    | lst m2 ys =>
      simp only [fAdd] at hf
      split at hf
      · rename_i hl
        cases hf
        obtain ⟨l, vs, rfl, e1, z1, q1⟩ := ra.inv_lst
        obtain ⟨l2, ws, rfl, e2, z2, q2⟩ := rb.inv_lst
        cases rx; cases ry
        obtain ⟨_, its, n, r, e⟩ := e1.ok I.hok
        obtain ⟨_, its2, n2, r2, e'⟩ := e2.ok I.hok
        have n1 := r.length
        have n2 := r2.length
        have hsz : vs.length + ws.length ≤ sizeLine := by rw [reps_len q1, reps_len q2, sl_sz]; exact hl
        refine PySem.P.add_list e e' ?_ (by rw [List.size_toArray, List.size_toArray]; omega)
        have ea : its.toArray ++ its2.toArray = (its ++ its2).toArray := by simp
        rw [ea]
        exact ⟨.ref _, _, I.lnew (t' := s.toks) (r.append r2) (by rw [List.length_append]; omega), rfl, q.lst st (q1.snoc2 q2) (by rw [List.length_append]; omega) I.fresh⟩
      · cases hf
    | _ => cases hf
  | tup xs =>
    cases b with
    | tup ys =>
      simp only [fAdd] at hf
      split at hf
      · rename_i hl
        cases hf
        obtain ⟨l, vs, rfl, e1, z1, q1⟩ := ra.inv_tup
        obtain ⟨l2, ws, rfl, e2, z2, q2⟩ := rb.inv_tup
        have hsz : vs.length + ws.length ≤ sizeLine := by rw [reps_len q1, reps_len q2, sl_sz]; exact hl
        refine op_catA pins s σ H _ _ v u Q I rx ry ⟨_, _, _, _, rfl, rfl, sqT_of e1, sqT_of e2, hsz, fun e => ?_, fun _ e => ?_, fun _ _ p hp => q.tup st (q1.snoc2 q2) (by rw [List.length_append]; exact hsz) hp⟩
        · subst e
          cases q1
          exact q.same st (.tup e2 z2 q2)
        · subst e
          cases q2
          rw [List.append_nil] at q
          exact q.same st (.tup e1 z1 q1)
      · cases hf
    | _ => cases hf
  | _ => cases hf
theorem fMul_ok : OpR X (binaryOp .Mult) (r2 X.K T fMul) := by
  intro pins s σ H x y v u Q I rx ry h
  obtain ⟨F, a, b, z, ra, rb, st, hf, q⟩ := r2_out h
  cases a with
  | int i =>
    cases b with
    | int j =>
      simp only [fMul] at hf
      split at hf
      · rename_i hl
        cases hf; cases ra.inv_int; cases rb.inv_int
        exact op_mul pins s σ H _ _ v u Q I rx ry ⟨_, _, rfl, rfl, hl, q.same st (.int _)⟩
      · cases hf
    | _ => cases hf
  | lst m xs =>
    cases b with
    | int k =>
      simp only [fMul] at hf
      split at hf
      · rename_i hl
        cases hf
        obtain ⟨l, vs, rfl, e1, z1, q1⟩ := ra.inv_lst
        cases rb.inv_int
        obtain ⟨h1, h2, hz⟩ := hl
        rw [← reps_len q1, ← sl_sz] at hz
        cases rx
        obtain ⟨t, rfl⟩ := ry
        obtain ⟨_, its, n, r, e⟩ := e1.ok I.hok
        have hl := r.length
        have hlen : its.toArray.size * k.toNat ≤ sizeLine := by rw [List.size_toArray, ← hl]; exact hz
        have hcap : ¬ its.toArray.size * k.toNat > (2 ^ 63 - 1) / 8 := by
          have : (sizeLine : Nat) ≤ (2 ^ 63 - 1) / 8 := by decide
          omega
        have hfit : ¬ (!Builtin.List.listFitsIndex k) = true := by
          rw [fitsIndex_both h1 h2]
          exact Bool.false_ne_true
        have hlong : ¬ Builtin.List.listTooLong (its.toArray.size * k.toNat) = true := by
          rw [notLongL hlen]
          exact Bool.false_ne_true
        have hnew : List.foldl (fun x1 x2 => x1 ++ x2) #[] (List.replicate (if its.toArray.isEmpty = true then 0 else k.toNat) its.toArray) = (List.replicate k.toNat its).flatten.toArray := by
          have f0 : ∀ m : Nat, List.foldl (fun x1 x2 => x1 ++ x2) #[] (List.replicate m its.toArray) = (List.replicate m its).flatten.toArray := fun m => by
            have := foldl_rep its m []
            rw [List.nil_append] at this
            exact this
          rw [f0]
          cases its with
          | nil => simp
          | cons a r' => rw [if_neg (by simp)]
        refine wpAny_binaryOp_repeat_ref (T := "list") (U := "int") (by decide) ⟨_, e, rfl⟩ (fun s' => typeIs_int s' k t) noFill_list_mul PySem.F.fills_int_mul PySem.F.slot_int_rmul repeat_list PySem.F.slot_int_index.lookup
          (call_meets PySem.F.slot_int_rmul (typeIs_int s k t) PySem.F.entry_int_rmul (PySem.F.args_int_rmul_2 _ _) (int___rmul___int_list k t l its.toArray n)
            ⟨e, rfl, ⟨_, e, rfl⟩, call_meets PySem.F.slot_list_mul ⟨_, e, rfl⟩ PySem.F.entry_list_mul (PySem.F.args_list_mul_2 _ _) (AutoListH.list___mul___list_int_3 l its.toArray n k t hfit hcap hlong) ⟨e, ?_⟩⟩)
        rw [hnew]
        refine ⟨.ref _, _, I.lnew (t' := s.toks) (r.rep k.toNat) (by rw [PyProof.Rows.lm_len_rep_flat, Nat.mul_comm]; exact hz), rfl, ?_⟩
        refine q.lst st (reps_rep q1 k.toNat) (by rw [PyProof.Rows.lm_len_rep_flat, Nat.mul_comm]; exact hz) I.fresh
      · cases hf
    | _ => cases hf
  | _ => cases hf
theorem fPow_ok : OpR X (binaryOp .Pow) (r2 X.K T fPow) := by
  intro pins s σ H x y v u Q I rx ry h
  obtain ⟨F, a, b, z, ra, rb, st, hf, q⟩ := r2_out h
  cases a <;> cases b <;> try cases hf
  simp only [fPow] at hf
  split at hf
  · rename_i hl
    cases hf; cases ra.inv_int; cases rb.inv_int
    exact op_pow pins s σ H _ _ v u Q I rx ry ⟨_, _, rfl, rfl, hl, q.same st (.int _)⟩
  · cases hf
theorem fDiv_ok : OpR X (binaryOp .FloorDiv) (r2 X.K T fDiv) := by
  intro pins s σ H x y v u Q I rx ry h
  obtain ⟨F, a, b, z, ra, rb, st, hf, q⟩ := r2_out h
  cases a <;> cases b <;> try cases hf
  simp only [fDiv] at hf
  split at hf
  · rename_i hl
    cases hf; cases ra.inv_int; cases rb.inv_int
    exact op_fdiv pins s σ H _ _ v u Q I rx ry ⟨_, _, rfl, rfl, hl, q.same st (.int _)⟩
  · cases hf
theorem fMod_ok : OpR X (binaryOp .Mod) (r2 X.K T fMod) := by
  intro pins s σ H x y v u Q I rx ry h
  obtain ⟨F, a, b, z, ra, rb, st, hf, q⟩ := r2_out h
  cases a <;> cases b <;> try cases hf
  simp only [fMod] at hf
  split at hf
  · rename_i hl
    cases hf; cases ra.inv_int; cases rb.inv_int
    exact op_mod pins s σ H _ _ v u Q I rx ry ⟨_, _, rfl, rfl, hl, q.same st (.int _)⟩
  · cases hf
theorem fNeg_ok : UnR X (unaryOp .USub) (r1 X.K T fNeg) := by
  intro pins s σ H x v Q I rx h
  obtain ⟨F, a, z, ra, st, hf, q⟩ := r1_out h
  cases a <;> try cases hf
  cases ra.inv_int
  exact un_neg pins s σ H _ v Q I rx ⟨_, rfl, q.same st (.int _)⟩
/-! ### plain data is read as the library's data -/
mutual
theorem dp_of : ∀ {v : V} {d : D} {n : Nat}, Rep K F H v d [] → d.pl n = true → Dp K H v d.py
  | _, .non, _, r, _ => by cases r; exact .non
  | _, .bl b, _, r, _ => by cases r; exact .bl b
  | _, .int b, _, r, _ => by cases r; exact .int b
  | _, .str b, _, r, _ => by cases r; exact .str b
  | _, .lst m xs, n, r, h => by
    obtain ⟨a, vs, rfl, e, _, q⟩ := r.inv_lst
    simp only [D.pl, Bool.and_eq_true] at h
    exact .lst (sqL_of e) (dps_of q h.2)
  | _, .cel m xs, n, r, h => by
    obtain ⟨od, vs, rfl, _, e, _, q⟩ := r.inv_cel
    simp only [D.pl, Bool.and_eq_true] at h
    exact .lst (sqL_of e) (dps_of q h.2)
  | _, .err _ _ _, _, _, h => by simp [D.pl] at h
  | _, .tup xs, n, r, h => by
    obtain ⟨a, vs, rfl, e, _, q⟩ := r.inv_tup
    simp only [D.pl, Bool.and_eq_true] at h
    exact .tup (sqT_of e) (dps_of q h.2)
  | _, .ty _, _, _, h => by simp [D.pl] at h
  | _, .glo _, _, _, h => by simp [D.pl] at h
  | _, .scr _, _, _, h => by simp [D.pl] at h
  | _, .lam _ _, _, _, h => by simp [D.pl] at h
  | _, .dct _ _ _ _, _, _, h => by simp [D.pl] at h
  | _, .ins _ _ _ _, _, _, h => by simp [D.pl] at h
theorem dps_of : ∀ {vs : List V} {ds : List D} {n : Nat}, Reps K F H vs ds [] → pls ds n = true → DpAll K H vs (pys ds)
  | [], _, _, r, _ => by cases r; exact .nil
  | v :: vs, _, n, r, h => by
    obtain ⟨a, ds', rfl, r1, r2⟩ := reps_cons r
    simp only [pls, Bool.and_eq_true] at h
    exact .cons (dp_of r1 h.1) (dps_of r2 h.2)
end
mutual
theorem lay_of : ∀ {d : D} {n : Nat}, d.pl n = true → d.py.canLay0 = true
  | .non, _, _ => rfl
  | .bl b, _, _ => rfl
  | .int b, _, _ => rfl
  | .str b, _, h => h
  | .lst m xs, n, h => by
    simp only [D.pl, Bool.and_eq_true] at h
    simp only [D.py, PyData.canLay0]
    exact lays_of h.2
  | .cel m xs, n, h => by
    simp only [D.pl, Bool.and_eq_true] at h
    simp only [D.py, PyData.canLay0]
    exact lays_of h.2
  | .err _ _ _, _, h => by simp [D.pl] at h
  | .tup xs, n, h => by
    simp only [D.pl, Bool.and_eq_true] at h
    simp only [D.py, PyData.canLay0]
    exact lays_of h.2
  | .ty _, _, _ => rfl
  | .glo _, _, _ => rfl
  | .scr _, _, _ => rfl
  | .lam _ _, _, _ => rfl
  | .dct _ _ _ _, _, _ => rfl
  | .ins _ _ _ _, _, _ => rfl
theorem lays_of : ∀ {ds : List D} {n : Nat}, pls ds n = true → PyData.canLayAll0 (pys ds) = true
  | [], _, _ => rfl
  | d :: ds, n, h => by
    simp only [pls, Bool.and_eq_true] at h
    simp only [pys, PyData.canLayAll0, Bool.and_eq_true]
    exact ⟨lay_of h.1, lays_of h.2⟩
end
mutual
theorem dep_of : ∀ {d : D} {n : Nat}, d.pl n = true → d.py.depth ≤ n
  | .non, _, _ => Nat.zero_le _
  | .bl b, _, _ => Nat.zero_le _
  | .int b, _, _ => Nat.zero_le _
  | .str b, _, _ => Nat.zero_le _
  | .lst m xs, n, h => by
    simp only [D.pl, Bool.and_eq_true, bne_iff_ne, ne_eq] at h
    have := deps_of h.2
    simp only [D.py, PyData.depth]
    omega
  | .cel m xs, n, h => by
    simp only [D.pl, Bool.and_eq_true, bne_iff_ne, ne_eq] at h
    have := deps_of h.2
    simp only [D.py, PyData.depth]
    omega
  | .err _ _ _, _, h => by simp [D.pl] at h
  | .tup xs, n, h => by
    simp only [D.pl, Bool.and_eq_true, bne_iff_ne, ne_eq] at h
    have := deps_of h.2
    simp only [D.py, PyData.depth]
    omega
  | .ty _, _, h => by simp [D.pl] at h
  | .glo _, _, h => by simp [D.pl] at h
  | .scr _, _, h => by simp [D.pl] at h
  | .lam _ _, _, h => by simp [D.pl] at h
  | .dct _ _ _ _, _, h => by simp [D.pl] at h
  | .ins _ _ _ _, _, h => by simp [D.pl] at h
theorem deps_of : ∀ {ds : List D} {n : Nat}, pls ds n = true → PyData.depthAll (pys ds) ≤ n
  | [], _, _ => Nat.zero_le _
  | d :: ds, n, h => by
    simp only [pls, Bool.and_eq_true] at h
    have a := dep_of h.1
    have b := deps_of h.2
    simp only [pys, PyData.depthAll]
    omega
end
theorem shp_of {d : D} (h : d.pl 60 = true) : SeqAt.shaped d.py = true := by
  unfold SeqAt.shaped
  rw [Bool.and_eq_true]
  exact ⟨lay_of h, decide_eq_true (Nat.le_trans (dep_of h) (by decide))⟩
theorem un64 (R : Room 0 X.A) : X.A.units + 200 < cLine := by have := R.un; omega
theorem fEq_ok (R : Room 0 X.A) : OpR X (compareOp .Eq) (r2 X.K T fEq) := by
  intro pins s σ H x y v u Q I rx ry h
  obtain ⟨F, a, b, z, ra, rb, st, hf, q⟩ := r2_out h
  unfold fEq at hf
  split at hf
  · rename_i hl
    cases hf
    rw [Bool.and_eq_true] at hl
    exact op_eqD R.units pins s σ H _ _ v u Q I rx ry ⟨_, _, dp_of ra hl.1, dp_of rb hl.2, shp_of hl.1, shp_of hl.2, q.same st (.bl _)⟩
  · cases hf
theorem fNe_ok (R : Room 0 X.A) : OpR X (compareOp .NotEq) (r2 X.K T fNe) := by
  intro pins s σ H x y v u Q I rx ry h
  obtain ⟨F, a, b, z, ra, rb, st, hf, q⟩ := r2_out h
  unfold fNe at hf
  split at hf
  · rename_i hl
    cases hf
    rw [Bool.and_eq_true] at hl
    exact op_neD R.units pins s σ H _ _ v u Q I rx ry ⟨_, _, dp_of ra hl.1, dp_of rb hl.2, shp_of hl.1, shp_of hl.2, q.same st (.bl _)⟩
  · cases hf
theorem isNon_py {a : D} (h : IL.isNon a = false) (hp : a.pl 60 = true) : a.py ≠ .none := by
  cases a <;> simp_all [IL.isNon, D.py, D.pl]
theorem ordd_parts {a b : D} (h : ordd a b = true) : a.pl 60 = true ∧ b.pl 60 = true ∧ alike a.py b.py = true ∧ a.py ≠ .none := by
  unfold ordd at h
  simp only [Bool.and_eq_true, Bool.not_eq_true'] at h
  exact ⟨h.1.1.1, h.1.1.2, h.1.2, isNon_py h.2 h.1.1.1⟩
theorem cmp_room (R : Room 0 X.A) {a b : D} (h : a.pl 60 = true) : X.A.units + min a.py.depth b.py.depth < cLine := by
  have h1 := un64 R
  have h2 := dep_of h
  have h3 : min a.py.depth b.py.depth ≤ a.py.depth := Nat.min_le_left _ _
  omega
theorem fGt_ok (R : Room 0 X.A) : OpR X (compareOp .Gt) (r2 X.K T fGt) := by
  intro pins s σ H x y v u Q I rx ry h
  obtain ⟨F, a, b, z, ra, rb, st, hf, q⟩ := r2_out h
  unfold fGt at hf
  split at hf
  · rename_i hl
    cases hf
    obtain ⟨p1, p2, p3, p4⟩ := ordd_parts hl
    obtain ⟨as, d1⟩ := Dp.reads I _ _ _ (dp_of ra p1) rx
    obtain ⟨bs, d2⟩ := Dp.reads I _ _ _ (dp_of rb p2) ry
    exact gt_data d1 d2 p3 p4 (cmp_room R p1) ⟨.bl _, H, I, rfl, q.same st (.bl _)⟩
  · cases hf
theorem fGe_ok (R : Room 0 X.A) : OpR X (compareOp .GtE) (r2 X.K T fGe) := by
  intro pins s σ H x y v u Q I rx ry h
  obtain ⟨F, a, b, z, ra, rb, st, hf, q⟩ := r2_out h
  unfold fGe at hf
  split at hf
  · rename_i hl
    cases hf
    obtain ⟨p1, p2, p3, p4⟩ := ordd_parts hl
    obtain ⟨as, d1⟩ := Dp.reads I _ _ _ (dp_of ra p1) rx
    obtain ⟨bs, d2⟩ := Dp.reads I _ _ _ (dp_of rb p2) ry
    exact ge_data d1 d2 p3 p4 (cmp_room R p1) ⟨.bl _, H, I, rfl, q.same st (.bl _)⟩
  · cases hf
theorem Rep.non_iff {v : V} {a : D} {f : List Addr} (r : Rep K F H v a f) : decide (v = .non) = IL.isNon a := by
  cases r <;> simp [IL.isNon]
theorem fIs_ok : OpR X (compareOp .Is) (r2 X.K T fIs) := by
  intro pins s σ H x y v u Q I rx ry h
  obtain ⟨F, a, b, z, ra, rb, st, hf, q⟩ := r2_out h
  cases b <;> try (cases a <;> cases hf)
  all_goals
    cases rb.inv_non
    refine op_isN pins s σ H _ _ v u Q I rx ry ⟨rfl, ?_⟩
    rw [ra.non_iff]
    exact q.same st (.bl _)
end
end IS
end
section
set_option Elab.async false
set_option linter.all false
set_option autoImplicit false
set_option maxRecDepth 100000
set_option maxHeartbeats 1000000
/-! IS, part 13: in, len, isinstance, sorted and the like. -/
namespace IS
open PySem PySem.Spec PySem.W PyProof.Rows L2 IL LamX
section
variable {X : Cx} {T : Tb} {H : Hp} {F : Addr → Prop} {K : PySem.W.Frag}
/-! ### in, not in -/
theorem pys_map : ∀ (xs : List D), pys xs = xs.map D.py
  | [] => rfl
  | x :: xs => by simp [pys, pys_map xs]
theorem key0_ok {d : D} {k : L2.Key} {v : V} (h : d.key0 = some k) (r : Rep K F H v d []) : v = kV k ∧ KOk k := by
  cases d <;> simp [D.key0] at h
  · subst h; exact ⟨r.inv_int, trivial⟩
  · subst h; exact r.inv_str
theorem keys0_ok : ∀ {ds : List D} {ks : List L2.Key} {vs : List V}, keys0 ds = some ks → Reps K F H vs ds [] → vs = ks.map kV ∧ ks.length = vs.length ∧ ∀ x ∈ ks, KOk x
  | [], ks, vs, h, r => by cases h; cases r; exact ⟨rfl, rfl, fun _ z => nomatch z⟩
  | d :: ds, ks, vs, h, r => by
    cases vs with
    | nil => cases r
    | cons v vs =>
      obtain ⟨a, ds', e, r1, r2⟩ := reps_cons r
      cases e
      unfold keys0 at h
      cases h1 : d.key0 with
      | none => rw [h1] at h; cases h
      | some k =>
        cases h2 : keys0 ds with
        | none => rw [h1, h2] at h; cases h
        | some ks' =>
          rw [h1, h2] at h
          cases h
          obtain ⟨a1, a2⟩ := key0_ok h1 r1
          obtain ⟨b1, b2, b3⟩ := keys0_ok h2 r2
          refine ⟨by rw [a1, b1]; rfl, by simp [b2], fun x hx => ?_⟩
          rcases List.mem_cons.mp hx with rfl | hx
          · exact a2
          · exact b3 x hx
theorem dk_get {x : D} {t : Bool} {k : DK} {v : V} {a : Addr} {o : HO} {ks : List DK} {vs : List V} (h : x.dk t = some k) (r : Rep K F H v x []) (e : Rd H a o) (c : DctO t o ks vs) : DGet H a v (lkV ks vs k) := by
  have key : ∀ {α : Type} [DecidableEq α] (f : α → DK) (fi : ∀ a b, f a = f b → a = b) (kvs : List (α × V)) (k : α), valV kvs k = lkV (kvs.map fun p => f p.1) (kvs.map (·.2)) (f k) := by
    intro α _ f fi kvs k
    induction kvs with
    | nil => rfl
    | cons p r ih =>
      by_cases hp : p.1 = k
      · rw [valV_pos hp]; simp [lkV, hp]
      · rw [valV_neg hp, ih]
        have : ¬ f p.1 = f k := fun z => hp (fi _ _ z)
        simp [lkV, this]
  cases c with
  | k kvs hk hn =>
    simp only [D.dk, Option.map_eq_some_iff] at h
    obtain ⟨k0, h0, rfl⟩ := h
    obtain ⟨rfl, _⟩ := key0_ok h0 r
    exact .inl ⟨kvs, k0, e, rfl, (key DK.k (fun _ _ z => DK.k.inj z) kvs k0).symm⟩
  | t kvs hk hn =>
    cases x <;> simp [D.dk] at h
    rename_i ds
    obtain ⟨ks0, h0, rfl⟩ := h
    obtain ⟨b, ws, rfl, e2, _, q⟩ := r.inv_tup
    obtain ⟨rfl, _, _⟩ := keys0_ok h0 q
    exact .inr ⟨kvs, ks0, b, e, rfl, e2, (key DK.t (fun _ _ z => DK.t.inj z) kvs ks0).symm⟩
theorem lkV_mem {κ : Type} [DecidableEq κ] : ∀ {ks : List κ} {vs : List V} {k : κ}, ks.length = vs.length → (lkV ks vs k).isSome = decide (k ∈ ks)
  | [], _, _, _ => by simp [lkV]
  | a :: ks, [], _, h => by simp at h
  | a :: ks, v :: vs, k, h => by
    by_cases e : a = k
    · simp [lkV, e]
    · have := lkV_mem (ks := ks) (vs := vs) (k := k) (by simpa using h)
      simp [lkV, e, this, Ne.symm e]
theorem str1 {c : Str} (h : c.length = 1) : c = ⟨#[c.cps.getD 0 0]⟩ := by
  obtain ⟨a⟩ := c
  have h' : a.size = 1 := h
  congr 1
  apply Array.ext
  · simp [h']
  · intro i h1 h2
    have : i = 0 := by omega
    subst this
    simp [Array.getD, h1]
theorem inn_run (R : Room 0 X.A) {pins : List (Addr × Obj)} {s : Shared} {σ : L2.St} {x y : V} {v u : Value} (I : Inv X pins σ H s) (rx : RelV x v) (ry : RelV y u) {a b : D} {k : Bool} (ra : Rep X.K F H x a []) (rb : Rep X.K F H y b []) (h : inn a b = some k) :
    (∀ Q : VK, Q (.bl k) H → wpAny (model X.prog X.w) X.A (compareOp .In v u) (EP X pins σ Q) X.xe s) ∧ ∀ Q : VK, Q (.bl (!k)) H → wpAny (model X.prog X.w) X.A (compareOp .NotIn v u) (EP X pins σ Q) X.xe s := by
  have h65 : X.A.units + 65 < cLine := by have := un64 R; omega
  cases b with
  | lst m ys =>
    simp only [inn] at h
    split at h
    · rename_i hp
      cases h
      rw [Bool.and_eq_true] at hp
      have e : (ys.any fun y => PyData.eqv y.py a.py) = ((pys ys).any fun z => PyData.eqv z a.py) := by rw [pys_map, List.any_map]; rfl
      rw [e]
      exact ⟨fun Q q => op_inD h65 pins s σ H _ _ v u Q I rx ry ⟨_, _, dp_of ra hp.1, dp_of rb hp.2, shp_of hp.1, shp_of (d := .lst m ys) hp.2, q⟩, fun Q q => op_notInD h65 pins s σ H _ _ v u Q I rx ry ⟨_, _, dp_of ra hp.1, dp_of rb hp.2, shp_of hp.1, shp_of (d := .lst m ys) hp.2, q⟩⟩
    · cases h
  | tup ys =>
    simp only [inn] at h
    split at h
    · rename_i hp
      cases h
      rw [Bool.and_eq_true] at hp
      have e : (ys.any fun y => PyData.eqv y.py a.py) = ((pys ys).any fun z => PyData.eqv z a.py) := by rw [pys_map, List.any_map]; rfl
      rw [e]
      obtain ⟨as, d1⟩ := Dp.reads I _ _ _ (dp_of ra hp.1) rx
      obtain ⟨bs, d2⟩ := Dp.reads I _ _ _ (dp_of rb hp.2) ry
      have sd := shp_of hp.1
      have se := shp_of (d := .tup ys) hp.2
      exact ⟨fun Q q => SeqAt.in_tuple_reads d2 d1 (SeqAt.canLay_of_shaped se) (SeqAt.canLay_of_shaped sd) (room_in_shaped sd h65) ⟨.bl _, H, I, rfl, q⟩, fun Q q => SeqAt.notIn_tuple_reads d2 d1 (SeqAt.canLay_of_shaped se) (SeqAt.canLay_of_shaped sd) (room_in_shaped sd h65) ⟨.bl _, H, I, rfl, q⟩⟩
    · cases h
  | str z =>
    cases a with
    | str c =>
      simp only [inn] at h
      split at h
      · rename_i hp
        cases h
        cases ra.inv_str.1; cases rb.inv_str.1
        have e := str1 hp
        exact ⟨fun Q q => op_in_sign pins s σ H _ _ v u Q I rx ry ⟨_, _, by rw [← e], rfl, q⟩, fun Q q => op_notIn_sign pins s σ H _ _ v u Q I rx ry ⟨_, _, by rw [← e], rfl, q⟩⟩
      · cases h
    | _ => cases h
  | dct m t ks ds =>
    simp only [inn, Option.map_eq_some_iff] at h
    obtain ⟨k0, hk, rfl⟩ := h
    obtain ⟨p, o, ws, rfl, e, c, _, q⟩ := rb.inv_dct
    cases ry
    have g := dk_get hk ra e c
    have e2 := lkV_mem (k := k0) c.len
    have h1 : X.A.units + 1 < cLine := by have := un64 R; omega
    rw [← e2]
    exact ⟨fun Q q => d_in h1 I g rx fun s' I' => ⟨.bl _, H, I', rfl, q⟩, fun Q q => d_notIn h1 I g rx fun s' I' => ⟨.bl _, H, I', rfl, q⟩⟩
  | _ => cases h
theorem fNotIn_ok (R : Room 0 X.A) : OpR X (compareOp .NotIn) (r2 X.K T fNotIn) := by
  intro pins s σ H x y v u Q I rx ry h
  obtain ⟨F, a, b, z, ra, rb, st, hf, q⟩ := r2_out h
  simp only [fNotIn, Option.map_eq_some_iff] at hf
  obtain ⟨k, hk, rfl⟩ := hf
  exact (inn_run R I rx ry ra rb hk).2 Q (q.same st (.bl _))
/-! ### len -/
theorem rL1_out {f : D → Option D} {xs : List V} {Q : VK} (h : rL K T (g1 f) xs H Q) : ∃ F x a z, xs = [x] ∧ Rep K F H x a [] ∧ Sty T F H ∧ f a = some z ∧ Res K T F H z Q := by
  obtain ⟨F, ds, z, rs, st, hf, q⟩ := h
  cases xs with
  | nil => cases rs; cases hf
  | cons x xs =>
    obtain ⟨a, ds', rfl, r1, r2⟩ := reps_cons rs
    cases xs with
    | nil => cases r2; exact ⟨F, x, a, z, rfl, r1, st, hf, q⟩
    | cons y ys =>
      obtain ⟨b, ds2, rfl, _, _⟩ := reps_cons r2
      cases hf
theorem rL2_out {f : D → D → Option D} {xs : List V} {Q : VK} (h : rL K T (g2 f) xs H Q) : ∃ F x y a b z, xs = [x, y] ∧ Rep K F H x a [] ∧ Rep K F H y b [] ∧ Sty T F H ∧ f a b = some z ∧ Res K T F H z Q := by
  obtain ⟨F, ds, z, rs, st, hf, q⟩ := h
  cases xs with
  | nil => cases rs; cases hf
  | cons x xs =>
    obtain ⟨a, ds', rfl, r1, r2⟩ := reps_cons rs
    cases xs with
    | nil => cases r2; cases hf
    | cons y ys =>
      obtain ⟨b, ds2, rfl, r3, r4⟩ := reps_cons r2
      cases ys with
      | nil => cases r4; exact ⟨F, x, y, a, b, z, rfl, r1, r3, st, hf, q⟩
      | cons w ws =>
        obtain ⟨c, ds3, rfl, _, _⟩ := reps_cons r4
        cases hf
theorem call_len_dTr {X : Cx} : CallR X (.builtin "len") (fun xs H Q => ∃ (p : Addr) (kvs : List (List L2.Key × V)), xs = [.ref p] ∧ Rd H p (.dT kvs) ∧ Q (.int ((kvs.length : Nat) : Int)) H) := by
  intro pins s σ H xs us Q I r h
  obtain ⟨p, kvs, rfl, hp, q⟩ := h
  obtain ⟨u, rfl, rx⟩ := vals1 r
  obtain rfl : u = .ref p := rx
  obtain ⟨z, hd, ys, rel, dd⟩ := dt_rd I.hok hp
  have hl : kvs.length = ys.length := Paired.length rel
  have hn := line63
  exact call_len_dictH hd dd (by omega) ⟨.int kvs.length, H, I.tok _, ⟨_, by rw [hl]⟩, q⟩
theorem fLen_ok : CallR X (.builtin "len") (rL X.K T (g1 fLen)) := by
  intro pins s σ H xs us Q I r h
  obtain ⟨F, x, a, z, rfl, ra, st, hf, q⟩ := rL1_out h
  cases a with
  | str y => cases hf; obtain ⟨rfl, l⟩ := ra.inv_str; exact call_len pins s σ H _ us Q I r ⟨_, _, rfl, ⟨l, rfl⟩, q.same st (.int _)⟩
  | lst m ys =>
    cases hf
    obtain ⟨p, vs, rfl, e, l, q'⟩ := ra.inv_lst
    exact call_len pins s σ H _ us Q I r ⟨_, vs.length, rfl, .inl ⟨vs, sqL_of e, rfl⟩, q.same st (by rw [reps_len q']; exact .int _)⟩
  | cel m ys =>
    cases hf
    obtain ⟨od, vs, rfl, _, e, l, q'⟩ := ra.inv_cel
    exact call_len pins s σ H _ us Q I r ⟨_, vs.length, rfl, .inl ⟨vs, sqL_of e, rfl⟩, q.same st (by rw [reps_len q']; exact .int _)⟩
  | tup ys =>
    cases hf
    obtain ⟨p, vs, rfl, e, l, q'⟩ := ra.inv_tup
    exact call_len pins s σ H _ us Q I r ⟨_, vs.length, rfl, .inr ⟨vs, sqT_of e, rfl⟩, q.same st (by rw [reps_len q']; exact .int _)⟩
  | dct m t ks ys =>
    cases hf
    obtain ⟨p, o, vs, rfl, e, c, l, q'⟩ := ra.inv_dct
    cases c with
    | k kvs hk hn =>
      obtain ⟨u, rfl, rx⟩ := vals1 r
      cases rx
      refine d_len I e fun t s' I' => ⟨.int kvs.length, H, I', ⟨_, rfl⟩, q.same st ?_⟩
      rw [List.length_map]
      exact .int _
    | t kvs hk hn => exact call_len_dTr pins s σ H _ us Q I r ⟨p, kvs, rfl, e, q.same st (by rw [List.length_map]; exact .int _)⟩
  | _ => cases hf
/-! ### isinstance -/
theorem kit_rep {pins : List (Addr × Obj)} {σ : L2.St} {s : Shared} {x : V} {u : Value} (I : Inv X pins σ H s) (rx : RelV x u) {a : D} {m : String} (ra : Rep X.K F H x a []) (h : a.tyn = some m) :
    ∃ P : Heap → Prop, PySem.W.KitX X.K u (.type m) P ∧ P s.heap ∧ u ≠ .builtin "__main__.__loader__#opaque" := by
  cases a with
  | non => cases h; exact kit_of I rx (.base (by cases ra.inv_non; exact .non))
  | bl b => cases h; exact kit_of I rx (.base (by cases ra.inv_bl; exact .bl _))
  | int b => cases h; exact kit_of I rx (.base (by cases ra.inv_int; exact .int _))
  | str b => cases h; exact kit_of I rx (.base (by cases ra.inv_str.1; exact .str _))
  | lst m xs =>
    cases h
    obtain ⟨p, vs, rfl, e, l, q'⟩ := ra.inv_lst
    rcases e with e | ⟨o, e⟩
    · exact kit_of I rx (.base (.lst e))
    · exact kit_of I rx (.base (.frz e))
  | cel m xs =>
    cases h
    obtain ⟨od, vs, rfl, e, _, l, q'⟩ := ra.inv_cel
    exact kit_of I rx (.base (.frz e))
  | tup xs =>
    cases h
    obtain ⟨p, vs, rfl, e, l, q'⟩ := ra.inv_tup
    exact kit_of I rx (.base (.tup e))
  | dct m t ks xs =>
    cases h
    obtain ⟨p, o, vs, rfl, e, c, l, q'⟩ := ra.inv_dct
    cases (show u = Value.ref p from rx)
    cases c with
    | k kvs hk hn =>
      obtain ⟨_, _, vs, _, o, es, ep, h1, h2, _⟩ := (e.ok I.hok : ObjOk X.prog X.w H s.heap p (.dK kvs))
      exact ⟨_, PySem.W.kitx_dict, ⟨o, h1, h2.1⟩, fun z => nomatch z⟩
    | t kvs hk hn =>
      obtain ⟨_, _, vs, _, o, es, ep, h1, h2, _⟩ := (e.ok I.hok : ObjOk X.prog X.w H s.heap p (.dT kvs))
      exact ⟨_, PySem.W.kitx_dict, ⟨o, h1, h2.1⟩, fun z => nomatch z⟩
  | _ => cases h
theorem kit_tab : (["NoneType", "bool", "int", "str", "list", "tuple", "dict"].all fun m => ["bool", "int", "str", "list", "tuple", "dict"].all fun n => kitB m n == some (subTy m n)) = true := by decide +kernel
theorem tyn_mem {a : D} {m : String} (h : a.tyn = some m) : m ∈ ["NoneType", "bool", "int", "str", "list", "tuple", "dict"] := by
  cases a <;> simp [D.tyn] at h <;> subst h <;> simp
theorem kit_one {K : PySem.W.Frag} {a : D} {m n : String} (h : a.tyn = some m) (hn : n ∈ ["bool", "int", "str", "list", "tuple", "dict"]) : PySem.W.kitOne K (.type m) (.type n) = some (subTy m n) := by
  refine kit_ty ?_
  have := List.all_eq_true.mp (List.all_eq_true.mp kit_tab m (tyn_mem h)) n hn
  simpa using this
theorem kit_any {K : PySem.W.Frag} {a : D} {m : String} (h : a.tyn = some m) : ∀ {ns : List String}, (ns.all (· ∈ ["bool", "int", "str", "list", "tuple", "dict"])) = true → PySem.W.kitAny K (.type m) (ns.map .type) = some (ns.any (subTy m))
  | [], _ => rfl
  | n :: ns, hn => by
    rw [List.all_cons, Bool.and_eq_true] at hn
    rw [List.map_cons, List.any_cons]
    refine kitAny_cons (kit_one h (by simpa using hn.1)) (fun e => ?_) (fun e => by rw [e]; rfl)
    rw [e, Bool.false_or]
    exact kit_any h hn.2
theorem tys_vals : ∀ {cs : List D} {ns : List String} {vs : List V} {us : List Value}, tysOf cs = some ns → Reps K F H vs cs [] → Vals vs us → us = ns.map .type
  | [], ns, vs, us, h, r, rv => by cases h; cases r; cases rv; rfl
  | d :: cs, ns, vs, us, h, r, rv => by
    cases vs with
    | nil => cases r
    | cons v vs =>
      obtain ⟨a, ds', e, r1, r2⟩ := reps_cons r
      cases e
      cases rv with
      | cons rv rvs =>
        cases d with
        | ty n =>
          simp only [tysOf, Option.map_eq_some_iff] at h
          obtain ⟨ns', h2, rfl⟩ := h
          cases r1.inv_ty
          cases rv
          rw [tys_vals h2 r2 rvs]
          rfl
        | _ => cases h
theorem fIsi_ok : CallR X (.builtin "isinstance") (rL X.K T (g2 fIsi)) := by
  intro pins s σ H xs us Q I r h
  obtain ⟨F, x, y, a, b, z, rfl, ra, rb, st, hf, q⟩ := rL2_out h
  obtain ⟨u1, u2, rfl, r1, r2⟩ := vals2 r
  unfold fIsi at hf
  split at hf
  · rename_i m n hm
    split at hf
    · rename_i hn
      cases hf
      cases rb.inv_ty
      cases (show u2 = Value.type n from r2)
      obtain ⟨P, Z, p, hx⟩ := kit_rep I r1 ra hm
      exact PySem.W.kia_one Z I.kIn p (kit_one hm hn) hx fun tk => ⟨.bl _, H, I.tok tk, rfl, q.same st (.bl _)⟩
    · cases hf
  · rename_i m cs hm
    split at hf
    · rename_i ns hns
      split at hf
      · rename_i hn
        cases hf
        obtain ⟨tp, vs, rfl, e, l, q'⟩ := rb.inv_tup
        cases (show u2 = Value.ref tp from r2)
        obtain ⟨P, Z, p, hx⟩ := kit_rep I r1 ra hm
        obtain ⟨_, its, rv, o, h1, h2, n, h3⟩ := (show ObjOk X.prog X.w H s.heap tp (.tup vs) from I.hok tp _ e)
        have e3 := tys_vals hns q' rv
        obtain ⟨oc, od, dt, sl⟩ := o
        simp only at h2 h3
        subst h2 h3
        rw [e3] at h1
        exact PySem.W.kia_tup Z I.kIn p h1 (kit_any hm hn) hx fun tk => ⟨.bl _, H, I.tok tk, rfl, q.same st (.bl _)⟩
      · cases hf
    · cases hf
  · cases hf
end
end IS
end
section
set_option Elab.async false
set_option linter.all false
set_option autoImplicit false
set_option maxRecDepth 100000
set_option maxHeartbeats 1000000
/-! IS, part 14: sorted, list, tuple, int, str, min, max, all, any, sum, slices. -/
namespace IS
open PySem PySem.Spec PySem.W PyProof.Rows L2 IL LamX
section
variable {X : Cx} {T : Tb} {H : Hp} {F : Addr → Prop} {K : PySem.W.Frag}
theorem key_rep {k : L2.Key} (h : KOk k) : Rep K F H (kV k) (kD0 k) [] := by
  cases k with
  | inl i => exact .int i
  | inr x => exact .str x h
theorem keys_rep : ∀ {ks : List L2.Key}, (∀ x ∈ ks, KOk x) → Reps K F H (ks.map kV) (ks.map kD0) []
  | [], _ => .nil
  | k :: ks, h => .cons (fp := []) (fps := []) (key_rep (h k (List.mem_cons_self ..))) (keys_rep fun x hx => h x (List.mem_cons_of_mem _ hx))
/-- what hands out the items ds -/
def Src (K : PySem.W.Frag) (F : Addr → Prop) (H : Hp) (p : Addr) (ds : List D) : Prop :=
  (∃ vs, (SqL K H p vs ∨ SqT K H p vs) ∧ Reps K F H vs ds []) ∨
  (∃ kvs, Rd H p (.dK kvs) ∧ Reps K F H (kvs.map fun kv => kV kv.1) ds []) ∨
  ∃ kvs, Rd H p (.dT kvs) ∧ ∀ bs, IsKeys H kvs bs → Reps K F H (bs.map V.ref) ds []
theorem ints_rep : ∀ {ns : List Int}, Reps K F H (ns.map V.int) (ns.map D.int) []
  | [] => .nil
  | n :: ns => .cons (fp := []) (fps := []) (.int n) ints_rep
theorem src_dT {kvs : List (List L2.Key × V)} (hk : ∀ p ∈ kvs, p.1.length ≤ sizeLine ∧ ∀ x ∈ p.1, KOk x) {bs : List Addr} (h : IsKeys H kvs bs) : Reps K F H (bs.map V.ref) (kvs.map fun p => kD (.t p.1)) [] := by
  unfold IsKeys at h
  induction h with
  | nil => exact .nil
  | cons h t ih =>
    have a := hk _ (List.mem_cons_self ..)
    exact .cons (fp := []) (fps := []) (.tup h (by rw [List.length_map]; exact a.1) (keys_rep a.2)) (ih fun p hp => hk p (List.mem_cons_of_mem _ hp))
theorem src_dK : ∀ {kvs : List (L2.Key × V)}, (∀ p ∈ kvs, KOk p.1) → Reps K F H (kvs.map fun kv => kV kv.1) (kvs.map fun p => kD (.k p.1)) []
  | [], _ => .nil
  | p :: kvs, h => .cons (fp := []) (fps := []) (key_rep (h p (List.mem_cons_self ..))) (src_dK fun x hx => h x (List.mem_cons_of_mem _ hx))
theorem src_of {x : V} {a : D} {ds : List D} (ra : Rep K F H x a []) (h : a.items = some ds) : ∃ p, x = .ref p ∧ Src K F H p ds := by
  cases a with
  | lst m xs =>
    cases h
    obtain ⟨p, vs, rfl, e, l, q⟩ := ra.inv_lst
    exact ⟨p, rfl, .inl ⟨vs, .inl (sqL_of e), q⟩⟩
  | tup xs =>
    cases h
    obtain ⟨p, vs, rfl, e, l, q⟩ := ra.inv_tup
    exact ⟨p, rfl, .inl ⟨vs, .inr (sqT_of e), q⟩⟩
  | dct m t ks xs =>
    cases h
    obtain ⟨p, o, vs, rfl, e, c, l, q⟩ := ra.inv_dct
    cases c with
    | k kvs hk hn => exact ⟨p, rfl, .inr (.inl ⟨kvs, e, by rw [List.map_map]; exact src_dK hk⟩)⟩
    | t kvs hk hn => exact ⟨p, rfl, .inr (.inr ⟨kvs, e, fun bs hb => by rw [List.map_map]; exact src_dT hk hb⟩)⟩
  | scr ns =>
    cases h
    cases ra with
    | scr e => exact ⟨_, rfl, .inl ⟨_, .inl (e H fun o ho => ho), ints_rep⟩⟩
  | _ => cases h
end
end IS
end
section
set_option Elab.async false
set_option linter.all false
set_option autoImplicit false
set_option maxRecDepth 100000
set_option maxHeartbeats 1000000
/-! IS, part 15: list, tuple, int, str, min, max, all, any, sum, slices. -/
namespace IS
open PySem PySem.Spec PySem.W PyProof.Rows L2 IL LamX
section
variable {X : Cx} {T : Tb} {H : Hp} {F : Addr → Prop} {K : PySem.W.Frag}
theorem fList_ok (hc : X.calm = true) : CallR X (.type "list") (rL X.K T (g1 fList)) := by
  intro pins s σ H xs us Q I r h
  obtain ⟨F, x, a, z, rfl, ra, st, hf, q⟩ := rL1_out h
  simp only [fList, Option.map_eq_some_iff] at hf
  obtain ⟨ds, hd, rfl⟩ := hf
  obtain ⟨p, rfl, sr⟩ := src_of ra hd
  rcases sr with ⟨vs, hs, rs⟩ | ⟨kvs, e, rs⟩ | ⟨kvs, e, rs⟩
  · have hl : vs.length ≤ sizeLine := by
      rcases hs with hs | hs
      · exact (I.list hs).choose_spec.2.2
      · exact (I.tuple hs).choose_spec.2.2
    exact call_list_of pins s σ H _ us Q I r ⟨p, vs, rfl, hs, fun l hl' => q.lst st rs hl hl'⟩
  · have hl : (kvs.map fun kv => kV kv.1).length ≤ sizeLine := by rw [List.length_map]; exact (dk_rd I.hok e).1
    exact call_listD hc pins s σ H _ us Q I r ⟨p, kvs, rfl, e, fun l hl' => q.lst st rs hl hl'⟩
  · have hz := (dt_rd I.hok e).1
    exact call_list_dT hc pins s σ H _ us Q I r ⟨p, kvs, rfl, e, fun l bs hl' hb => q.lst st (rs bs hb) (by rw [List.length_map]; rw [← Paired.length hb]; exact hz) hl'⟩
theorem fIntOf_ok : CallR X (.type "int") (rL X.K T (g1 fIntOf)) := by
  intro pins s σ H xs us Q I r h
  obtain ⟨F, x, a, z, rfl, ra, st, hf, q⟩ := rL1_out h
  cases a with
  | int i => cases hf; cases ra.inv_int; exact call_int1 pins s σ H _ us Q I r (.inl ⟨_, rfl, q.same st (.int _)⟩)
  | bl i => cases hf; cases ra.inv_bl; exact call_int1 pins s σ H _ us Q I r (.inr ⟨_, rfl, q.same st (.int _)⟩)
  | _ => cases hf
theorem bls_vals : ∀ {ds : List D} {bs : List Bool} {vs : List V}, bls ds = some bs → Reps K F H vs ds [] → vs = bs.map V.bl
  | [], bs, vs, h, r => by cases h; cases r; rfl
  | d :: ds, bs, vs, h, r => by
    cases vs with
    | nil => cases r
    | cons v vs =>
      obtain ⟨a, ds', e, r1, r2⟩ := reps_cons r
      cases e
      cases d with
      | bl b =>
        simp only [bls, Option.map_eq_some_iff] at h
        obtain ⟨bs', h2, rfl⟩ := h
        rw [r1.inv_bl, bls_vals h2 r2]
        rfl
      | _ => cases h
theorem fAll_ok (hc : X.calm = true) : CallR X (.builtin "all") (rL X.K T (g1 fAll)) := by
  intro pins s σ H xs us Q I r h
  obtain ⟨F, x, a, z, rfl, ra, st, hf, q⟩ := rL1_out h
  cases a <;> try cases hf
  simp only [fAll, Option.map_eq_some_iff] at hf
  obtain ⟨bs, hb, rfl⟩ := hf
  obtain ⟨p, vs, rfl, e, l, q'⟩ := ra.inv_lst
  cases bls_vals hb q'
  exact cr_all hc pins s σ H _ us Q I r ⟨p, bs, rfl, sqL_of e, q.same st (.bl _)⟩
/-! ### subscripts of texts -/
/-! ### slices -/
theorem reps_drop : ∀ {vs : List V} {ds : List D} (n : Nat), Reps K F H vs ds [] → Reps K F H (vs.drop n) (ds.drop n) []
  | _, _, 0, h => by simpa using h
  | [], _, n + 1, h => by cases h; simpa using .nil
  | v :: vs, _, n + 1, h => by
    obtain ⟨a, ds', rfl, r1, r2⟩ := reps_cons h
    simpa using reps_drop n r2
theorem reps_take : ∀ {vs : List V} {ds : List D} (n : Nat), Reps K F H vs ds [] → Reps K F H (vs.take n) (ds.take n) []
  | _, _, 0, h => by simpa using .nil
  | [], _, n + 1, h => by cases h; simpa using .nil
  | v :: vs, _, n + 1, h => by
    obtain ⟨a, ds', rfl, r1, r2⟩ := reps_cons h
    simpa using Reps.cons (fp := []) (fps := []) r1 (reps_take n r2)
theorem reps_cut {vs : List V} {ds : List D} (h : Reps K F H vs ds []) (lo hi : Option Int) : Reps K F H (cutV vs lo hi) (cutL ds lo hi) [] := by
  unfold cutV cutL
  rw [reps_len h]
  exact reps_take _ (reps_drop _ h)
theorem rL3_out {f : D → D → D → Option D} {x y w : V} {Q : VK} (h : rL K T (g3 f) [x, y, w] H Q) : ∃ F a b c z, Rep K F H x a [] ∧ Rep K F H y b [] ∧ Rep K F H w c [] ∧ Sty T F H ∧ f a b c = some z ∧ Res K T F H z Q := by
  obtain ⟨F, ds, z, rs, st, hf, q⟩ := h
  obtain ⟨a, ds', rfl, r1, rs⟩ := reps_cons rs
  obtain ⟨b, ds2, rfl, r2, rs⟩ := reps_cons rs
  obtain ⟨c, rfl, r3⟩ := reps1 rs
  exact ⟨F, a, b, c, z, r1, r2, r3, st, hf, q⟩
/-- a bound as a value -/
def oV : Option Int → V
  | none => .non
  | some i => .int i
theorem bd_ok {v : V} {a : D} {o : Option Int} (r : Rep K F H v a []) (h : bd a = some o) : v = oV o := by
  cases a <;> simp [bd] at h <;> subst h
  · exact r.inv_non
  · exact r.inv_int
theorem fSl_ok : SlR X (fun x lo hi H Q => rL X.K T (g3 fSl) [x, oV lo, oV hi] H Q) := by
  intro pins s σ H x v vl vu lo hi sl Q I rx hs pl pu h
  obtain ⟨F, a, b, c, z, ra, rb, rc, st, hf, q⟩ := rL3_out h
  unfold fSl at hf
  split at hf
  · rename_i l h2 hl hh
    have e1 : l = lo := by
      have := bd_ok rb hl
      cases l <;> cases lo <;> simp [oV] at this ⊢
      exact this.symm
    have e2 : h2 = hi := by
      have := bd_ok rc hh
      cases h2 <;> cases hi <;> simp [oV] at this ⊢
      exact this.symm
    subst e1 e2
    cases a with
    | lst m xs =>
      cases hf
      obtain ⟨p, vs, rfl, e, hz, q'⟩ := ra.inv_lst
      exact sl_list pins s σ H _ v vl vu l h2 sl Q I rx hs pl pu ⟨p, vs, rfl, sqL_of e, fun p' hp => q.lst st (reps_cut q' l h2) (Nat.le_trans (cutV_length _ _ _) hz) hp⟩
    | str y =>
      cases hf
      obtain ⟨rfl, hz⟩ := ra.inv_str
      exact sl_str pins s σ H _ v vl vu l h2 sl Q I rx hs pl pu ⟨y, rfl, hz, q.same st (.str _ (Nat.le_trans (cutS_length _ _ _) hz))⟩
    | tup xs =>
      simp only at hf
      split at hf
      · cases hf
      · rename_i hw
        cases hf
        obtain ⟨p, vs, rfl, e, hz, q'⟩ := ra.inv_tup
        rw [← reps_len q'] at hw
        exact sl_tup pins s σ H _ v vl vu l h2 sl Q I rx hs pl pu ⟨p, vs, rfl, sqT_of e, hw, fun p' hp => q.tup st (reps_cut q' l h2) (Nat.le_trans (cutV_length _ _ _) hz) hp⟩
    | _ => cases hf
  · cases hf
end
end IS
end
section
set_option Elab.async false
set_option linter.all false
set_option autoImplicit false
set_option maxRecDepth 100000
set_option maxHeartbeats 1000000
/-! IS, part 16: subscripts. -/
namespace IS
open PySem PySem.Spec PySem.W PyProof.Rows L2 IL LamX
section
variable {X : Cx} {T : Tb} {W : WK} {H : Hp} {F : Addr → Prop} {K : PySem.W.Frag}
/-- x[i]: of a list, a tuple, a text, a dict -/
def rSub (K : PySem.W.Frag) : R2 := fun x y H Q => rIx K x y H Q ∨ ∃ a v, x = .ref a ∧ DGet H a y (some v) ∧ Q v H
theorem ix_dict (R : Room 0 X.A) : IxR X (fun x y H Q => ∃ a v, x = .ref a ∧ DGet H a y (some v) ∧ Q v H) := by
  intro value slice pins s σ H x y v u Q I rx ry h hs
  obtain ⟨a, w, rfl, g, q⟩ := h
  cases rx
  exact tail_any (dict_typeIs I g) PySem.F.slot_dict_getitem.lookup (d_getItem (by have := un64 R; omega) I g ry fun w' s' I' rw' => ⟨w, H, I', rw', q⟩) hs
theorem ix_sub (R : Room 0 X.A) : IxR X (rSub X.K) := ix_seq.or (ix_dict R)
theorem reps_get : ∀ {vs : List V} {ds : List D} {fp : List Addr} {i : Nat} {c : D}, Reps K F H vs ds fp → ds[i]? = some c → ∃ w fc, vs[i]? = some w ∧ Rep K F H w c fc ∧ fc.Sublist fp
  | _, _, _, i, c, .nil, h => by simp at h
  | _, _, _, 0, c, .cons r q, h => by
    simp at h
    subst h
    exact ⟨_, _, rfl, r, List.sublist_append_left _ _⟩
  | _, _, _, i + 1, c, .cons r q, h => by
    simp at h
    obtain ⟨w, fc, e, r', s'⟩ := reps_get q h
    exact ⟨w, fc, by simpa using e, r', s'.trans (List.sublist_append_right _ _)⟩
theorem lkk_get {κ : Type} [DecidableEq κ] : ∀ {ks : List κ} {ds : List D} {vs : List V} {fp : List Addr} {k : κ} {c : D}, Reps K F H vs ds fp → lkk ks ds k = some c → ∃ w fc, lkV ks vs k = some w ∧ Rep K F H w c fc ∧ fc.Sublist fp
  | [], _, _, _, k, c, _, h => by simp [lkk] at h
  | a :: ks, [], _, _, k, c, _, h => by simp [lkk] at h
  | a :: ks, d :: ds, _, _, k, c, .cons r q, h => by
    by_cases e : a = k
    · simp [lkk, e] at h
      subst h
      exact ⟨_, _, by simp [lkV, e], r, List.sublist_append_left _ _⟩
    · simp [lkk, e] at h
      obtain ⟨w, fc, e', r', s'⟩ := lkk_get q h
      exact ⟨w, fc, by simp [lkV, e, e'], r', s'.trans (List.sublist_append_right _ _)⟩
theorem dk_fz {x : D} {t : Bool} {k : DK} {v : V} {f : List Addr} (h : x.dk t = some k) (hz : x.fz = true) (r : Rep K F H v x f) : Rep K F H v x [] := by
  have := r.fz hz
  subst this
  exact r
theorem atI_of {α : Type} {xs : List α} {i : Int} {j : Nat} {w : α} (h : ixN xs.length i = some j) (e : xs[j]? = some w) : atI xs i = some w := by
  unfold atI; rw [h]; exact e
/-- a part of a thing -/
theorem item_at {v kv : V} {x k c : D} {lk : LK} {fx fk : List Addr} (rx : Rep K F H v x fx) (rk : Rep K F H kv k fk) (hz : k.fz = true) (h : lkOf x k = some lk) (hs : x.sub lk = some c) :
    ∃ w fc, (∀ Q : VK, Q w H → rSub K v kv H Q) ∧ Fol H v [lk] w ∧ Rep K F H w c fc ∧ fc.Sublist fx := by
  have lists : ∀ {a : Addr} {vs : List V} {ds : List D} {f : List Addr} {i : Int}, (SqL K H a vs ∨ SqT K H a vs) → (Rd H a (.lst vs) ∨ H a = some (.tup vs)) → Reps K F H vs ds f → kv = .int i → (ixN ds.length i).map LK.ix = some lk → (∀ j, lk = .ix j → ds[j]? = some c) →
      ∃ w fc, (∀ Q : VK, Q w H → rSub K (.ref a) kv H Q) ∧ Fol H (.ref a) [lk] w ∧ Rep K F H w c fc ∧ fc.Sublist f := by
    intro a vs ds f i hq hr rs hk hl hc
    subst hk
    obtain ⟨j, hj, rfl⟩ := Option.map_eq_some_iff.mp hl
    obtain ⟨w, fc, e, r', s'⟩ := reps_get rs (hc j rfl)
    have hat : atI vs i = some w := atI_of (by rw [reps_len rs]; exact hj) e
    refine ⟨w, fc, fun Q q => ?_, ?_, r', s'⟩
    · rcases hq with hq | hq
      · exact .inl (.inl ⟨a, vs, i, w, rfl, rfl, hq, hat, q⟩)
      · exact .inl (.inr (.inl ⟨a, vs, i, w, rfl, rfl, hq, hat, q⟩))
    · rcases hr with hr | hr
      · exact .lst hr e (.nil w)
      · exact .tup (.inl hr) e (.nil w)
  cases x with
  | lst m ds =>
    cases k with
    | int i =>
      have hc : ∀ j, lk = .ix j → ds[j]? = some c := fun j e => by subst e; simpa [D.sub] using hs
      cases rx with
      | lstO e l q =>
        obtain ⟨w, fc, a1, a2, a3, a4⟩ := lists (.inl (.inl (.inl e))) (.inl (.inl e)) q rk.inv_int h hc
        exact ⟨w, fc, a1, a2, a3, a4.trans (List.sublist_cons_self _ _)⟩
      | lstF f e l q => exact lists (.inl (.inl e)) (.inl e) q rk.inv_int h hc
    | _ => cases h
  | tup ds =>
    cases k with
    | int i =>
      have hc : ∀ j, lk = .ix j → ds[j]? = some c := fun j e => by subst e; simpa [D.sub] using hs
      cases rx with
      | tup e l q => exact lists (.inr (.inl (.inl e))) (.inr e) q rk.inv_int h hc
    | _ => cases h
  | dct m t ks ds =>
    simp only [lkOf, Option.map_eq_some_iff] at h
    obtain ⟨k0, hk, rfl⟩ := h
    have hsub : lkk ks ds k0 = some c := by simpa [D.sub] using hs
    have rk0 := dk_fz hk hz rk
    cases rx with
    | dctO e ct l q =>
      obtain ⟨w, fc, e', r', s'⟩ := lkk_get q hsub
      have g := dk_get hk rk0 (.inl e) ct
      rw [e'] at g
      exact ⟨w, fc, fun Q q => .inr ⟨_, w, rfl, g, q⟩, .dct (.inl e) ct e' (.nil w), r', s'.trans (List.sublist_cons_self _ _)⟩
    | dctF f e ct l q =>
      obtain ⟨w, fc, e', r', s'⟩ := lkk_get q hsub
      have g := dk_get hk rk0 e ct
      rw [e'] at g
      exact ⟨w, fc, fun Q q => .inr ⟨_, w, rfl, g, q⟩, .dct e ct e' (.nil w), r', s'⟩
  | _ => cases h
theorem Fol.app {v w u : V} {p p' : List LK} (a : Fol H v p w) (b : Fol H w p' u) : Fol H v (p ++ p') u := by
  induction a with
  | nil v => exact b
  | lst r e _ ih => exact .lst r e (ih b)
  | tup r e _ ih => exact .tup r e (ih b)
  | dct r c e _ ih => exact .dct r c e (ih b)
  | ins r l e _ ih => exact .ins r l e (ih b)
theorem get_app : ∀ {p : List LK} {x d : D} {k : LK} {c : D}, x.get p = some d → d.sub k = some c → x.get (p ++ [k]) = some c
  | [], x, d, k, c, h, hs => by
    cases h
    simp [D.get, hs]
  | j :: p, x, d, k, c, h, hs => by
    unfold D.get at h
    cases e : x.sub j with
    | none => rw [e] at h; cases h
    | some y =>
      rw [e] at h
      show (match x.sub j with
        | some c => c.get (p ++ [k])
        | none => none) = some c
      rw [e]
      exact get_app h hs
theorem ro_app {ρ : Ro} {l : Lo} {d : D} {k : LK} {c : D} (h : ρ.get l = some d) (hs : d.sub k = some c) : ρ.get (l.1, l.2 ++ [k]) = some c := by
  unfold Ro.get at h ⊢
  cases e : ρ[l.1]? with
  | none => rw [e] at h; cases h
  | some o =>
    rw [e] at h
    cases o with
    | none => cases h
    | some x => simp only at h ⊢; exact get_app h hs
variable {e a b : Expr} {ma mb : Ex} {pos : Pos}
theorem pe_sub' (R : Room 0 X.A) (ha : PE X a (tE X.K T W ma)) (hb : PE X b (tE X.K T W mb)) (hs : PlainIx b) : PE X (.Subscript a b pos) (tE X.K T W (eSub ma mb)) := by
  refine pe_weak (pe_ix (ix_sub R) ha hb hs) fun σ H Q ⟨F, ρ, fps, ok, q⟩ => ?_
  refine ⟨F, ρ, fps, ok, ?_⟩
  unfold eSub at q
  cases h1 : ma ρ with
  | bad => rw [h1] at q; exact q
  | exc C fs st => rw [h1] at q; exact q
  | ok x lx sx ρ1 =>
    rw [h1] at q
    simp only at q
    -- from the index on
    have go : ∀ (F1 : Addr → Prop) (H1 : Hp) (fps1 fx : List Addr) (v : V), Ok X.K T F1 H1 σ ρ1 fps1 → Evo F H fps F1 H1 (fps1 ++ fx) → Stb sx ρ ρ1 fps fps1 H F1 H1 →
        (∀ (w : V) (F2 : Addr → Prop) (H2 : Hp) (fps2 fk : List Addr) (ρ2 : Ro) (sk : Bool) (k : D), ((lx.isNone || sk) && k.fz) = true → Ok X.K T F2 H2 σ ρ2 fps2 → Evo F1 H1 fps1 F2 H2 fps2 → Stb sk ρ1 ρ2 fps1 fps2 H1 F2 H2 → Rep X.K F2 H2 w k fk →
          tR X.K T W (match fSign x k with
            | some z => .ok z none (sx && sk) ρ2
            | none => match lkOf x k with
              | some lk => match x.sub lk with
                | some c => .ok c (lx.map fun l => (l.1, l.2 ++ [lk])) (sx && sk) ρ2
                | none => .bad
              | none => .bad) F ρ fps σ H Q → rSub X.K v w H2 Q) →
        tE X.K T W mb σ H1 (fun y H2 => rSub X.K v y H2 Q) := by
      intro F1 H1 fps1 fx v ok1 ev sb hv
      refine ⟨F1, ρ1, fps1, ok1, ?_⟩
      cases h2 : mb ρ1 with
      | bad => rw [h2] at q; exact q
      | exc C fs st =>
        rw [h2] at q
        exact ExcW.after (K := X.K) q ev sb (own_st ok1).1 (own_st ok1).2
      | ok k lk sk ρ2 =>
        rw [h2] at q
        simp only at q
        by_cases hc : ((lx.isNone || sk) && k.fz) = true
        · rw [if_pos hc] at q
          cases lk with
          | none => exact fun w F2 H2 fps2 fd vo ev2 sb2 => hv w F2 H2 fps2 fd ρ2 sk k hc vo.ok (ev2.sub fun a z => List.mem_append_left _ z) sb2 vo.rep q
          | some l =>
            intro w F2 H2 fps2 ok2 ev2 sb2 at2 g2
            obtain ⟨pre, fd, post, _, r1, _, _⟩ := ok2.at at2 g2
            exact hv w F2 H2 fps2 fd ρ2 sk k hc ok2 ev2 sb2 r1 q
        · rw [if_neg hc] at q; exact q.elim
    -- the end
    have fin : ∀ (F1 : Addr → Prop) (H1 : Hp) (fps1 fx : List Addr) (v w : V) (F2 : Addr → Prop) (H2 : Hp) (fps2 fk : List Addr) (ρ2 : Ro) (sk : Bool) (k : D), k.fz = true → Evo F H fps F1 H1 (fps1 ++ fx) → Stb sx ρ ρ1 fps fps1 H F1 H1 →
        Ok X.K T F2 H2 σ ρ2 fps2 → Evo F1 H1 fps1 F2 H2 fps2 → Stb sk ρ1 ρ2 fps1 fps2 H1 F2 H2 → Rep X.K F2 H2 w k fk →
        (∃ fv, Rep X.K F2 H2 v x fv ∧ ∀ (c : D) (lk : LK) (u : V) (fc : List Addr), x.sub lk = some c → Fol H2 v [lk] u → Rep X.K F2 H2 u c fc → fc.Sublist fv → tR X.K T W (.ok c (lx.map fun l => (l.1, l.2 ++ [lk])) (sx && sk) ρ2) F ρ fps σ H Q → Q u H2) →
        tR X.K T W (match fSign x k with
            | some z => .ok z none (sx && sk) ρ2
            | none => match lkOf x k with
              | some lk => match x.sub lk with
                | some c => .ok c (lx.map fun l => (l.1, l.2 ++ [lk])) (sx && sk) ρ2
                | none => .bad
              | none => .bad) F ρ fps σ H Q → rSub X.K v w H2 Q := by
      intro F1 H1 fps1 fx v w F2 H2 fps2 fk ρ2 sk k hz ev sb ok2 ev2 sb2 rk ⟨fv, rv, hk⟩ q
      cases hg : fSign x k with
      | some z =>
        rw [hg] at q
        simp only at q
        cases x <;> cases k <;> try cases hg
        simp only [fSign, Option.map_eq_some_iff] at hg
        obtain ⟨c, hc, rfl⟩ := hg
        obtain ⟨rfl, hl⟩ := rv.inv_str
        cases rk.inv_int
        have ev0 : Evo F H fps F1 H1 fps1 := ev.sub fun a z => List.mem_append_left _ z
        exact .inl (.inr (.inr ⟨_, _, _, rfl, rfl, hl, hc, q _ F2 H2 fps2 [] (ok2.atom (.str _ (by rw [sl_sz]; show 1 ≤ sz; decide))) (by simpa using ev0.trans ev2) (sb.trans sb2 ev2.fr)⟩))
      | none =>
        rw [hg] at q
        simp only at q
        cases hl : lkOf x k with
        | none => rw [hl] at q; exact q.elim
        | some lk =>
          rw [hl] at q
          simp only at q
          cases hc : x.sub lk with
          | none => rw [hc] at q; exact q.elim
          | some c =>
            rw [hc] at q
            simp only at q
            obtain ⟨u, fc, a1, a2, a3, a4⟩ := item_at rv rk hz hl hc
            exact a1 Q (hk c lk u fc hc a2 a3 a4 q)
    cases lx with
    | none =>
      intro v F1 H1 fps1 fd vo ev sb
      refine go F1 H1 fps1 fd v vo.ok ev sb fun w F2 H2 fps2 fk ρ2 sk k hc ok2 ev2 sb2 rk q => ?_
      rw [Bool.and_eq_true] at hc
      refine fin F1 H1 fps1 fd v w F2 H2 fps2 fk ρ2 sk k hc.2 ev sb ok2 ev2 sb2 rk ?_ q
      have ev2' : Evo F1 H1 fps1 F2 H2 (fps2 ++ []) := by simpa using ev2
      obtain ⟨rr, nf, dis, e3⟩ := vo.aok.frame ev2'
      cases rr with
      | cons r1 q1 =>
        cases q1
        rename_i fd1
        refine ⟨fd1, r1, fun c lk u fc hs hf rc hsub hq => hq u F2 H2 fps2 fc ⟨ok2, rc, ?_, fun a z => nf a (List.mem_append_left _ (hsub.subset z))⟩ ?_ (sb.trans sb2 ev2.fr)⟩
        · have n1 := ok2.nd
          have n2 := vo.nd
          simp only [List.append_nil] at n2 dis
          refine List.nodup_append.mpr ⟨n1, (List.nodup_append.mp n2).2.1.sublist hsub, fun a z b z' e => ?_⟩
          subst e
          exact (dis a (hsub.subset z')).1 z
        · refine (ev.trans e3).sub fun a z => ?_
          simp only [List.append_nil, List.mem_append] at z ⊢
          rcases z with z | z
          · exact .inl z
          · exact .inr (hsub.subset z)
    | some l =>
      intro v F1 H1 fps1 ok1 ev sb at1 g1
      refine go F1 H1 fps1 [] v ok1 (by simpa using ev) sb fun w F2 H2 fps2 fk ρ2 sk k hc ok2 ev2 sb2 rk q9 => ?_
      rw [Bool.and_eq_true] at hc
      have hsk : sk = true := by simpa using hc.1
      subst hsk
      obtain ⟨rfl, rfl, kk⟩ := sb2 rfl
      have at2 := at1.keep kk
      refine fin F1 H1 fps2 [] v w F2 H2 fps2 fk ρ2 true k hc.2 (by simpa using ev) sb ok2 ev2 sb2 rk ?_ q9
      obtain ⟨pre, fd, post, _, r1, _, _⟩ := ok2.at at2 g1
      refine ⟨fd, r1, fun c lk u fc hs hf rc hsub hq => hq u F2 H2 fps2 ok2 (ev.trans ev2) (sb.trans sb2 ev2.fr) ?_ (ro_app g1 hs)⟩
      obtain ⟨v0, b1, b2⟩ := at2
      exact ⟨v0, b1, b2.app hf⟩
end
end IS
end
section
set_option Elab.async false
set_option linter.all false
set_option autoImplicit false
set_option maxRecDepth 100000
set_option maxHeartbeats 1000000
/-! IS, part 17: methods. -/
namespace IS
open PySem PySem.Spec PySem.W PyProof.Rows L2 IL LamX
section
variable {X : Cx} {T : Tb} {W : WK} {H : Hp} {F : Addr → Prop} {K : PySem.W.Frag} {σ : L2.St}
/-- the value is of that built-in type -/
def tyW (N : String) (x : V) (H : Hp) : Prop := (N = "str" ∧ ∃ z, x = .str z) ∨ ∃ a, x = .ref a ∧ ((N = "list" ∧ ∃ vs, Rd H a (.lst vs)) ∨ (N = "dict" ∧ ∃ t o ks vs, Rd H a o ∧ DctO t o ks vs))
theorem tyW_is {pins : List (Addr × Obj)} {s : Shared} {N : String} {x : V} {v : Value} (I : Inv X pins σ H s) (r : RelV x v) (ty : tyW N x H) :
    s.TypeIs v N ∧ ∀ a, v = .ref a → ∃ ob, s.heap.get? a = some ob ∧ ob.dict = none := by
  rcases ty with ⟨rfl, z, rfl⟩ | ⟨a, rfl, ⟨rfl, vs, e⟩ | ⟨rfl, t, o, ks, vs, e, c⟩⟩
  · obtain ⟨t, rfl⟩ := r
    exact ⟨typeIs_str s z t, fun _ e => nomatch e⟩
  · cases r
    obtain ⟨its, _, pl, _⟩ := I.list (sqL_of e)
    refine ⟨pl.isList.typeIs, fun b e => ?_⟩
    cases e
    obtain ⟨o, n, e, c, hd, _⟩ := pl
    exact ⟨o, e, hd⟩
  · cases r
    have z : ∃ o, s.heap.get? a = some o ∧ o.ExactDict := by
      cases c with
      | k kvs hk hn =>
        obtain ⟨_, _, _, _, o, _, _, h1, h2, _⟩ := (e.ok I.hok : ObjOk X.prog X.w H s.heap a (.dK kvs))
        exact ⟨o, h1, h2⟩
      | t kvs hk hn =>
        obtain ⟨_, _, _, _, o, _, _, h1, h2, _⟩ := (e.ok I.hok : ObjOk X.prog X.w H s.heap a (.dT kvs))
        exact ⟨o, h1, h2⟩
    obtain ⟨o, e, ex⟩ := z
    refine ⟨⟨o, e, ex.1⟩, fun b e2 => ?_⟩
    cases e2
    exact ⟨o, e, ex.2.1⟩
theorem kLst_ty {v : V} {d : D} {f : List Addr} (r : Rep K F H v d f) (h : kLst d = true) : tyW "list" v H := by
  cases r <;> simp [kLst] at h
  · rename_i e _ _; exact .inr ⟨_, rfl, .inl ⟨rfl, _, .inl e⟩⟩
  · rename_i e _ _; exact .inr ⟨_, rfl, .inl ⟨rfl, _, e⟩⟩
/-- a built-in's method: without arguments, with some -/
def tW (N : String) (r : V → List V → Hp → VK → Prop) (to : TE) (t : TA) : TE := fun σ H Q => to σ H fun x H1 => tyW N x H1 ∧ t σ H1 fun xs H2 => r x xs H2 Q
variable {o e : Expr} {es : List Expr} {to : TE} {t : TA} {name : Str} {apos cpos : Pos} {N id : String} {r : V → List V → Hp → VK → Prop}
theorem pe_w (pa : PlainAttrs N) (slot : Slot N name id) (hty : typeOf (.builtin id) = pure (.type "method_descriptor")) (hm : MtR X id r) (ho : PE X o to) (ha : PA X (e :: es) t)
    (hbase : attributeBase o name X.env (eval o X.env) = eval o X.env := by rfl)
    (hfew : ((backTo cpos (starEach (e :: es) X.env)).all (fun x => !x.1) && (backToKw cpos (keywordEach [] X.env)).all (fun x => x.1.isSome)
      && decide ((e :: es).length + ([] : List Keyword).length + (if ([] : List Keyword).isEmpty then 0 else 1) < 30)) = true := by rfl)
    (hline : (apos.endLine == cpos.line) = true := by rfl) (hs : starEach (e :: es) X.env = (false, eval e X.env) :: starEach es X.env := by rfl) (hplain : (backTo cpos (starEach es X.env)).any (·.1) = false := by rfl) :
    PE X (.Call (.Attribute o name apos) (e :: es) [] cpos) (tW N r to t) := by
  refine ⟨fun pins s σ H Q I h => ?_⟩
  refine wpAny_Call_method_late hbase hfew hline rfl (thn (ho.run pins s σ H _ I h) fun v s1 ⟨x, H1, I1, r1, ty, q1⟩ => ?_)
  obtain ⟨h1, h2⟩ := tyW_is I1 r1 ty
  refine ⟨N, id, pa, slot, hty, h1, h2, ?_⟩
  have hA := ha.run cpos pins s1 σ H1 _ I1 q1
  rw [hs] at hA ⊢
  refine Calls.callWith_builtin (by show (false || (backTo cpos (starEach es X.env)).any (·.1)) = false; rw [hplain] <;> rfl) (Calls.evalArgs_plain ?_)
  exact thn hA fun us s2 ⟨vs, H2, I2, r2, q2⟩ => hm pins s2 σ H2 x vs v us Q I2 r1 r2 q2
/-! ### only a value of that kind -/
variable {mo : Ex} {ar : A} {p : Pe} {kd : D → Bool} {n : Nat}
theorem tE_kd {K : PySem.W.Frag} {ty : V → Hp → Prop} (hk : ∀ (F : Addr → Prop) (H : Hp) (v : V) (d : D) (f : List Addr), Rep K F H v d f → kd d = true → ty v H) {Q : VK} (h : tE K T W (eKd kd mo) σ H Q) : tE K T W mo σ H fun v H1 => ty v H1 ∧ Q v H1 := by
  obtain ⟨F, ρ, fps, ok, q⟩ := h
  refine ⟨F, ρ, fps, ok, ?_⟩
  unfold eKd at q
  cases h1 : mo ρ with
  | bad => rw [h1] at q; exact q
  | exc C fs st => rw [h1] at q; exact q
  | ok d l st ρ' =>
    rw [h1] at q
    simp only at q
    by_cases hd : kd d = true
    · rw [if_pos hd] at q
      cases l with
      | none => exact fun v F1 H1 fps1 fd vo ev sb => ⟨hk _ _ _ _ _ vo.rep hd, q v F1 H1 fps1 fd vo ev sb⟩
      | some l =>
        intro v F1 H1 fps1 ok1 ev sb at1 g1
        obtain ⟨_, fd, _, _, r1, _, _⟩ := ok1.at at1 g1
        exact ⟨hk _ _ _ _ _ r1 hd, q v F1 H1 fps1 ok1 ev sb at1 g1⟩
    · rw [if_neg hd] at q; exact q.elim
theorem tP_mono {K : PySem.W.Frag} {Q Q' : List V → Hp → Prop} (hq : ∀ vs H, Q vs H → Q' vs H) (h : tP K T W p σ H Q) : tP K T W p σ H Q' := by
  obtain ⟨F, ρ, fps, ok, q⟩ := h
  refine ⟨F, ρ, fps, ok, ?_⟩
  cases hr : p ρ with
  | bad => rw [hr] at q; exact q
  | exc C fs st => rw [hr] at q; exact q
  | ok ds is st ρ1 => rw [hr] at q; exact fun vs F1 H1 fps1 fd1 a b c d e g => hq _ _ (q vs F1 H1 fps1 fd1 a b c d e g)
/-! ### methods that change their object -/
/-- what such a method asks -/
def MutR (K : PySem.W.Frag) (T : Tb) (f : D → List D → Option (D × D)) (r : V → List V → Hp → VK → Prop) : Prop := ∀ (F : Addr → Prop) (H : Hp) (x : V) (vs : List V) (d : D) (ds : List D) (fd fa : List Addr) (d' z : D) (Q : VK),
  Rep K F H x d fd → Reps K F H vs ds fa → (fd ++ fa).Nodup → (∀ a ∈ fd ++ fa, ¬ F a) → Sty T F H → f d ds = some (d', z) →
  (∀ (a : Addr) (o : HO) (y : V) (fd' fz : List Addr), a ∈ fd → MutK o → Rep K F (upd H a o) x d' fd' → Rep K F (upd H a o) y z fz → (fd' ++ fz).Nodup → (∀ b ∈ fd' ++ fz, b ∈ fd ++ fa) → Q y (upd H a o)) → r x vs H Q
theorem tabs_mut {H : Hp} {a : Addr} {o u : HO} (t : Tabs T H) (h : H a = some u) (m : MutK u) : Tabs T (upd H a o) := Tabs.same t fun b w e _ => by
  by_cases hb : b = a
  · subst hb
    rw [h] at e
    cases e
    exact .inr m
  · exact .inl (by rw [upd_ne hb]; exact e)
theorem pe_mut {f : D → List D → Option (D × D)} {ex : Expr} {ty : V → Hp → Prop} (h : PE X ex (fun σ H Q => tE X.K T W mo σ H fun x H1 => ty x H1 ∧ tA X.K T W ar σ H1 fun vs H2 => r x vs H2 Q))
    (hk : ∀ (F : Addr → Prop) (H : Hp) (v : V) (d : D) (f : List Addr), Rep X.K F H v d f → kd d = true → ty v H) (hr : MutR X.K T f r) : PE X ex (tE X.K T W (eMut f (eKd kd mo) ar)) := by
  refine pe_weak h fun σ H Q ⟨F, ρ, fps, ok, q⟩ => ?_
  refine tE_kd hk ⟨F, ρ, fps, ok, ?_⟩
  unfold eMut at q
  generalize eKd kd mo = mo' at q ⊢
  cases h1 : mo' ρ with
  | bad => rw [h1] at q; exact q
  | exc C fs st => rw [h1] at q; exact q
  | ok x lx sx ρ1 =>
    rw [h1] at q
    cases lx with
    | none => exact q.elim
    | some l =>
      simp only at q
      intro v F1 H1 fps1 ok1 ev sb at1 g1
      refine ⟨F1, ρ1, fps1, ok1, ?_⟩
      cases h2 : ar ρ1 with
      | bad => rw [h2] at q; exact q
      | exc C fs st =>
        rw [h2] at q
        exact ExcW.then (K := X.K) (fx := []) q (by simpa using ev)
      | ok ds s2 ρ2 =>
        rw [h2] at q
        simp only at q
        by_cases hs : (s2 || l.2.isEmpty) = true
        · rw [if_pos hs] at q
          cases g2 : ρ2.get l with
          | none => rw [g2] at q; exact q.elim
          | some d =>
            rw [g2] at q
            simp only at q
            cases hf : f d ds with
            | none => rw [hf] at q; exact q.elim
            | some dz =>
              obtain ⟨d', z⟩ := dz
              rw [hf] at q
              simp only at q
              intro vs F2 H2 fps2 fa ao ev2 sb2
              have at2 : AtL H2 σ l v := by
                rw [Bool.or_eq_true] at hs
                rcases hs with hs | hs
                · obtain ⟨_, _, k⟩ := sb2 hs
                  exact at1.keep k
                · obtain ⟨v0, a1, a2⟩ := at1
                  obtain ⟨i, p⟩ := l
                  have hp : p = [] := by simpa using hs
                  subst hp
                  cases a2
                  exact ⟨_, a1, .nil _⟩
              obtain ⟨pre, fd, post, e1, r1, dis, k1⟩ := ao.ok.at at2 g2
              have nd := ao.nd
              rw [e1] at nd
              have ndd : (fd ++ fa).Nodup := by
                simp only [List.nodup_append, List.mem_append] at nd ⊢
                grind
              refine hr F2 H2 v vs d ds fd fa d' z Q r1 ao.rep ndd (fun a z => ?_) ⟨ao.ok.lv, ao.ok.tb⟩ hf fun a o y fd' fz ha mo rx ry nd' sub' => ?_
              · rcases List.mem_append.mp z with z | z
                · exact ao.ok.nf a (by rw [e1]; simp [z])
                · exact ao.nf a z
              · obtain ⟨u, hu, mu⟩ := r1.mutk a ha
                have kp : Keeps fd F2 H2 F2 (upd H2 a o) := ⟨fun b w hb e n => .inl (by rw [upd_ne (fun z => hb (by rw [z]; exact ha))]; exact e), fun _ z => z⟩
                have nfp : ∀ a, a ∈ pre ∨ a ∈ post → ¬ F2 a := fun a z => ao.ok.nf a (by rw [e1]; rcases z with z | z <;> simp [z])
                have env := k1 F2 (upd H2 a o) d' fd' kp nfp (fun z => by subst z; exact absurd ha List.not_mem_nil) rx
                have lv : ∀ b, F2 b → Live (upd H2 a o) b := fun b z => by
                  obtain ⟨w, e, n⟩ := ao.ok.lv b z
                  exact ⟨w, by rw [upd_ne (fun y => ao.ok.nf a (by rw [e1]; simp [ha]) (by rw [← y]; exact z))]; exact e, n⟩
                have nall : (pre ++ (fd' ++ post) ++ fz).Nodup := by
                  simp only [List.nodup_append, List.mem_append] at nd nd' sub' ⊢
                  grind
                have sall : ∀ b ∈ pre ++ (fd' ++ post) ++ fz, b ∈ fps2 ++ fa := fun b z => by
                  rw [e1]
                  simp only [List.mem_append] at z sub' ⊢
                  grind
                have nfa : ∀ b ∈ fps2 ++ fa, ¬ F2 b := fun b z => (List.mem_append.mp z).elim (ao.ok.nf b) (ao.nf b)
                refine q y F2 (upd H2 a o) (pre ++ (fd' ++ post)) fz ⟨⟨env, (List.nodup_append.mp nall).1, fun b z => nfa b (sall b (List.mem_append_left _ z)), lv, tabs_mut ao.ok.tb hu mu⟩, ry, nall, fun b z => nfa b (sall b (List.mem_append_right _ z))⟩ ?_ Stb.no
                have e2 : Evo F2 H2 (fps2 ++ fa) F2 (upd H2 a o) (pre ++ (fd' ++ post) ++ fz) := ⟨fun b w hb e n => .inl (by rw [upd_ne (fun z => hb (by rw [z, e1]; simp [ha]))]; exact e), fun b z => .inl (sall b z), fun _ z => z, fun _ z => .inl z⟩
                exact (ev.trans ev2).trans e2
        · rw [if_neg hs] at q; exact q.elim
end
end IS
end
section
set_option Elab.async false
set_option linter.all false
set_option autoImplicit false
set_option maxRecDepth 100000
set_option maxHeartbeats 1000000
/-! IS, part 18: append, extend, pop, x[i] = v. -/
namespace IS
open PySem PySem.Spec PySem.W PyProof.Rows L2 IL LamX
section
variable {X : Cx} {T : Tb} {W : WK} {H : Hp} {F : Addr → Prop} {K : PySem.W.Frag} {σ : L2.St}
theorem reps_snocO {vs ws : List V} {ds xs : List D} {f g : List Addr} (a : Reps K F H vs ds f) (b : Reps K F H ws xs g) : Reps K F H (vs ++ ws) (ds ++ xs) (f ++ g) := Reps.app a b
/-- parts of a changed object stand -/
theorem Reps.upd {vs : List V} {ds : List D} {f : List Addr} {a : Addr} {o u : HO} (r : Reps K F H vs ds f) (ha : H a = some u) (mu : MutK u) (nf : ¬ F a) (hd : a ∉ f) (hf : ∀ b ∈ f, ¬ F b) : Reps K F (L2.upd H a o) vs ds f :=
  r.keep (S := [a]) ⟨fun b w hb e n => .inl (by rw [upd_ne (fun z => hb (by simp [z]))]; exact e), fun _ z => z⟩ (fun b z => by simp at z; subst z; exact ⟨u, ha, mu⟩) (fun b z => by simp at z; subst z; exact nf)
    fun b z => ⟨fun y => by simp at y; subst y; exact hd z, hf b z⟩
theorem mAppend_ok : MutR K T mAppend rAppend := by
  intro F H x vs d ds fd fa d' z Q rd ra nd nf st hf q
  cases d with
  | lst m xs =>
    cases m with
    | false => cases hf
    | true =>
      cases ds with
      | nil => cases hf
      | cons y ds =>
        cases ds with
        | cons _ _ => cases hf
        | nil =>
          simp only [mAppend] at hf
          split at hf
          · rename_i hl
            cases hf
            cases rd with
            | lstO e l r =>
              rename_i a us fp
              cases ra with
              | cons ry rn =>
                cases rn
                rename_i v fv
                have hl2 : us.length < sizeLine := by rw [reps_len r, sl_sz]; exact hl
                simp only [List.append_nil, List.cons_append, List.nodup_cons, List.mem_append, not_or] at nd
                simp only [List.append_nil, List.cons_append] at nf
                have r2 := reps_snocO r (Reps.single ry)
                have r3 := Reps.upd (a := a) (o := .lst (us ++ [v])) r2 e trivial (nf a (List.mem_cons_self ..)) (by simpa using nd.1) (fun b hb => nf b (List.mem_cons_of_mem _ hb))
                refine ⟨a, us, v, rfl, rfl, e, hl2, q a (.lst (us ++ [v])) .non (a :: (fp ++ fv)) [] (List.mem_cons_self ..) trivial (.lstO upd_same (by rw [List.length_append]; show us.length + 1 ≤ _; omega) r3) .non ?_ ?_⟩
                · simp only [List.append_nil, List.nodup_cons, List.mem_append, not_or]; exact nd
                · intro b hb; simpa using hb
          · cases hf
  | _ => cases hf
theorem Rep.updR {v : V} {d : D} {f : List Addr} {a : Addr} {o u : HO} (r : Rep K F H v d f) (ha : H a = some u) (mu : MutK u) (nf : ¬ F a) (hd : a ∉ f) (hf : ∀ b ∈ f, ¬ F b) : Rep K F (L2.upd H a o) v d f :=
  r.keep (S := [a]) ⟨fun b w hb e n => .inl (by rw [upd_ne (fun z => hb (by simp [z]))]; exact e), fun _ z => z⟩ (fun b z => by simp at z; subst z; exact ⟨u, ha, mu⟩) (fun b z => by simp at z; subst z; exact nf)
    fun b z => ⟨fun y => by simp at y; subst y; exact hd z, hf b z⟩
/-- an item out of some -/
theorem reps_erase : ∀ {vs : List V} {ds : List D} {fp : List Addr} {i : Nat} {c : D}, Reps K F H vs ds fp → ds[i]? = some c → ∃ w fc fr, vs[i]? = some w ∧ Rep K F H w c fc ∧ Reps K F H (vs.eraseIdx i) (ds.eraseIdx i) fr ∧ (fr ++ fc).Perm fp
  | _, _, _, i, c, .nil, h => by simp at h
  | _, _, _, 0, c, .cons r q, h => by
    simp at h
    subst h
    exact ⟨_, _, _, rfl, r, q, List.perm_append_comm⟩
  | _, _, _, i + 1, c, .cons (fp := fp) r q, h => by
    simp at h
    obtain ⟨w, fc, fr, e, r', s', p⟩ := reps_erase q h
    refine ⟨w, fc, fp ++ fr, by simpa using e, r', .cons r s', ?_⟩
    rw [List.append_assoc]
    exact p.append_left fp
theorem drop_erase {α : Type} : ∀ (l : List α), l.dropLast = l.eraseIdx (l.length - 1)
  | [] => rfl
  | [a] => rfl
  | a :: b :: l => by
    have := drop_erase (b :: l)
    simp only [List.dropLast_cons₂, List.length_cons] at this ⊢
    rw [this]
    simp
/-- an item is taken out -/
theorem pop_core {T : Tb} {a : Addr} {us : List V} {xs : List D} {fp fa : List Addr} {i : Nat} {y : D} {Q : VK} (e : H a = some (.lst us)) (l : us.length ≤ sizeLine) (r : Reps K F H us xs fp) (hy : xs[i]? = some y) (nd : (a :: fp ++ fa).Nodup) (nf : ∀ b ∈ a :: fp ++ fa, ¬ F b)
    (q : ∀ (b : Addr) (o : HO) (y' : V) (fd' fz : List Addr), b ∈ a :: fp → MutK o → Rep K F (upd H b o) (.ref a) (.lst true (xs.eraseIdx i)) fd' → Rep K F (upd H b o) y' y fz → (fd' ++ fz).Nodup → (∀ c ∈ fd' ++ fz, c ∈ a :: fp ++ fa) → Q y' (upd H b o)) :
    ∃ w, us[i]? = some w ∧ Q w (upd H a (.lst (us.eraseIdx i))) := by
  obtain ⟨w, fc, fr, ew, rw', rr, pm⟩ := reps_erase r hy
  have na : a ∉ fp := fun z => by simp only [List.cons_append, List.nodup_cons, List.mem_append] at nd; exact nd.1 (.inl z)
  have sub : ∀ b ∈ fr ++ fc, b ∈ fp := fun b hb => pm.mem_iff.mp hb
  have ndp : (fr ++ fc).Nodup := pm.nodup_iff.mpr (by simp only [List.cons_append, List.nodup_cons, List.nodup_append] at nd; exact nd.2.1)
  have nff : ∀ b ∈ fp, ¬ F b := fun b hb => nf b (by simp [hb])
  refine ⟨w, ew, q a (.lst (us.eraseIdx i)) w (a :: fr) fc (List.mem_cons_self ..) trivial (.lstO upd_same (Nat.le_trans (len_erase us i) l) ?_) ?_ ?_ ?_⟩
  · exact Reps.upd rr e trivial (nf a (by simp)) (fun z => na (sub a (List.mem_append_left _ z))) (fun b z => nff b (sub b (List.mem_append_left _ z)))
  · exact Rep.updR rw' e trivial (nf a (by simp)) (fun z => na (sub a (List.mem_append_right _ z))) (fun b z => nff b (sub b (List.mem_append_right _ z)))
  · rw [List.cons_append, List.nodup_cons]
    exact ⟨fun z => na (sub a z), ndp⟩
  · intro b hb
    rw [List.cons_append, List.mem_cons] at hb
    rcases hb with rfl | hb
    · simp
    · have := sub b hb
      simp [this]
def rPops : V → List V → Hp → VK → Prop := fun x vs H Q => rPop x vs H Q ∨ rPopAt x vs H Q
theorem mt_pops : MtM X "list.pop" rPops := fun pins s σ H x xs v us Q I rx rs q => q.elim (mt_pop pins s σ H x xs v us Q I rx rs) (mt_popAt pins s σ H x xs v us Q I rx rs)
theorem mPop_ok : MutR K T mPop rPops := by
  intro F H x vs d ds fd fa d' z Q rd ra nd nf st hf q
  cases d with
  | lst m xs =>
    cases m with
    | false => cases hf
    | true =>
      cases rd with
      | lstO e l r =>
        rename_i a us fp
        cases ds with
        | nil =>
          cases ra
          simp only [mPop] at hf
          split at hf
          · rename_i y hy
            cases hf
            rw [drop_erase] at q
            obtain ⟨w, ew, hq⟩ := pop_core (T := T) e l r hy nd nf q
            refine .inl ⟨a, us, w, rfl, rfl, e, by rw [reps_len r]; exact ew, ?_⟩
            rw [drop_erase, reps_len r]
            exact hq
          · cases hf
        | cons k ds =>
          cases ds with
          | cons _ _ => cases k <;> cases hf
          | nil =>
            cases k <;> try cases hf
            rename_i i
            simp only [mPop] at hf
            split at hf
            · rename_i j hj
              split at hf
              · rename_i y hy
                cases hf
                cases ra with
                | cons rk rn =>
                  cases rn
                  cases rk.inv_int
                  obtain ⟨w, ew, hq⟩ := pop_core (T := T) e l r hy nd nf q
                  rw [← reps_len r] at hj
                  obtain ⟨h1, h2, h3, h4⟩ := ixN_seq hj
                  have hn := line63
                  exact .inr ⟨a, us, i, j, w, rfl, rfl, e, by omega, by omega, h1, ew, hq⟩
              · cases hf
            · cases hf
  | _ => cases hf
/-! ### x[i] = v -/
variable {o i value : Expr} {mo mi mv : Ex} {pos pos' : Pos} {n : Nat → Prop}
def SetR (K : PySem.W.Frag) (T : Tb) (f : D → D → D → Option D) (r : V → V → V → Hp → (Hp → Prop) → Prop) : Prop := ∀ (F : Addr → Prop) (H : Hp) (x kv v : V) (d k c : D) (fd fa : List Addr) (d' : D) (Q : Hp → Prop),
  Rep K F H x d fd → Rep K F H kv k [] → Rep K F H v c fa → (fd ++ fa).Nodup → (∀ a ∈ fd ++ fa, ¬ F a) → f d k c = some d' →
  (∀ (a : Addr) (u : HO) (fd' : List Addr), a ∈ fd → MutK u → Rep K F (upd H a u) x d' fd' → fd'.Nodup → (∀ b ∈ fd', b ∈ fd ++ fa) → Q (upd H a u)) → r x kv v H Q
theorem ps_put {f : D → D → D → Option D} {r : V → V → V → Hp → (Hp → Prop) → Prop} {st : Stmt} (h : PS X st (fun D σ H => tE X.K T W (fun ρ => (mv ρ).own) σ H fun v H1 => tE X.K T W mo σ H1 fun x H2 => tE X.K T W mi σ H2 fun y H3 => r x y v H3 fun H4 => D.nx σ H4)) (hr : SetR X.K T f r) :
    PS X st (tS X.K T W n (sPut f mo mi mv)) := ps_weak h fun D σ H ⟨F, ρ, fps, ok, q⟩ => by
  refine ⟨F, ρ, fps, ok, ?_⟩
  unfold sPut at q
  show tR X.K T W (mv ρ).own F ρ fps σ H _
  cases h1 : (mv ρ).own with
  | bad => rw [h1] at q; exact q
  | exc C fs st => rw [h1] at q; exact ExcW.any q
  | ok c lc sc ρ1 =>
    rw [h1] at q
    have := own_ok (K := X.K) h1
    subst this
    simp only at q
    intro v F1 H1 fps1 fc vo ev sb
    refine ⟨F1, ρ1, fps1, vo.ok, ?_⟩
    cases h2 : mo ρ1 with
    | bad => rw [h2] at q; exact q
    | exc C fs st => rw [h2] at q; exact ExcW.then (K := X.K) (fx := fc) q ev
    | ok d0 l s2 ρ2 =>
      rw [h2] at q
      cases l with
      | none => exact q.elim
      | some l =>
        simp only at q
        intro x F2 H2 fps2 ok2 ev2 sb2 at2 g2
        refine ⟨F2, ρ2, fps2, ok2, ?_⟩
        have ev2' : Evo F1 H1 fps1 F2 H2 (fps2 ++ []) := by simpa using ev2
        obtain ⟨rc2, nf2, dis2, e2⟩ := vo.aok.frame ev2'
        have evA : Evo F H fps F2 H2 (fps2 ++ fc) := by simpa using ev.trans e2
        have ao2 : AOk X.K T F2 H2 σ ρ2 fps2 [v] [c] fc := ⟨ok2, rc2, List.nodup_append.mpr ⟨ok2.nd, (List.nodup_append.mp vo.nd).2.1, fun a z b z' e => by subst e; exact (dis2 a z').1 z⟩, nf2⟩
        cases h3 : mi ρ2 with
        | bad => rw [h3] at q; exact q
        | exc C fs st => rw [h3] at q; exact ExcW.then (K := X.K) (fx := fc) q evA
        | ok k lk s3 ρ3 =>
          rw [h3] at q
          simp only at q
          by_cases hs : ((s3 || l.2.isEmpty) && k.fz) = true
          · rw [if_pos hs] at q
            rw [Bool.and_eq_true] at hs
            cases g3 : ρ3.get l with
            | none => rw [g3] at q; cases lk <;> exact fun _ _ _ _ => q.elim
            | some d =>
              rw [g3] at q
              simp only at q
              cases hf : f d k c with
              | none => rw [hf] at q; cases lk <;> exact fun _ _ _ _ => q.elim
              | some d' =>
                rw [hf] at q
                simp only at q
                have fin : ∀ (y : V) (F3 : Addr → Prop) (H3 : Hp) (fps3 fk : List Addr), Ok X.K T F3 H3 σ ρ3 fps3 → Evo F2 H2 fps2 F3 H3 fps3 → Stb s3 ρ2 ρ3 fps2 fps3 H2 F3 H3 → Rep X.K F3 H3 y k fk → r x y v H3 fun H4 => D.nx σ H4 := by
                  intro y F3 H3 fps3 fk ok3 ev3 sb3 rk
                  have ek := rk.fz hs.2
                  subst ek
                  have at3 : AtL H3 σ l x := by
                    rcases (Bool.or_eq_true _ _).mp hs.1 with hs | hs
                    · obtain ⟨_, _, kk⟩ := sb3 hs
                      exact at2.keep kk
                    · obtain ⟨v0, a1, a2⟩ := at2
                      obtain ⟨j, p⟩ := l
                      have hp : p = [] := by simpa using hs
                      subst hp
                      cases a2
                      exact ⟨_, a1, .nil _⟩
                  have ev3' : Evo F2 H2 fps2 F3 H3 (fps3 ++ []) := by simpa using ev3
                  obtain ⟨rc3, nf3, dis3, e3⟩ := ao2.frame ev3'
                  have evB : Evo F H fps F3 H3 (fps3 ++ fc) := by simpa using evA.trans e3
                  obtain ⟨pre, fd, post, e1, r1, dis, k1⟩ := ok3.at at3 g3
                  have ndAll : (fps3 ++ fc).Nodup := List.nodup_append.mpr ⟨ok3.nd, (List.nodup_append.mp vo.nd).2.1, fun a z b z' e => by subst e; exact (dis3 a z').1 z⟩
                  have ndAll2 := ndAll
                  rw [e1] at ndAll2
                  obtain ⟨rc, efc⟩ : ∃ (rr : Rep X.K F3 H3 v c fc), True := by
                    cases rc3 with
                    | cons rr rn => cases rn; simpa using rr
                  refine hr F3 H3 x y v d k c fd fc d' _ r1 rk rc ?_ (fun a z => ?_) hf fun a u fd' ha mu rx nd' sub' => ?_
                  · simp only [List.nodup_append, List.mem_append] at ndAll2 ⊢
                    grind
                  · rcases List.mem_append.mp z with z | z
                    · exact ok3.nf a (by rw [e1]; simp [z])
                    · exact nf3 a z
                  · obtain ⟨w, hw, mw⟩ := r1.mutk a ha
                    have kp : Keeps fd F3 H3 F3 (upd H3 a u) := ⟨fun b w hb e n => .inl (by rw [upd_ne (fun z => hb (by rw [z]; exact ha))]; exact e), fun _ z => z⟩
                    have nfp : ∀ a, a ∈ pre ∨ a ∈ post → ¬ F3 a := fun a z => ok3.nf a (by rw [e1]; rcases z with z | z <;> simp [z])
                    have env := k1 F3 (upd H3 a u) d' fd' kp nfp (fun z => by subst z; exact absurd ha List.not_mem_nil) rx
                    have lv : ∀ b, F3 b → Live (upd H3 a u) b := fun b z => by
                      obtain ⟨w, e, n⟩ := ok3.lv b z
                      exact ⟨w, by rw [upd_ne (fun y => ok3.nf a (by rw [e1]; simp [ha]) (by rw [← y]; exact z))]; exact e, n⟩
                    have nall : (pre ++ (fd' ++ post)).Nodup := by
                      simp only [List.nodup_append, List.mem_append] at ndAll2 nd' sub' ⊢
                      grind
                    have sall : ∀ b ∈ pre ++ (fd' ++ post), b ∈ fps3 ++ fc := fun b z => by
                      rw [e1]
                      simp only [List.mem_append] at z sub' ⊢
                      grind
                    have nfa : ∀ b ∈ fps3 ++ fc, ¬ F3 b := fun b z => (List.mem_append.mp z).elim (ok3.nf b) (nf3 b)
                    refine q σ F3 (upd H3 a u) _ ⟨env, nall, fun b z => nfa b (sall b z), lv, tabs_mut ok3.tb hw mw⟩ ?_ Kp.refl
                    exact evB.trans ⟨fun b w hb e n => .inl (by rw [upd_ne (fun z => hb (by rw [z, e1]; simp [ha]))]; exact e), fun b z => .inl (sall b z), fun _ z => z, fun _ z => .inl z⟩
                cases lk with
                | none => exact fun y F3 H3 fps3 fd vo3 ev3 sb3 => fin y F3 H3 fps3 fd vo3.ok (ev3.sub fun a z => List.mem_append_left _ z) sb3 vo3.rep
                | some l3 =>
                  intro y F3 H3 fps3 ok3 ev3 sb3 at3 g3'
                  obtain ⟨_, fd, _, _, r1, _, _⟩ := ok3.at at3 g3'
                  exact fin y F3 H3 fps3 fd ok3 ev3 sb3 r1
          · rw [if_neg hs] at q; cases lk <;> exact fun _ _ _ _ => q.elim
end
end IS
end
section
set_option Elab.async false
set_option linter.all false
set_option autoImplicit false
set_option maxRecDepth 100000
set_option maxHeartbeats 1000000
/-! IS, part 19: targets, what is walked. -/
namespace IS
open PySem PySem.Spec PySem.W PyProof.Rows L2 IL LamX
section
variable {X : Cx} {T : Tb} {W : WK} {H : Hp} {F : Addr → Prop} {K : PySem.W.Frag} {σ : L2.St} {n : Nat → Prop}
/-! ### x[i] = v -/
def rSetLD : TSet := fun o i v H Q => rSetL o i v H Q ∨ rSetD o i v H Q
theorem set_ld (R : Room 0 X.A) : PSet X rSetLD := fun pins s σ H o i v ov iv u Q I ro ri rv h => h.elim (set_list pins s σ H o i v ov iv u Q I ro ri rv) (set_dict (by have := un64 R; omega) pins s σ H o i v ov iv u Q I ro ri rv)
theorem reps_set : ∀ {vs : List V} {ds : List D} {fp : List Addr} {i : Nat} {v : V} {c : D} {fc : List Addr}, Reps K F H vs ds fp → i < ds.length → Rep K F H v c fc → (fp ++ fc).Nodup → ∃ fr, Reps K F H (vs.set i v) (ds.set i c) fr ∧ fr.Nodup ∧ ∀ a ∈ fr, a ∈ fp ++ fc
  | _, _, _, i, v, c, fc, .nil, h, _, _ => by simp at h
  | _, _, _, 0, v, c, fc, .cons (fp := f) (fps := fs) r q, h, rc, nd => by
    refine ⟨fc ++ fs, .cons rc q, ?_, fun a ha => ?_⟩
    · simp only [List.nodup_append, List.mem_append] at nd ⊢
      grind
    · simp only [List.mem_append] at ha ⊢
      grind
  | _, _, _, i + 1, v, c, fc, .cons (fp := f) (fps := fs) r q, h, rc, nd => by
    have nd2 : (fs ++ fc).Nodup := by
      simp only [List.nodup_append, List.mem_append] at nd ⊢
      grind
    obtain ⟨fr, r2, n2, s2⟩ := reps_set q (by simpa using h) rc nd2
    refine ⟨f ++ fr, .cons r r2, ?_, fun a ha => ?_⟩
    · simp only [List.nodup_append, List.mem_append] at nd n2 s2 ⊢
      grind
    · simp only [List.mem_append] at ha s2 ⊢
      grind
theorem putK_map {α : Type} [DecidableEq α] (kvs : List (α × V)) (k : α) (v : V) : (putK kvs k v).map (·.1) = if k ∈ kvs.map (·.1) then kvs.map (·.1) else kvs.map (·.1) ++ [k] := by
  unfold putK
  by_cases h : (kvs.any fun kv => decide (kv.1 = k)) = true
  · have hm : k ∈ kvs.map (·.1) := by
      rw [List.any_eq_true] at h
      obtain ⟨p, hp, e⟩ := h
      exact List.mem_map.mpr ⟨p, hp, by simpa using e⟩
    rw [if_pos h, if_pos hm, List.map_map]
    refine List.map_congr_left fun p hp => ?_
    simp only [Function.comp]
    split <;> rfl
  · have hm : k ∉ kvs.map (·.1) := fun z => h (by
      obtain ⟨p, hp, e⟩ := List.mem_map.mp z
      exact List.any_eq_true.mpr ⟨p, hp, by simpa using e⟩)
    rw [if_neg h, if_neg hm]
    simp
theorem putK_nodup {α : Type} [DecidableEq α] {kvs : List (α × V)} {k : α} {v : V} (h : (kvs.map (·.1)).Nodup) : ((putK kvs k v).map (·.1)).Nodup := by
  rw [putK_map]
  split
  · exact h
  · rename_i hm
    exact List.nodup_append.mpr ⟨h, by simp, fun a ha b hb e => by simp at hb; subst hb; subst e; exact hm ha⟩
theorem putK_cons {α : Type} [DecidableEq α] {p : α × V} {kvs : List (α × V)} {k : α} {v : V} (hn : p.1 ∉ kvs.map (·.1)) : putK (p :: kvs) k v = if p.1 = k then (p.1, v) :: kvs else p :: putK kvs k v := by
  unfold putK
  by_cases e : p.1 = k
  · have h2 : (kvs.map fun kv => if kv.1 = k then (kv.1, v) else kv) = kvs := by
      refine (List.map_congr_left fun q hq => ?_).trans (List.map_id _)
      have : ¬ q.1 = k := fun z => hn (List.mem_map.mpr ⟨q, hq, by rw [z, e]⟩)
      rw [if_neg this]
      rfl
    simp [e, h2]
  · simp only [List.any_cons, e, decide_false, Bool.false_or, if_false, List.map_cons]
    split <;> rfl
theorem put_ok {α : Type} [DecidableEq α] (f : α → DK) (fi : ∀ a b, f a = f b → a = b) : ∀ {kvs : List (α × V)} {ds : List D} {fp : List Addr} (k : α) {v : V} {c : D} {fc : List Addr}, Reps K F H (kvs.map (·.2)) ds fp → (kvs.map (·.1)).Nodup → Rep K F H v c fc → (fp ++ fc).Nodup →
    ∃ fr, (putD (kvs.map fun p => f p.1) ds (f k) c).1 = (putK kvs k v).map (fun p => f p.1) ∧ Reps K F H ((putK kvs k v).map (·.2)) (putD (kvs.map fun p => f p.1) ds (f k) c).2 fr ∧ fr.Nodup ∧ ∀ a ∈ fr, a ∈ fp ++ fc
  | [], ds, fp, k, v, c, fc, r, _, rc, nd => by
    cases r
    refine ⟨fc, by simp [putD, putK], ?_, by simpa using nd, fun a ha => by simpa using ha⟩
    simpa [putD, putK] using Reps.single rc
  | p :: kvs, ds, fp, k, v, c, fc, r, hn, rc, nd => by
    rw [List.map_cons, List.nodup_cons] at hn
    rw [putK_cons hn.1]
    cases r with
    | cons r q =>
      rename_i d f1 ds f2
      by_cases e : p.1 = k
      · rw [if_pos e]
        have ef : f p.1 = f k := by rw [e]
        refine ⟨fc ++ f2, ?_, ?_, ?_, fun a ha => ?_⟩
        · simp [putD, ef, e]
        · simpa [putD, ef] using Reps.cons rc q
        · simp only [List.nodup_append, List.mem_append] at nd ⊢
          grind
        · simp only [List.mem_append] at ha ⊢
          grind
      · rw [if_neg e]
        have ef : ¬ f p.1 = f k := fun z => e (fi _ _ z)
        have nd2 : (f2 ++ fc).Nodup := by
          simp only [List.nodup_append, List.mem_append] at nd ⊢
          grind
        obtain ⟨fr, a1, a2, a3, a4⟩ := put_ok f fi (kvs := kvs) k q hn.2 rc nd2
        refine ⟨f1 ++ fr, ?_, ?_, ?_, fun a ha => ?_⟩
        · simp [putD, ef, a1]
        · simpa [putD, ef] using Reps.cons r a2
        · simp only [List.nodup_append, List.mem_append] at nd a3 a4 ⊢
          grind
        · simp only [List.mem_append] at ha a4 ⊢
          grind
theorem putK_keys {α : Type} [DecidableEq α] {kvs : List (α × V)} {k : α} {v : V} {P : α → Prop} (h : ∀ p ∈ kvs, P p.1) (hk : P k) : ∀ p ∈ putK kvs k v, P p.1 := by
  intro p hp
  have : p.1 ∈ (putK kvs k v).map (·.1) := List.mem_map.mpr ⟨p, hp, rfl⟩
  rw [putK_map] at this
  split at this
  · obtain ⟨q, hq, e⟩ := List.mem_map.mp this
    rw [← e]; exact h q hq
  · rcases List.mem_append.mp this with z | z
    · obtain ⟨q, hq, e⟩ := List.mem_map.mp z
      rw [← e]; exact h q hq
    · simp at z
      rw [z]; exact hk
theorem pSet_ok : SetR K T pSet rSetLD := by
  intro F H x kv v d k c fd fa d' Q rd rk rv nd nf hf q
  cases d with
  | lst m xs =>
    cases m with
    | false => cases hf
    | true =>
      cases k <;> try cases hf
      rename_i i
      simp only [pSet, Option.map_eq_some_iff] at hf
      obtain ⟨j, hj, rfl⟩ := hf
      cases rd with
      | lstO e l r =>
        rename_i a us fp
        cases rk.inv_int
        rw [List.cons_append, List.nodup_cons] at nd
        have hlt : j < xs.length := (ixN_seq hj).2.1
        obtain ⟨fr, r2, n2, s2⟩ := reps_set r hlt rv nd.2
        have na : a ∉ fr := fun z => nd.1 (s2 a z)
        have r3 := Reps.upd (a := a) (o := .lst (us.set j v)) r2 e trivial (nf a (by simp)) na fun b hb => nf b (by simp only [List.cons_append, List.mem_cons]; exact .inr (s2 b hb))
        refine .inl ⟨a, us, i, j, rfl, rfl, e, by rw [reps_len r]; exact hj, q a (.lst (us.set j v)) (a :: fr) (List.mem_cons_self ..) trivial (.lstO upd_same (by rw [List.length_set]; exact l) r3) (List.nodup_cons.mpr ⟨na, n2⟩) fun b hb => ?_⟩
        rcases List.mem_cons.mp hb with rfl | hb
        · simp
        · simp only [List.cons_append, List.mem_cons]; exact .inr (s2 b hb)
  | dct m t ks vs =>
    cases m with
    | false => cases hf
    | true =>
      simp only [pSet] at hf
      cases hk : k.dk t with
      | none => rw [hk] at hf; cases hf
      | some j =>
        rw [hk] at hf
        simp only at hf
        split at hf
        · rename_i hl
          cases hf
          cases rd with
          | dctO e ct l r =>
            rename_i a o us fp
            rw [List.cons_append, List.nodup_cons] at nd
            have fin : ∀ (o' : HO) (us' : List V) (ks' : List DK) (ds' : List D) (fr : List Addr), DctO t o' ks' us' → Reps K F H us' ds' fr → fr.Nodup → (∀ b ∈ fr, b ∈ fp ++ fa) → us'.length ≤ sizeLine → (putD ks vs j c).1 = ks' → (putD ks vs j c).2 = ds' → Q (upd H a o') := by
              intro o' us' ks' ds' fr ct' r2 n2 s2 hz e1 e2
              have na : a ∉ fr := fun z => nd.1 (s2 a z)
              have r3 := Reps.upd (a := a) (o := o') r2 e ct.mutK (nf a (by simp)) na fun b hb => nf b (by simp only [List.cons_append, List.mem_cons]; exact .inr (s2 b hb))
              refine q a o' (a :: fr) (List.mem_cons_self ..) ct'.mutK (by rw [e1, e2]; exact .dctO upd_same ct' hz r3) (List.nodup_cons.mpr ⟨na, n2⟩) fun b hb => ?_
              rcases List.mem_cons.mp hb with rfl | hb
              · simp
              · simp only [List.cons_append, List.mem_cons]; exact .inr (s2 b hb)
            cases ct with
            | k kvs hko hn =>
              simp only [D.dk, Option.map_eq_some_iff] at hk
              obtain ⟨k0, h0, rfl⟩ := hk
              obtain ⟨rfl, ko⟩ := key0_ok h0 rk
              obtain ⟨fr, a1, a2, a3, a4⟩ := put_ok DK.k (fun _ _ z => DK.k.inj z) k0 r hn rv nd.2
              have hl2 : kvs.length < sizeLine := by rw [sl_sz]; simpa using hl
              refine .inr ⟨a, _, rfl, .inl ⟨kvs, k0, e, rfl, hl2, rfl⟩, fin _ _ _ _ fr (.k _ (putK_keys hko ko) (putK_nodup hn)) a2 a3 a4 ?_ a1 rfl⟩
              rw [List.length_map]
              have := length_putK kvs k0 v
              omega
            | t kvs hko hn =>
              cases k <;> simp [D.dk] at hk
              rename_i ds0
              obtain ⟨ks0, h0, rfl⟩ := hk
              obtain ⟨b, ws, rfl, e2, lw, q'⟩ := rk.inv_tup
              obtain ⟨rfl, hlen, hko2⟩ := keys0_ok h0 q'
              obtain ⟨fr, a1, a2, a3, a4⟩ := put_ok DK.t (fun _ _ z => DK.t.inj z) ks0 r hn rv nd.2
              have hl2 : kvs.length < sizeLine := by rw [sl_sz]; simpa using hl
              refine .inr ⟨a, _, rfl, .inr ⟨kvs, ks0, b, e, rfl, e2, hl2, rfl⟩, fin _ _ _ _ fr (.t _ (putK_keys (P := fun x => x.length ≤ sizeLine ∧ ∀ y ∈ x, KOk y) hko ⟨by rw [hlen]; exact lw, hko2⟩) (putK_nodup hn)) a2 a3 a4 ?_ a1 rfl⟩
              rw [List.length_map]
              have := length_putK kvs ks0 v
              omega
        · cases hf
  | _ => cases hf
end
end IS
end
section
set_option Elab.async false
set_option linter.all false
set_option autoImplicit false
set_option maxRecDepth 100000
set_option maxHeartbeats 1000000
/-! IS, part 20: targets, what is walked. -/
namespace IS
open PySem PySem.Spec PySem.W PyProof.Rows L2 IL LamX
section
variable {X : Cx} {T : Tb} {W : WK} {H : Hp} {F : Addr → Prop} {K : PySem.W.Frag} {σ : L2.St} {n : Nat → Prop} {tg e : Expr} {es : List Expr} {g : G} {gs : List G} {m : Ex} {ar : A} {pos : Pos} {q : Sq}
/-! ### targets -/
def tGs (K : PySem.W.Frag) (T : Tb) (n : Nat → Prop) (gs : List G) : TGs := fun vs σ H Q => ∃ F ρ fps ds fd, AOk K T F H σ ρ fps vs ds fd ∧ match gAll gs ds ρ with
  | some ρ' => ∀ (σ' : L2.St) (F' : Addr → Prop) (H' : Hp) (fps' : List Addr), Ok K T F' H' σ' ρ' fps' → Evo F H (fps ++ fd) F' H' fps' → Kp n σ σ' → Q σ' H'
  | none => False
theorem pgs_nil' : PGs X [] (tGs X.K T n []) := by
  refine ⟨fun pins s σ H vs us Q I r h => pgs_nil.run pins s σ H vs us Q I r ?_⟩
  obtain ⟨F, ρ, fps, ds, fd, ao, q⟩ := h
  cases ds with
  | nil =>
    have e := reps_len ao.rep
    have ev : vs = [] := List.length_eq_zero_iff.mp e
    subst ev
    simp only [gAll] at q
    exact ⟨rfl, q σ F H fps ao.ok (Evo.refl.sub (fun a z => List.mem_append_left _ z)) Kp.refl⟩
  | cons d ds => exact q.elim
theorem pgs_cons' (h1 : PG X e (tG X.K T n g)) (h2 : PGs X es (tGs X.K T n gs)) (hs : (assignEach (e :: es) X.env).map (·.2) = assign e X.env :: (assignEach es X.env).map (·.2) := by rfl) : PGs X (e :: es) (tGs X.K T n (g :: gs)) := by
  refine ⟨fun pins s σ H vs us Q I r h => (pgs_cons h1 h2 hs).run pins s σ H vs us Q I r ?_⟩
  obtain ⟨F, ρ, fps, ds, fd, ao, q⟩ := h
  cases ds with
  | nil => exact q.elim
  | cons d ds =>
    obtain ⟨ok, rep, nd, nf⟩ := ao
    cases rep with
    | cons r1 r2 =>
      rename_i v fd1 vs fd2
      refine ⟨v, vs, rfl, F, ρ, fps, d, fd1, ⟨ok, r1, ?_, fun a z => nf a (List.mem_append_left _ z)⟩, ?_⟩
      · simp only [List.nodup_append, List.mem_append] at nd ⊢
        grind
      · unfold gAll at q
        cases hg : g d ρ with
        | none => rw [hg] at q; exact q
        | some ρ1 =>
          rw [hg] at q
          simp only at q
          intro σ1 F1 H1 fps1 ok1 ev1 kp1
          have hS : ∀ a ∈ fps ++ fd1, ∃ o, H a = some o ∧ MutK o := fun a z => (List.mem_append.mp z).elim (renv_mutk ok.env a) (r1.mutk a)
          have hF : ∀ a ∈ fps ++ fd1, ¬ F a := fun a z => (List.mem_append.mp z).elim (ok.nf a) fun z => nf a (List.mem_append_left _ z)
          have dis : ∀ a ∈ fd2, a ∉ fps ++ fd1 := fun a z w => by
            simp only [List.nodup_append, List.mem_append] at nd w
            grind
          have lv2 : ∀ a ∈ fd2, Live H a := fun a z => live_of (r2.mutk a z)
          have nF1 : ∀ a ∈ fd2, ¬ F1 a := fun a z w => by
            rcases ev1.fn a w with y | y | y
            · exact nf a (List.mem_append_right _ z) y
            · exact dis a z y
            · exact y (lv2 a z)
          have r3 := r2.keep ev1.keeps hS hF fun a z => ⟨dis a z, nF1 a z⟩
          have nin : ∀ a ∈ fd2, a ∉ fps1 := fun a z w => (ev1.new a w).elim (dis a z) fun y => y (lv2 a z)
          refine ⟨F1, ρ1, fps1, ds, fd2, ⟨ok1, r3, List.nodup_append.mpr ⟨ok1.nd, ?_, fun a z b w y => by subst y; exact nin a w z⟩, nF1⟩, ?_⟩
          · simp only [List.nodup_append] at nd
            exact nd.2.1.2.1
          · cases h3 : gAll gs ds ρ1 with
            | none => rw [h3] at q; exact q
            | some ρ2 =>
              rw [h3] at q
              intro σ2 F2 H2 fps2 ok2 ev2 kp2
              refine q σ2 F2 H2 fps2 ok2 ?_ (kp1.trans kp2)
              have e1 : Evo F H (fps ++ (fd1 ++ fd2)) F1 H1 (fps1 ++ fd2) := ⟨fun b o hb => ev1.keep b o fun z => hb (by simp only [List.mem_append] at z ⊢; grind), fun a z => by
                rcases List.mem_append.mp z with z | z
                · exact (ev1.new a z).imp (fun y => by simp only [List.mem_append] at y ⊢; grind) id
                · exact .inl (by simp [z]), ev1.fr, fun a z => (ev1.fn a z).imp id (Or.imp (fun y => by simp only [List.mem_append] at y ⊢; grind) id)⟩
              exact e1.trans ev2
theorem pg_or {t : Expr} {g1 g2 : TG} (h1 : PG X t g1) (h2 : PG X t g2) : PG X t (fun v σ H Q => g1 v σ H Q ∨ g2 v σ H Q) := ⟨fun pins s σ H v u Q I r h => h.elim (h1.run pins s σ H v u Q I r) (h2.run pins s σ H v u Q I r)⟩
theorem pg_unp {k : Nat} (hc : X.calm = true) (h : PGs X es (tGs X.K T n gs)) (hl : (assignEach es X.env).length = gs.length) (hst : (assignEach es X.env).findIdx? (·.1) = none := by rfl) : PG X (.Tuple es k pos) (tG X.K T n (gUnp gs)) := by
  refine ⟨fun pins s σ H v u Q I r hq => (pg_or (pg_tup (n := gs.length) hc h hl hst) (pg_unl (n := gs.length) hc h hl hst)).run pins s σ H v u Q I r ?_⟩
  obtain ⟨F, ρ, fps, d, fd, vo, q⟩ := hq
  have len : ∀ {gs : List G} {ds : List D} {ρ ρ' : Ro}, gAll gs ds ρ = some ρ' → ds.length = gs.length := by
    intro gs
    induction gs with
    | nil => intro ds ρ ρ' h; cases ds with
      | nil => rfl
      | cons d ds => cases h
    | cons g gs ih =>
      intro ds ρ ρ' h
      cases ds with
      | nil => cases h
      | cons d ds =>
        unfold gAll at h
        cases hg : g d ρ with
        | none => rw [hg] at h; cases h
        | some ρ1 => rw [hg] at h; simp [ih h]
  cases d with
  | tup ds =>
    obtain ⟨ok, rep, nd, nf⟩ := vo
    cases rep with
    | tup e l r =>
      simp only [gUnp] at q
      cases hg : gAll gs ds ρ with
      | none => rw [hg] at q; exact q.elim
      | some ρ' => exact .inl ⟨_, _, rfl, sqT_of e, by rw [reps_len r]; exact len hg, F, ρ, fps, ds, fd, ⟨ok, r, nd, nf⟩, q⟩
  | lst m ds =>
    obtain ⟨ok, rep, nd, nf⟩ := vo
    simp only [gUnp] at q
    cases hg : gAll gs ds ρ with
    | none => rw [hg] at q; exact q.elim
    | some ρ' =>
      rw [hg] at q
      cases rep with
      | lstO e l r =>
        refine .inr ⟨_, _, rfl, .inl (.inl e), by rw [reps_len r]; exact len hg, F, ρ, fps, ds, _, ⟨ok, r, ?_, fun b z => nf b (List.mem_cons_of_mem _ z)⟩, ?_⟩
        · simp only [List.nodup_append, List.nodup_cons, List.mem_cons] at nd ⊢
          grind
        · rw [hg]
          exact fun σ' F' H' fps' ok' ev' kp' => q σ' F' H' fps' ok' (ev'.more fun b z => by simp only [List.mem_append, List.mem_cons] at z ⊢; grind) kp'
      | lstF f e l r => exact .inr ⟨_, _, rfl, .inl e, by rw [reps_len r]; exact len hg, F, ρ, fps, ds, [], ⟨ok, r, nd, nf⟩, by rw [hg]; exact q⟩
  | _ => exact q.elim
/-! ### what is walked -/
/-- a list of its own -/
theorem gives_lstO {a : Addr} {us : List V} {ds : List D} (hl : us.length = ds.length) : Gives K (Itl K a) ds (fun i F H fr => ∃ f, fr = a :: f ∧ H a = some (.lst us) ∧ Reps K F H (us.drop i) (ds.drop i) f ∧ (∀ b ∈ fr, ¬ F b)) where
  keep := by
    rintro i F H fr S F' H' ⟨f, rfl, e, r, nf⟩ k hS hF hd
    refine ⟨f, rfl, (k.keep a _ (hd a (List.mem_cons_self ..)).1 e (fun ps z => nomatch z)).ex (.inr fun z => z), r.keep k hS hF fun b z => hd b (List.mem_cons_of_mem _ z), fun b z => (hd b z).2⟩
  mutk := by
    rintro i F H fr ⟨f, rfl, e, r, nf⟩ b hb
    rcases List.mem_cons.mp hb with rfl | hb
    · exact ⟨_, e, trivial⟩
    · exact r.mutk b hb
  go := by
    rintro i F H fr d ⟨f, rfl, e, r, nf⟩ hd
    have hi : i < ds.length := (List.getElem?_eq_some_iff.mp hd).1
    have hiu : i < us.length := by omega
    rw [List.drop_eq_getElem_cons hi, List.drop_eq_getElem_cons hiu] at r
    have ed : ds[i] = d := (List.getElem?_eq_some_iff.mp hd).2
    cases r with
    | cons r1 r2 =>
      rename_i f1 f2
      refine ⟨⟨us, us[i], sqL_of (.inl e), by simp [hiu]⟩, fun x H' hy => ?_⟩
      obtain ⟨rfl, hx⟩ := hy
      have ex := hx us (sqL_of (.inl e))
      rw [List.getElem?_eq_getElem hiu] at ex
      cases ex
      refine ⟨f1, a :: f2, by rw [← ed]; exact r1, ⟨f2, rfl, e, r2, fun b z => nf b (by simp only [List.mem_cons, List.mem_append] at z ⊢; grind)⟩, AllKeep.refl, fun _ z => z, fun b z => by simp only [List.mem_cons, List.mem_append] at z ⊢; grind, fun nd => ?_⟩
      simp only [List.nodup_cons, List.nodup_append, List.mem_append, List.mem_cons] at nd ⊢
      grind
  stop := by
    rintro F H fr ⟨f, rfl, e, r, nf⟩
    exact ⟨us, sqL_of (.inl e), by omega⟩
theorem gives_lstF {a : Addr} {us : List V} {ds : List D} (hl : us.length = ds.length) : Gives K (Itl K a) ds (fun i F H fr => fr = [] ∧ F a ∧ Rd H a (.lst us) ∧ Reps K F H us ds []) where
  keep := by
    rintro i F H fr S F' H' ⟨rfl, hf, e, r⟩ k hS hF hd
    exact ⟨rfl, k.fr a hf, rd_keep k (fun z => hF a z hf) (nt_of_mutK trivial) e, r.keep k hS hF nomem2⟩
  mutk := by
    rintro i F H fr ⟨rfl, hf, e, r⟩ b hb
    exact absurd hb List.not_mem_nil
  go := by
    rintro i F H fr d ⟨rfl, hf, e, r⟩ hd
    obtain ⟨w, fc, ew, rw', sb⟩ := reps_get r hd
    have e0 : fc = [] := List.sublist_nil.mp sb
    subst e0
    refine ⟨⟨us, w, sqL_of e, ew⟩, fun x H' hy => ?_⟩
    obtain ⟨rfl, hx⟩ := hy
    have ex := hx us (sqL_of e)
    rw [ew] at ex
    cases ex
    exact ⟨[], [], rw', ⟨rfl, hf, e, r⟩, AllKeep.refl, fun _ z => z, fun _ z => z, fun z => z⟩
  stop := by
    rintro F H fr ⟨rfl, hf, e, r⟩
    exact ⟨us, sqL_of e, by omega⟩
theorem gives_cel {a : Addr} {od : Obj} {us : List V} {ds : List D} (hl : us.length = ds.length) : Gives K (Itl K a) ds (fun i F H fr => fr = [] ∧ H a = some (.frz od (.lst us)) ∧ Reps K F H us ds []) where
  keep := by
    rintro i F H fr S F' H' ⟨rfl, e, r⟩ k hS hF hd
    exact ⟨rfl, frz_keep k hS e, r.keep k hS hF nomem2⟩
  mutk := by
    rintro i F H fr ⟨rfl, e, r⟩ b hb
    exact absurd hb List.not_mem_nil
  go := by
    rintro i F H fr d ⟨rfl, e, r⟩ hd
    obtain ⟨w, fc, ew, rw', sb⟩ := reps_get r hd
    have e0 : fc = [] := List.sublist_nil.mp sb
    subst e0
    refine ⟨⟨us, w, sqL_of (.inr ⟨_, e⟩), ew⟩, fun x H' hy => ?_⟩
    obtain ⟨rfl, hx⟩ := hy
    have ex := hx us (sqL_of (.inr ⟨_, e⟩))
    rw [ew] at ex
    cases ex
    exact ⟨[], [], rw', ⟨rfl, e, r⟩, AllKeep.refl, fun _ z => z, fun _ z => z, fun z => z⟩
  stop := by
    rintro F H fr ⟨rfl, e, r⟩
    exact ⟨us, sqL_of (.inr ⟨_, e⟩), by omega⟩
theorem gives_tup {a : Addr} {us : List V} {ds : List D} (hl : us.length = ds.length) : Gives K (Itt K a) ds (fun i F H fr => H a = some (.tup us) ∧ Reps K F H (us.drop i) (ds.drop i) fr ∧ ∀ b ∈ fr, ¬ F b) where
  keep := by
    rintro i F H fr S F' H' ⟨e, r, nf⟩ k hS hF hd
    exact ⟨sqT_keep k hS e, r.keep k hS hF hd, fun b z => (hd b z).2⟩
  mutk := fun i F H fr h b hb => h.2.1.mutk b hb
  go := by
    rintro i F H fr d ⟨e, r, nf⟩ hd
    have hi : i < ds.length := (List.getElem?_eq_some_iff.mp hd).1
    have hiu : i < us.length := by omega
    rw [List.drop_eq_getElem_cons hi, List.drop_eq_getElem_cons hiu] at r
    have ed : ds[i] = d := (List.getElem?_eq_some_iff.mp hd).2
    cases r with
    | cons r1 r2 =>
      rename_i f1 f2
      refine ⟨⟨us, us[i], sqT_of e, by simp [hiu]⟩, fun x H' hy => ?_⟩
      obtain ⟨rfl, hx⟩ := hy
      have ex := hx us (sqT_of e)
      rw [List.getElem?_eq_getElem hiu] at ex
      cases ex
      exact ⟨f1, f2, by rw [← ed]; exact r1, ⟨e, r2, fun b z => nf b (List.mem_append_right _ z)⟩, AllKeep.refl, fun _ z => z, fun b z => z, fun nd => nd⟩
  stop := by
    rintro F H fr ⟨e, r, nf⟩
    exact ⟨us, sqT_of e, by omega⟩
/-- what stands still: atoms handed out -/
theorem gives_still {J : It} {ds : List D} {P : Hp → Prop} (hk : ∀ (F : Addr → Prop) (H : Hp) (S : List Addr) (F' : Addr → Prop) (H' : Hp), P H → Keeps S F H F' H' → (∀ a ∈ S, ∃ o, H a = some o ∧ MutK o) → P H')
    (hg : ∀ (i : Nat) (H : Hp) (d : D), P H → ds[i]? = some d → J.go i H ∧ ∀ x H', J.yld i H x H' → H' = H ∧ ∀ F, Rep K F H x d []) (hs : ∀ H, P H → J.stop ds.length H) : Gives K J ds (fun i F H fr => fr = [] ∧ P H) where
  keep := by
    rintro i F H fr S F' H' ⟨rfl, p⟩ k hS hF hd
    exact ⟨rfl, hk F H S F' H' p k hS⟩
  mutk := by
    rintro i F H fr ⟨rfl, p⟩ b hb
    exact absurd hb List.not_mem_nil
  go := by
    rintro i F H fr d ⟨rfl, p⟩ hd
    obtain ⟨g1, g2⟩ := hg i H d p hd
    refine ⟨g1, fun x H' hy => ?_⟩
    obtain ⟨rfl, r⟩ := g2 x H' hy
    exact ⟨[], [], r F, ⟨rfl, p⟩, AllKeep.refl, fun _ z => z, fun _ z => z, fun z => z⟩
  stop := by
    rintro F H fr ⟨rfl, p⟩
    exact hs H p
/-- pairs in new tuples, of frozen things -/
theorem gives_pair {J : It} {ds : List D} {Q : Nat → V → V → Prop} {P : (Addr → Prop) → Hp → Prop} (hk : ∀ (F : Addr → Prop) (H : Hp) (S : List Addr) (F' : Addr → Prop) (H' : Hp), P F H → Keeps S F H F' H' → (∀ a ∈ S, ∃ o, H a = some o ∧ MutK o) → (∀ a ∈ S, ¬ F a) → P F' H')
    (hg : ∀ (i : Nat) (F : Addr → Prop) (H : Hp) (d : D), P F H → ds[i]? = some d → J.go i H ∧ ∀ v H', J.yld i H v H' → ∃ T x y dx dy, v = .ref T ∧ H T = none ∧ H' = upd H T (.tup [x, y]) ∧ d = .tup [dx, dy] ∧ Rep K F H x dx [] ∧ Rep K F H y dy []) (hs : ∀ F H, P F H → J.stop ds.length H) : Gives K J ds (fun i F H fr => fr = [] ∧ P F H) where
  keep := by
    rintro i F H fr S F' H' ⟨rfl, p⟩ k hS hF hd
    exact ⟨rfl, hk F H S F' H' p k hS hF⟩
  mutk := by
    rintro i F H fr ⟨rfl, p⟩ b hb
    exact absurd hb List.not_mem_nil
  go := by
    rintro i F H fr d ⟨rfl, p⟩ hd
    obtain ⟨g1, g2⟩ := hg i F H d p hd
    refine ⟨g1, fun v H' hy => ?_⟩
    obtain ⟨t, x, y, dx, dy, rfl, hT, rfl, rfl, rx, ry⟩ := g2 v H' hy
    have rs : Reps K F H [x, y] [dx, dy] [] := .cons (fp := []) (fps := []) rx (.cons (fp := []) (fps := []) ry .nil)
    refine ⟨[], [], .tup upd_same (by show 2 ≤ sizeLine; rw [sl_sz]; decide) (rs.laid hT nomem'), ⟨rfl, hk F H [] F _ p ⟨fun b u _ e n => upd_keep hT b u e n, fun _ z => z⟩ nomem' nomem'⟩, upd_keep hT, fun T t => tabs_upd t hT, fun _ z => z, fun z => z⟩
  stop := by
    rintro F H fr ⟨rfl, p⟩
    exact hs F H p
end
end IS
end
section
set_option Elab.async false
set_option linter.all false
set_option autoImplicit false
set_option maxRecDepth 100000
set_option maxHeartbeats 1000000
/-! IS, part 21: lists, tuples, texts, dicts, ranges, enumerate, zip as what is walked. -/
namespace IS
open PySem PySem.Spec PySem.W PyProof.Rows L2 IL LamX
section
variable {X : Cx} {T : Tb} {W : WK} {H : Hp} {F : Addr → Prop} {K : PySem.W.Frag} {σ : L2.St} {tg e : Expr} {es : List Expr} {m : Ex} {ar : A} {pos : Pos}
/-- a list, a tuple, a text, a dict (which is locked) -/
def iAny (K : PySem.W.Frag) (td : TE) : TI := fun σ H R => td σ H fun x H1 =>
  (∃ z, x = .str z ∧ R (Its z) H1) ∨
  ∃ a, x = .ref a ∧ ((∃ xs, SqL K H1 a xs ∧ R (Itl K a) H1) ∨ (∃ xs, SqT K H1 a xs ∧ R (Itt K a) H1) ∨
    (∃ kvs o, H1 a = some (.frz o (.dK kvs)) ∧ R (Itk a o kvs) H1) ∨ (∃ kvs o, H1 a = some (.frz o (.dT kvs)) ∧ R (Itkt a o kvs) H1) ∨
    (∃ kvs, H1 a = some (.dK kvs) ∧ ∀ o, R (Itk a o kvs) (upd H1 a (.frz o (.dK kvs)))) ∨ ∃ kvs, H1 a = some (.dT kvs) ∧ ∀ o, R (Itkt a o kvs) (upd H1 a (.frz o (.dT kvs))))
theorem pi_any {td : TE} (he : PE X e td) : PI X tg e (iAny X.K td) := by
  refine ⟨fun pins s σ H R I h => ?_⟩
  refine thn (he.run pins s σ H _ I h) fun v s1 ⟨x, H1, I1, r1, q1⟩ => ?_
  have keysK : ∀ {a : Addr} {kvs : List (L2.Key × V)} {o : Obj} {H2 : Hp}, Inv X pins σ H2 s1 → H2 a = some (.frz o (.dK kvs)) → R (Itk a o kvs) H2 → wpAny (model X.prog X.w) X.A (pyIter (.ref a)) (PIE X pins σ tg R) X.xe s1 := by
    intro a kvs o H2 I2 hd q
    obtain ⟨hs, hgd, hx, es, ep, vs, hdt, hsz, kv, hm⟩ := I2.frzK hd
    refine iter_keys hs hgd hx hdt (pi_one (tk := s1.toks) I2 _ (turn_keys _ hdt) ⟨_, Heap.get?_push_size _ rfl, rfl, ?_⟩ q)
    rw [hsz] <;> rfl
  have keysT : ∀ {a : Addr} {kvs : List (List L2.Key × V)} {o : Obj} {H2 : Hp}, Inv X pins σ H2 s1 → H2 a = some (.frz o (.dT kvs)) → R (Itkt a o kvs) H2 → wpAny (model X.prog X.w) X.A (pyIter (.ref a)) (PIE X pins σ tg R) X.xe s1 := by
    intro a kvs o H2 I2 hd q
    obtain ⟨hs, hgd, hx, es, ep, hdt, hsz, ent⟩ := I2.frzT hd
    refine iter_keys hs hgd hx hdt (pi_one (tk := s1.toks) I2 _ (turn_keysT _ hdt) ⟨_, Heap.get?_push_size _ rfl, rfl, ?_⟩ q)
    rw [hsz] <;> rfl
  rcases q1 with ⟨z, rfl, q⟩ | ⟨a, rfl, ⟨xs, hq, q⟩ | ⟨xs, hq, q⟩ | ⟨kvs, o, hd, q⟩ | ⟨kvs, o, hd, q⟩ | ⟨kvs, hd, q⟩ | ⟨kvs, hd, q⟩⟩
  · obtain ⟨t, rfl⟩ := r1
    cases ha : z.cps.all (· < 128)
    · exact wpAny_pyIter_wide ha (pi_one (tk := s1.toks) I1 _ (turn_str _ z t "str_iterator" (.inr rfl)) ⟨_, Heap.get?_push_size _ rfl, rfl, rfl⟩ q)
    · exact wpAny_pyIter_ascii ha (pi_one (tk := s1.toks) I1 _ (turn_str _ z t "str_ascii_iterator" (.inl rfl)) ⟨_, Heap.get?_push_size _ rfl, rfl, rfl⟩ q)
  · cases r1
    obtain ⟨its, rv, p, hz⟩ := I1.list hq
    refine wpAny_pyIter_list p.isList ?_
    refine ⟨s1.heap.objs.size, [s1.heap.objs.size], _, _, H1, rfl, I1.kept (t' := s1.toks) fun b o e => Heap.get?_push_of_some _ e, turn_list a _, ⟨_, Heap.get?_push_size _ rfl, rfl, rfl⟩, fun b hb => ?_, q⟩
    have e : b = s1.heap.objs.size := by simpa using hb
    subst e
    exact I1.fpOk (Nat.le_refl _) (I1.hok.fresh (Nat.le_refl _))
  · cases r1
    obtain ⟨its, rv, p, hz⟩ := I1.tuple hq
    refine wpAny_pyIter_tuple (show s1.heap.IsTuple a its.toArray from p) ?_
    refine ⟨s1.heap.objs.size, [s1.heap.objs.size], _, _, H1, rfl, I1.kept (t' := s1.toks) fun b o e => Heap.get?_push_of_some _ e, turn_tuple a _, ⟨_, Heap.get?_push_size _ rfl, rfl, rfl⟩, fun b hb => ?_, q⟩
    have e : b = s1.heap.objs.size := by simpa using hb
    subst e
    exact I1.fpOk (Nat.le_refl _) (I1.hok.fresh (Nat.le_refl _))
  · cases r1; exact keysK I1 hd q
  · cases r1; exact keysT I1 hd q
  · cases r1
    obtain ⟨od, I2⟩ := I1.lock hd trivial
    exact keysK I2 upd_same (q od)
  · cases r1
    obtain ⟨od, I2⟩ := I1.lock hd trivial
    exact keysT I2 upd_same (q od)
theorem frz_hard {S : List Addr} {F F' : Addr → Prop} {H H' : Hp} {a : Addr} {o : Obj} {u : HO} (k : Keeps S F H F' H') (hS : ∀ a ∈ S, ∃ o, H a = some o ∧ MutK o) (h : H a = some (.frz o u)) : H' a = some (.frz o u) :=
  (k.keep a _ (fun z => by obtain ⟨u', e, m⟩ := hS a z; rw [h] at e; cases e; exact m) h (fun ps e => nomatch e)).ex (.inr fun z => z)
/-- the dict's keys, once it is locked -/
theorem gives_keysK {a : Addr} {o : Obj} {kvs : List (L2.Key × V)} (hk : ∀ p ∈ kvs, KOk p.1) : Gives K (Itk a o kvs) ((kvs.map fun p => DK.k p.1).map kD) (fun i F H fr => fr = [] ∧ H a = some (.frz o (.dK kvs))) :=
  gives_still (P := fun H => H a = some (.frz o (.dK kvs))) (fun F H S F' H' p k hS => frz_hard k hS p) (fun i H d p hd => by
    have hi : i < kvs.length := by simpa using (List.getElem?_eq_some_iff.mp hd).1
    refine ⟨⟨p, hi⟩, fun x H' hy => ?_⟩
    obtain ⟨rfl, k, v, e, rfl⟩ := hy
    refine ⟨rfl, fun F => ?_⟩
    rw [List.map_map, List.getElem?_map, e] at hd
    cases hd
    exact key_rep (hk _ (List.mem_of_getElem? e))) fun H p => ⟨p, by simp⟩
theorem gives_keysT {a : Addr} {o : Obj} {kvs : List (List L2.Key × V)} (hk : ∀ p ∈ kvs, p.1.length ≤ sizeLine ∧ ∀ x ∈ p.1, KOk x) : Gives K (Itkt a o kvs) ((kvs.map fun p => DK.t p.1).map kD) (fun i F H fr => fr = [] ∧ H a = some (.frz o (.dT kvs))) :=
  gives_still (P := fun H => H a = some (.frz o (.dT kvs))) (fun F H S F' H' p k hS => frz_hard k hS p) (fun i H d p hd => by
    have hi : i < kvs.length := by simpa using (List.getElem?_eq_some_iff.mp hd).1
    refine ⟨⟨p, hi⟩, fun x H' hy => ?_⟩
    obtain ⟨rfl, k, v, q, e, rfl, eq⟩ := hy
    refine ⟨rfl, fun F => ?_⟩
    rw [List.map_map, List.getElem?_map, e] at hd
    cases hd
    have := hk _ (List.mem_of_getElem? e)
    exact .tup eq (by rw [List.length_map]; exact this.1) (keys_rep this.2)) fun H p => ⟨p, by simp⟩
theorem gives_str {z : Str} : Gives K (Its z) (z.cps.toList.map fun c => D.str ⟨#[c]⟩) (fun i F H fr => fr = [] ∧ True) :=
  gives_still (P := fun _ => True) (fun _ _ _ _ _ p _ _ => p) (fun i H d p hd => by
    have hi : i < z.cps.size := by simpa using (List.getElem?_eq_some_iff.mp hd).1
    refine ⟨hi, fun x H' hy => ?_⟩
    obtain ⟨rfl, c, e, rfl⟩ := hy
    refine ⟨rfl, fun F => ?_⟩
    rw [List.getElem?_map, Array.getElem?_toList, e] at hd
    cases hd
    exact .str _ (by rw [sl_sz]; show 1 ≤ sz; decide)) fun H p => by show z.cps.size ≤ _; simp
theorem pi_weak {wi wi' : TI} (h : PI X tg e wi) (i : ∀ σ H R, wi' σ H R → wi σ H R) : PI X tg e wi' := ⟨fun pins s σ H R I q => h.run pins s σ H R I (i σ H R q)⟩
theorem lock_keeps {a : Addr} {u : HO} {od : Obj} (hf : F a) (h : H a = some u) (hd : isD u) : Keeps [] F H F (upd H a (.frz od u)) := ⟨fun b o _ e n => by
  by_cases hb : b = a
  · subst hb
    rw [h] at e
    cases e
    exact .inr ⟨hf, hd, od, upd_same⟩
  · exact .inl (by rw [upd_ne hb]; exact e), fun _ z => z⟩
theorem Ok.keepR {K : PySem.W.Frag} {ρ : Ro} {fps : List Addr} {H' : Hp} (ok : Ok K T F H σ ρ fps) (k : Keeps [] F H F H') (ht : Tabs T H') : Ok K T F H' σ ρ fps :=
  ⟨renv_map (S := fps) (fun {v d f} r hf => r.keep k nomem' nomem' (fun a z => ⟨List.not_mem_nil, ok.nf a (hf a z)⟩)) ok.env fun a z => z, ok.nd, ok.nf, fun a z => let ⟨u, e, n⟩ := ok.lv a z; (k.keep a u List.not_mem_nil e n).live n, ht⟩
theorem tabs_lock {a : Addr} {u : HO} {od : Obj} (t : Tabs T H) (h : H a = some u) (m : MutK u) : Tabs T (upd H a (.frz od u)) := Tabs.same t fun b w e _ => by
  by_cases hb : b = a
  · subst hb
    rw [h] at e
    cases e
    exact .inr m
  · exact .inl (by rw [upd_ne hb]; exact e)
theorem evo_keeps {f : List Addr} {H' : Hp} (k : Keeps [] F H F H') : Evo F H f F H' f := ⟨fun b o _ e n => k.keep b o List.not_mem_nil e n, fun a z => .inl z, fun _ z => z, fun _ z => .inl z⟩
/-- for x in a list, a tuple, a text, a frozen dict -/
theorem pi_mem (he : PE X e (tE X.K T W m)) : PI X tg e (tQ X.K T W (q1 m)) := pi_weak (pi_any (pe_own he)) fun σ H R ⟨F, ρ, fps, ok, q⟩ => by
  refine ⟨F, ρ, fps, ok, ?_⟩
  unfold q1 qOf at q
  show tR X.K T W (m ρ).own F ρ fps σ H _
  cases h1 : (m ρ).own with
  | bad => rw [h1] at q; exact q
  | exc C fs st => rw [h1] at q; exact q
  | ok d l st ρ1 =>
    rw [h1] at q
    have := own_ok (K := X.K) h1
    subst this
    simp only at q
    intro v F1 H1 fps1 fd vo ev sb
    cases hm : mem d with
    | none => rw [hm] at q; exact q.elim
    | some ds =>
      rw [hm] at q
      simp only at q
      have go : ∀ (J : It) (I : Nat → (Addr → Prop) → Hp → List Addr → Prop) (H' : Hp) (fr : List Addr), Gives X.K J ds I → I 0 F1 H' fr → Ok X.K T F1 H' σ ρ1 fps1 → (fps1 ++ fr).Nodup → (∀ a ∈ fr, ¬ F1 a) → Evo F1 H1 (fps1 ++ fd) F1 H' (fps1 ++ fr) → ds.length ≤ sizeLine → R J H' :=
        fun J I H' fr g i0 ok' nd nf e2 hl => q J I F1 H' fps1 fr ok' g i0 nd nf (ev.trans e2) hl
      obtain ⟨ok1, rep, nd1, nf1⟩ := vo
      cases d with
      | str z =>
        cases hm
        obtain ⟨rfl, hl⟩ := rep.inv_str
        cases rep
        exact .inl ⟨z, rfl, go _ _ H1 [] gives_str ⟨rfl, trivial⟩ ok1 (by simpa using ok1.nd) nomem' (Evo.refl) (by simpa [Str.length] using hl)⟩
      | lst m2 xs =>
        cases hm
        cases rep with
        | lstO e l r => exact .inr ⟨_, rfl, .inl ⟨_, sqL_of (.inl e), go _ _ H1 _ (gives_lstO (reps_len r)) ⟨_, rfl, e, r, nf1⟩ ok1 nd1 nf1 Evo.refl (by rw [← reps_len r]; exact l)⟩⟩
        | lstF f e l r => exact .inr ⟨_, rfl, .inl ⟨_, sqL_of e, go _ _ H1 [] (gives_lstF (reps_len r)) ⟨rfl, f, e, r⟩ ok1 nd1 nf1 Evo.refl (by rw [← reps_len r]; exact l)⟩⟩
      | cel m2 xs =>
        cases hm
        cases rep with
        | cel e l r => exact .inr ⟨_, rfl, .inl ⟨_, sqL_of (.inr ⟨_, e⟩), go _ _ H1 [] (gives_cel (reps_len r)) ⟨rfl, e, r⟩ ok1 nd1 nf1 Evo.refl (by rw [← reps_len r]; exact l)⟩⟩
      | tup xs =>
        cases hm
        cases rep with
        | tup e l r => exact .inr ⟨_, rfl, .inr (.inl ⟨_, sqT_of e, go _ _ H1 _ (gives_tup (reps_len r)) ⟨e, r, nf1⟩ ok1 nd1 nf1 Evo.refl (by rw [← reps_len r]; exact l)⟩)⟩
      | dct m2 t ks xs =>
        cases m2 with
        | true => cases hm
        | false =>
          cases hm
          cases rep with
          | dctF f e ct l r =>
            rename_i a o us
            cases ct with
            | k kvs hk hn =>
              have hlen : ((kvs.map fun p => DK.k p.1).map kD).length ≤ sizeLine := by simpa using l
              rcases e with e | ⟨od, e⟩
              · refine .inr ⟨a, rfl, .inr (.inr (.inr (.inr (.inl ⟨kvs, e, fun o => ?_⟩))))⟩
                have k1 := lock_keeps (od := o) f e trivial
                exact go _ _ _ [] (gives_keysK hk) ⟨rfl, upd_same⟩ (ok1.keepR k1 (tabs_lock ok1.tb e trivial)) (by simpa using ok1.nd) nomem' (evo_keeps k1) hlen
              · exact .inr ⟨a, rfl, .inr (.inr (.inl ⟨kvs, od, e, go _ _ H1 [] (gives_keysK hk) ⟨rfl, e⟩ ok1 (by simpa using ok1.nd) nomem' Evo.refl hlen⟩))⟩
            | t kvs hk hn =>
              have hlen : ((kvs.map fun p => DK.t p.1).map kD).length ≤ sizeLine := by simpa using l
              rcases e with e | ⟨od, e⟩
              · refine .inr ⟨a, rfl, .inr (.inr (.inr (.inr (.inr ⟨kvs, e, fun o => ?_⟩))))⟩
                have k1 := lock_keeps (od := o) f e trivial
                exact go _ _ _ [] (gives_keysT hk) ⟨rfl, upd_same⟩ (ok1.keepR k1 (tabs_lock ok1.tb e trivial)) (by simpa using ok1.nd) nomem' (evo_keeps k1) hlen
              · exact .inr ⟨a, rfl, .inr (.inr (.inr (.inl ⟨kvs, od, e, go _ _ H1 [] (gives_keysT hk) ⟨rfl, e⟩ ok1 (by simpa using ok1.nd) nomem' Evo.refl hlen⟩)))⟩
      | _ => cases hm
/-! ### of arguments -/
theorem gives_range {lo : Int} {k : Nat} : Gives K (Itr lo k) ((List.range k).map fun (i : Nat) => D.int (lo + (i : Int))) (fun i F H fr => fr = [] ∧ True) :=
  gives_still (P := fun _ => True) (fun _ _ _ _ _ p _ _ => p) (fun i H d p hd => by
    have hi : i < k := by simpa using (List.getElem?_eq_some_iff.mp hd).1
    refine ⟨hi, fun x H' hy => ?_⟩
    obtain ⟨rfl, rfl⟩ := hy
    refine ⟨rfl, fun F => ?_⟩
    rw [List.getElem?_map, List.getElem?_range hi] at hd
    cases hd
    exact .int _) fun H p => by show k ≤ _; simp
theorem qA_out {f : List D → Option (List D)} {R : It → Hp → Prop} (h : tQ K T W (qA f ar) σ H R) {Qi : List V → Hp → Prop} (ht : ∀ (F : Addr → Prop) (H1 : Hp) (ρ : Ro) (fps : List Addr) (vs : List V) (ds : List D) (xs : List D), Ok K T F H1 σ ρ fps → Reps K F H1 vs ds [] → f ds = some xs →
      (∀ (J : It) (I : Nat → (Addr → Prop) → Hp → List Addr → Prop), Gives K J xs I → I 0 F H1 [] → xs.length ≤ sizeLine → R J H1) → Qi vs H1) : tA K T W ar σ H Qi := by
  obtain ⟨F, ρ, fps, ok, q⟩ := h
  refine ⟨F, ρ, fps, ok, ?_⟩
  unfold qA at q
  cases h1 : ar ρ with
  | bad => rw [h1] at q; exact q
  | exc C fs st => rw [h1] at q; exact q
  | ok ds st ρ1 =>
    rw [h1] at q
    simp only at q
    intro vs F1 H1 fps1 fd ao ev sb
    by_cases hz : fzs ds = true
    · rw [if_pos hz] at q
      have e0 := ao.rep.fz hz
      subst e0
      cases hf : f ds with
      | none => rw [hf] at q; exact q.elim
      | some xs =>
        rw [hf] at q
        exact ht F1 H1 ρ1 fps1 vs ds xs ao.ok ao.rep hf fun J I g i0 hl => q J I F1 H1 fps1 [] ao.ok g i0 (by simpa using ao.ok.nd) nomem' ev hl
    · rw [if_neg hz] at q; exact q.elim
theorem reps_one {v : List V} {a : D} (rs : Reps K F H v [a] []) : ∃ x, v = [x] ∧ Rep K F H x a [] := by
  cases v with
  | nil => cases rs
  | cons v vs =>
    obtain ⟨b, ds', e, r1, r2⟩ := reps_cons rs
    cases e
    cases vs with
    | cons w ws => cases r2
    | nil => exact ⟨_, rfl, r1⟩
theorem reps_two {v : List V} {a b : D} (rs : Reps K F H v [a, b] []) : ∃ x y, v = [x, y] ∧ Rep K F H x a [] ∧ Rep K F H y b [] := by
  cases v with
  | nil => cases rs
  | cons v vs =>
    obtain ⟨c, ds', e, r1, r2⟩ := reps_cons rs
    cases e
    obtain ⟨y, rfl, ry⟩ := reps_one r2
    exact ⟨_, _, rfl, r1, ry⟩
theorem pi_range1' {a : Expr} {p : Pos} (hg : Gl X "range") (hm : X.mg "range" = none) (ha : PA X [a] (tA X.K T W ar)) (hs : starEach [a] X.env = [(false, eval a X.env)] := by rfl) : PI X tg (.Call (.Name "range" p) [a] [] pos) (tQ X.K T W (qA wRange1 ar)) :=
  pi_weak (pi_range1 hg hm ha hs) fun σ H R h => qA_out h fun F H1 ρ fps vs ds xs ok rs hf k => by
    unfold wRange1 at hf
    split at hf
    · split at hf
      · rename_i j hj
        cases hf
        obtain ⟨x, rfl, rx⟩ := reps_one rs
        cases rx.inv_int
        refine ⟨j, rfl, hj.1, by omega, ?_⟩
        have g := gives_range (K := X.K) (lo := 0) (k := j.toNat)
        simp only [Int.zero_add] at g
        refine k _ _ g ⟨rfl, trivial⟩ ?_
        rw [sl_sz, List.length_map, List.length_range]
        show j.toNat ≤ 16777216
        omega
      · cases hf
    · cases hf
theorem pi_zip' {a b : Expr} {p tpos : Pos} {elts : List Expr} {kk : Nat} (hg : Gl X "zip") (hm : X.mg "zip" = none) (ha : PA X [a, b] (tA X.K T W ar)) (hs : starEach [a, b] X.env = (false, eval a X.env) :: starEach [b] X.env := by rfl) (hpl : (backTo pos (starEach [b] X.env)).any (·.1) = false := by rfl) :
    PI X (.Tuple elts kk tpos) (.Call (.Name "zip" p) [a, b] [] pos) (tQ X.K T W (qA wZip ar)) :=
  pi_weak (RZ.pi_zipA hg hm ha hs hpl) fun σ H R h => qA_out h fun F H1 ρ fps vs ds xs ok rs hf k => by
    have at_zip : ∀ {us ys : List D} {i : Nat} {d : D}, ((us.zip ys).map fun p => D.tup [p.1, p.2])[i]? = some d → ∃ u y, us[i]? = some u ∧ ys[i]? = some y ∧ d = .tup [u, y] := by
      intro us ys i d hd
      rw [List.getElem?_map] at hd
      cases hz : (us.zip ys)[i]? with
      | none => rw [hz] at hd; cases hd
      | some p =>
        rw [hz] at hd
        cases hd
        obtain ⟨h1, h2⟩ := List.getElem?_zip_eq_some.mp hz
        exact ⟨_, _, h1, h2, rfl⟩
    unfold wZip at hf
    split at hf
    · rename_i m us m2 ys
      cases hf
      obtain ⟨x, y, rfl, rx, ry⟩ := reps_two rs
      cases rx with
      | lstF f e l r =>
        rename_i a ws
        cases ry with
        | lstF f2 e2 l2 r2 =>
          rename_i b zs
          have hl := reps_len r
          have hl2 := reps_len r2
          refine ⟨a, b, ws, zs, rfl, .inl ⟨sqL_of e, sqL_of e2, k _ _ (gives_pair (K := X.K) (J := Itz X.K a b) (P := fun F H => (F a ∧ Rd H a (.lst ws) ∧ Reps X.K F H ws us []) ∧ F b ∧ Rd H b (.lst zs) ∧ Reps X.K F H zs ys []) (Q := fun _ _ _ => True)
            (fun F H S F' H' p kp hS hF => ⟨⟨kp.fr a p.1.1, rd_keep kp (fun z => hF a z p.1.1) (nt_of_mutK trivial) p.1.2.1, p.1.2.2.keep kp hS hF nomem2⟩, kp.fr b p.2.1, rd_keep kp (fun z => hF b z p.2.1) (nt_of_mutK trivial) p.2.2.1, p.2.2.2.keep kp hS hF nomem2⟩) (fun i F H d p hd => ?_) fun F H p => ?_) ⟨rfl, ⟨f, e, r⟩, f2, e2, r2⟩ ?_⟩⟩
          · obtain ⟨⟨pf, pe, pr⟩, pf2, pe2, pr2⟩ := p
            obtain ⟨u, y, hu, hy, rfl⟩ := at_zip hd
            obtain ⟨w, fc, ew, rw', sb⟩ := reps_get pr hu
            obtain ⟨w2, fc2, ew2, rw2, sb2⟩ := reps_get pr2 hy
            have e0 : fc = [] := List.sublist_nil.mp sb
            have e1 : fc2 = [] := List.sublist_nil.mp sb2
            subst e0 e1
            refine ⟨⟨ws, zs, w, w2, sqL_of pe, sqL_of pe2, ew, ew2⟩, fun v H' hyl => ?_⟩
            obtain ⟨t, x', y', rfl, hT, rfl, hx, hy'⟩ := hyl
            have ex := hx ws (sqL_of pe)
            have ey := hy' zs (sqL_of pe2)
            rw [ew] at ex
            rw [ew2] at ey
            cases ex; cases ey
            exact ⟨t, _, _, _, _, rfl, hT, rfl, rfl, rw', rw2⟩
          · refine ⟨ws, zs, sqL_of p.1.2.1, sqL_of p.2.2.1, ?_⟩
            simp
            omega
          · simp
            omega
    · rename_i us ys
      cases hf
      obtain ⟨x, y, rfl, rx, ry⟩ := reps_two rs
      obtain ⟨a, ws, rfl, e, l, r⟩ := rx.inv_tup
      obtain ⟨b, zs, rfl, e2, l2, r2⟩ := ry.inv_tup
      have hl := reps_len r
      have hl2 := reps_len r2
      refine ⟨a, b, ws, zs, rfl, .inr ⟨sqT_of e, sqT_of e2, k _ _ (gives_pair (K := X.K) (J := RZ.ItzT X.K a b) (P := fun F H => (H a = some (.tup ws) ∧ Reps X.K F H ws us []) ∧ H b = some (.tup zs) ∧ Reps X.K F H zs ys []) (Q := fun _ _ _ => True)
        (fun F H S F' H' p kp hS hF => ⟨⟨sqT_keep kp hS p.1.1, p.1.2.keep kp hS hF nomem2⟩, sqT_keep kp hS p.2.1, p.2.2.keep kp hS hF nomem2⟩) (fun i F H d p hd => ?_) fun F H p => ?_) ⟨rfl, ⟨e, r⟩, e2, r2⟩ ?_⟩⟩
      · obtain ⟨⟨pe, pr⟩, pe2, pr2⟩ := p
        obtain ⟨u, y, hu, hy, rfl⟩ := at_zip hd
        obtain ⟨w, fc, ew, rw', sb⟩ := reps_get pr hu
        obtain ⟨w2, fc2, ew2, rw2, sb2⟩ := reps_get pr2 hy
        have e0 : fc = [] := List.sublist_nil.mp sb
        have e1 : fc2 = [] := List.sublist_nil.mp sb2
        subst e0 e1
        refine ⟨⟨ws, zs, w, w2, sqT_of pe, sqT_of pe2, ew, ew2⟩, fun v H' hyl => ?_⟩
        obtain ⟨t, x', y', rfl, hT, rfl, hx, hy'⟩ := hyl
        have ex := hx ws (sqT_of pe)
        have ey := hy' zs (sqT_of pe2)
        rw [ew] at ex
        rw [ew2] at ey
        cases ex; cases ey
        exact ⟨t, _, _, _, _, rfl, hT, rfl, rfl, rw', rw2⟩
      · refine ⟨ws, zs, sqT_of p.1.1, sqT_of p.2.1, ?_⟩
        simp
        omega
      · simp
        omega
    · cases hf
end
end IS
end
section
set_option Elab.async false
set_option linter.all false
set_option autoImplicit false
set_option maxRecDepth 100000
set_option maxHeartbeats 1000000
/-! IS, part 22: a def that changes its first argument. -/
namespace IS
open PySem PySem.Spec PySem.W PyProof.Rows L2 IL LamX
/-- the promise: the first argument is a thing of its own, the others are frozen -/
def spM (K : PySem.W.Frag) (T : Tb) (n : Nat) (f : Fm) : Sp := fun vs H Q E => ∃ (x : V) (ws : List V), vs = x :: ws ∧ ws.length = n ∧ ∃ (F : Addr → Prop) (io : D) (ds : List D) (fio : List Addr), Rep K F H x io fio ∧ Reps K F H ws ds [] ∧ fio.Nodup ∧ (∀ a ∈ fio, ¬ F a) ∧ (∀ a, F a → Live H a) ∧ Tabs T H ∧ match f io ds with
  | .ret d io' => ∀ (v : V) (F' : Addr → Prop) (H' : Hp) (fd fio' : List Addr), Rep K F' H' v d fd → Rep K F' H' x io' fio' → (fio' ++ fd).Nodup → (∀ a ∈ fio' ++ fd, ¬ F' a) → (∀ a, F' a → Live H' a) → Tabs T H' → Evo F H fio F' H' (fio' ++ fd) → Q v H'
  | .exc C fs => ExcW K T E F H fio C fs false
  | .bad => False
section
variable {P : Program} {w : World} {K : PySem.W.Frag} {mg : Str → Option Value} {base : Heap} {x qual : Str} {params : Arguments} {body : List Stmt} {scope : Scope} {f : Addr} {fd : FuncData} {N ps : List Str} {k n : Nat} {b : S} {T : Tb}
theorem fnok_M (Fd : FunD K x qual params body scope [] [] f fd) (Sc : FnScope N ps scope) (hN : N.length = ps.length + n) (hp : 0 < ps.length)
    (hb : ∀ (cdv : Value) (A : Around) (outer : List Env) (s : Shared) (H : Hp) (E : XK), Room k (A.deeper (envOfC qual scope s.heap.objs.size f cdv)) → PSs (cxOf (L2.CX P w) P w K mg base N qual scope f cdv A outer s H E) body (tS K T E (fun j => j ≠ 0) b)) :
    FnOk P w K mg base (L2.CX P w) (k + 1) f fd ps (spM K T (ps.length - 1) (fnM n b)) := by
  refine Fd.ok Sc (fun vs H Q E h => ?_) (fun cdv A outer s H vs Q E hr h => ⟨_, hb cdv A outer s H E hr, ?_⟩)
  · obtain ⟨x, ws, rfl, hl, _⟩ := h
    simp only [List.length_cons, hl]
    omega
  · obtain ⟨x, ws, rfl, hl, F, io, ds, fio, rx, rs, nd, nf, lv, tb, q⟩ := h
    have e1 : N.length - (x :: ws).length = n := by simp only [List.length_cons, hl]; omega
    have env : REnv K F H (L2.start N (x :: ws)) (some io :: (ds.map some ++ List.replicate n none)) fio := by
      unfold L2.start
      rw [e1]
      have := REnv.cons rx (renv_start (n := n) rs)
      simpa using this
    refine ⟨F, _, fio, ⟨env, nd, nf, lv, tb⟩, ?_⟩
    unfold fnM at q
    have fin : ∀ (ρ' : Ro) (σ' : L2.St) (F' : Addr → Prop) (H' : Hp) (fps' : List Addr) (io' : D) (r : Ro), ρ' = some io' :: r → Ok K T F' H' σ' ρ' fps' → Kp (fun j => j ≠ 0) (L2.start N (x :: ws)) σ' → ∃ fio' fr, fps' = fio' ++ fr ∧ Rep K F' H' x io' fio' := by
      intro ρ' σ' F' H' fps' io' r e ok' kp
      subst e
      have e0 : σ'[0]? = some (some x) := by
        rw [kp.2 0 (by simp)]
        unfold L2.start
        rfl
      have env' := ok'.env
      cases env' with
      | cons r1 r2 =>
        simp at e0
        subst e0
        exact ⟨_, _, rfl, r1⟩
    cases h1 : b (some io :: (ds.map some ++ List.replicate n none)) with
    | bad => rw [h1] at q; exact q
    | bk ρ' => rw [h1] at q; exact q.elim
    | ct ρ' => rw [h1] at q; exact q.elim
    | exc C fs => rw [h1] at q; exact q
    | nx ρ' =>
      rw [h1] at q
      cases ρ' with
      | nil => exact q.elim
      | cons o r =>
        cases o with
        | none => exact q.elim
        | some io' =>
          simp only at q
          intro σ' F' H' fps' ok' ev' kp'
          obtain ⟨fio', fr, e2, r1⟩ := fin _ σ' F' H' fps' io' r rfl ok' kp'
          have nd2 := ok'.nd
          rw [e2] at nd2
          exact q .non F' H' [] fio' .non r1 (by simpa using (List.nodup_append.mp nd2).1) (fun a z => ok'.nf a (by rw [e2]; simp at z; simp [z])) ok'.lv ok'.tb (ev'.sub fun a z => by rw [e2]; simp at z; simp [z])
    | rt d ρ' =>
      rw [h1] at q
      cases ρ' with
      | nil => exact q.elim
      | cons o r =>
        cases o with
        | none => exact q.elim
        | some io' =>
          simp only at q
          intro σ' v F' H' fps' fd' vo ev' kp'
          obtain ⟨fio', fr, e2, r1⟩ := fin _ σ' F' H' fps' io' r rfl vo.ok kp'
          have nd2 := vo.nd
          rw [e2] at nd2
          refine q v F' H' fd' fio' vo.rep r1 (by simp only [List.nodup_append, List.mem_append] at nd2 ⊢; grind) (fun a z => ?_) vo.ok.lv vo.ok.tb (ev'.sub fun a z => ?_)
          · rcases List.mem_append.mp z with z | z
            · exact vo.ok.nf a (by rw [e2]; simp [z])
            · exact vo.nf a z
          · rw [e2]
            simp only [List.mem_append] at z ⊢
            grind
end
mutual
theorem Rep.fz_of {K : PySem.W.Frag} {F : Addr → Prop} {H : Hp} : ∀ {v : V} {d : D} {f : List Addr}, Rep K F H v d f → f = [] → d.fz = true
  | _, _, _, .non, _ => rfl
  | _, _, _, .bl b, _ => rfl
  | _, _, _, .int b, _ => rfl
  | _, _, _, .str b l, _ => rfl
  | _, _, _, .ty b, _ => rfl
  | _, _, _, .glo b, _ => rfl
  | _, _, _, .lstO e l r, z => by cases z
  | _, _, _, .lstF f e l r, z => by simp only [D.fz, Bool.not_false, Bool.true_and]; exact Reps.fz_of r rfl
  | _, _, _, .scr e, _ => rfl
  | _, _, _, .lam _ _ _, _ => rfl
  | _, _, _, .cel _ _ r, _ => by simp only [D.fz]; exact Reps.fz_of r rfl
  | _, _, _, .err _ _ _ r, _ => by simp only [D.fz]; exact Reps.fz_of r rfl
  | _, _, _, .err0 _, _ => rfl
  | _, _, _, .tup e l r, z => by simp only [D.fz]; exact Reps.fz_of r z
  | _, _, _, .dctO e c l r, z => by cases z
  | _, _, _, .dctF f e c l r, z => by simp only [D.fz, Bool.not_false, Bool.true_and]; exact Reps.fz_of r rfl
  | _, _, _, .insO e l r, z => by cases z
  | _, _, _, .insF f e l r, z => by simp only [D.fz, Bool.not_false, Bool.true_and]; exact Reps.fz_of r rfl
theorem Reps.fz_of {K : PySem.W.Frag} {F : Addr → Prop} {H : Hp} : ∀ {vs : List V} {ds : List D} {f : List Addr}, Reps K F H vs ds f → f = [] → fzs ds = true
  | _, _, _, .nil, _ => rfl
  | _, _, _, .cons r q, z => by
    obtain ⟨e1, e2⟩ := List.append_eq_nil_iff.mp z
    simp only [fzs, Bool.and_eq_true]
    exact ⟨Rep.fz_of r e1, Reps.fz_of q e2⟩
end
section
variable {X : Cx} {T : Tb} {W : WK} {e : Expr} {mo : Ex} {f : Fm} {p : Pe} {n : Nat}
theorem pe_callM (h : PE X e (fun σ H Q => tE X.K T W mo σ H fun x H1 => tP X.K T W p σ H1 fun ws H2 => spM X.K T n f (x :: ws) H2 Q W)) (hn : ∀ ρ ds is st ρ', p ρ = .ok ds is st ρ' → ds.length = n) : PE X e (tE X.K T W (eCallM f mo p)) := by
  refine pe_weak h fun σ H Q ⟨F, ρ, fps, ok, q⟩ => ⟨F, ρ, fps, ok, ?_⟩
  unfold eCallM at q
  cases h1 : mo ρ with
  | bad => rw [h1] at q; exact q
  | exc C fs st => rw [h1] at q; exact q
  | ok x lx sx ρ1 =>
    rw [h1] at q
    simp only at q
    -- from the arguments on
    have go : ∀ (F1 : Addr → Prop) (H1 : Hp) (fps1 fx : List Addr) (v : V), Ok X.K T F1 H1 σ ρ1 fps1 → Evo F H fps F1 H1 (fps1 ++ fx) →
        (∀ (ws : List V) (ds : List D) (s2 : Bool) (ρ2 : Ro) (F2 : Addr → Prop) (H2 : Hp) (fps2 fd2 : List Addr), p ρ1 = .ok ds [] s2 ρ2 → Ok X.K T F2 H2 σ ρ2 fps2 → PVs X.K F2 H2 σ ρ2 ws ds [] fd2 → (fps2 ++ fd2).Nodup → (∀ a ∈ fd2, ¬ F2 a) → Evo F1 H1 fps1 F2 H2 (fps2 ++ fd2) → Stb s2 ρ1 ρ2 fps1 fps2 H1 F2 H2 → spM X.K T n f (v :: ws) H2 Q W) →
        tP X.K T W p σ H1 (fun ws H2 => spM X.K T n f (v :: ws) H2 Q W) := by
      intro F1 H1 fps1 fx v ok1 ev hv
      refine ⟨F1, ρ1, fps1, ok1, ?_⟩
      cases h2 : p ρ1 with
      | bad => rw [h2] at q; exact q
      | exc C fs st => rw [h2] at q; exact ExcW.then (K := X.K) (fx := fx) q ev
      | ok ds is s2 ρ2 =>
        rw [h2] at q
        simp only at q
        cases is with
        | cons i is => exact q.elim
        | nil => exact fun ws F2 H2 fps2 fd2 ok2 pv nd nf ev2 sb2 => hv ws ds s2 ρ2 F2 H2 fps2 fd2 h2 ok2 pv nd nf ev2 sb2
    -- the call: what is frozen for it
    have frz : ∀ {ws : List V} {ds : List D} {F2 : Addr → Prop} {H2 : Hp} {fps2 fd2 : List Addr} {ρ2 : Ro}, Ok X.K T F2 H2 σ ρ2 fps2 → PVs X.K F2 H2 σ ρ2 ws ds [] fd2 → (fps2 ++ fd2).Nodup → (∀ a ∈ fd2, ¬ F2 a) → Reps X.K (fun a => F2 a ∨ a ∈ fd2) H2 ws (frzs ds) [] ∧ Ok X.K T (fun a => F2 a ∨ a ∈ fd2) H2 σ ρ2 fps2 := by
      intro ws ds F2 H2 fps2 fd2 ρ2 ok2 pv nd nf
      have hF : ∀ a, F2 a → (F2 a ∨ a ∈ fd2) := fun a z => .inl z
      have dis : ∀ a ∈ fps2, a ∉ fd2 := fun a z w => by
        simp only [List.nodup_append] at nd
        exact nd.2.2 a z a w rfl
      refine ⟨pv.frz (c := fun _ => false) (fz := []) (fun i v hc => by cases hc) hF nomem' (fun i z => nomatch z) fun a z => .inr z, ?_, ok2.nd, fun a z w => w.elim (ok2.nf a z) (dis a z), fun a z => z.elim (ok2.lv a) fun z => live_of (pv.mutk a z), ok2.tb⟩
      exact renv_map (S := fps2) (fun {v d f} r hf => r.keep (S := []) ⟨fun _ _ _ e _ => .inl e, hF⟩ nomem' nomem' fun a z => ⟨List.not_mem_nil, fun w => w.elim (ok2.nf a (hf a z)) (dis a (hf a z))⟩) ok2.env fun a z => z
    cases lx with
    | none =>
      intro v F1 H1 fps1 fd vo ev sb
      refine go F1 H1 fps1 fd v vo.ok ev fun ws ds s2 ρ2 F2 H2 fps2 fd2 h2 ok2 pv nd nf ev2 sb2 => ?_
      rw [h2] at q
      simp only [List.isEmpty_nil, if_true] at q
      obtain ⟨rr, nfr, dis, e3⟩ := vo.aok.frame ev2
      cases rr with
      | cons r1 rn =>
        cases rn
        rename_i fx
        simp only [List.append_nil] at nfr dis e3 ev
        have evA : Evo F H fps F2 H2 (fps2 ++ (fx ++ fd2)) := ev.trans e3
        obtain ⟨rs, okF⟩ := frz ok2 pv nd nf
        have nfx : fx.Nodup := by
          have := vo.nd
          simp only [List.append_nil, List.nodup_append] at this
          exact this.2.1
        have nfF : ∀ a ∈ fx, ¬ (F2 a ∨ a ∈ fd2) := fun a z w => w.elim (nfr a z) (dis a z).2
        have r2 : Rep X.K (fun a => F2 a ∨ a ∈ fd2) H2 v x fx := r1.keep (S := []) ⟨fun _ _ _ e _ => .inl e, fun a z => .inl z⟩ nomem' nomem' fun a z => ⟨List.not_mem_nil, nfF a z⟩
        refine ⟨v, ws, rfl, by rw [pv.len]; exact hn _ _ _ _ _ h2, _, x, frzs ds, fx, r2, rs, nfx, nfF, okF.lv, okF.tb, ?_⟩
        have e0 : Evo F2 H2 (fps2 ++ (fx ++ fd2)) (fun a => F2 a ∨ a ∈ fd2) H2 (fps2 ++ fx) := ⟨fun _ _ _ e _ => .inl e, fun a z => .inl (by simp only [List.mem_append] at z ⊢; grind), fun a z => .inl z, fun a z => z.elim .inl fun z => .inr (.inl (by simp [z]))⟩
        have evB := evA.trans e0
        cases hf : f x (frzs ds) with
        | bad => rw [hf] at q; exact q.elim
        | exc C fs =>
          rw [hf] at q
          simp only at q
          intro cls dx F' H' a b c d
          refine q cls dx F' H' a b c (evB.trans (d.more fun a z => ?_))
          have : a ∈ fx := z
          simp [this]
        | ret d io =>
          rw [hf] at q
          simp only at q
          intro v' F3 H3 fd3 fio' rv rio nd3 nf3 lv3 tb3 e4
          have okC : Ok X.K T F3 H3 σ ρ2 fps2 ∧ ∀ a ∈ fps2, a ∉ fio' ++ fd3 := by
            have ao : AOk X.K T (fun a => F2 a ∨ a ∈ fd2) H2 σ ρ2 fps2 [v] [x] fx := ⟨okF, .single r2, List.nodup_append.mpr ⟨okF.nd, nfx, fun a z b w e => by subst e; exact (dis a w).1 z⟩, nfF⟩
            have lvp : ∀ a ∈ fps2, Live H2 a := (own_st okF).2
            have nF3 : ∀ a ∈ fps2, ¬ F3 a := fun a z w => by
              rcases e4.fn a w with y | y | y
              · exact okF.nf a z y
              · exact (dis a y).1 z
              · exact y (lvp a z)
            refine ⟨⟨renv_map (S := fps2) (fun {v d f} r hf => r.keep e4.keeps (fun a z => r2.mutk a z) nfF fun a z => ⟨fun w => (dis a w).1 (hf a z), nF3 a (hf a z)⟩) okF.env fun a z => z, okF.nd, nF3, lv3, tb3⟩, fun a z w => (e4.new a w).elim (fun y => (dis a y).1 z) fun y => y (lvp a z)⟩
          refine q v' F3 H3 fps2 fd3 ⟨okC.1, rv, List.nodup_append.mpr ⟨ok2.nd, (List.nodup_append.mp nd3).2.1, fun a z b w e => by subst e; exact okC.2 a z (List.mem_append_right _ w)⟩, fun a z => nf3 a (List.mem_append_right _ z)⟩ ?_ Stb.no
          refine evB.trans ⟨fun b o hb => e4.keep b o fun z => hb (List.mem_append_right _ z), fun a z => ?_, e4.fr, fun a z => (e4.fn a z).imp id (Or.imp (List.mem_append_right _) id)⟩
          rcases List.mem_append.mp z with z | z
          · exact .inl (List.mem_append_left _ z)
          · exact (e4.new a (List.mem_append_right _ z)).imp (List.mem_append_right _) id
    | some l =>
      intro v F1 H1 fps1 ok1 ev sb at1 g1
      refine go F1 H1 fps1 [] v ok1 (by simpa using ev) fun ws ds s2 ρ2 F2 H2 fps2 fd2 h2 ok2 pv nd nf ev2 sb2 => ?_
      rw [h2] at q
      simp only [List.isEmpty_nil, if_true] at q
      by_cases hs : (s2 || l.2.isEmpty) = true
      · rw [if_pos hs] at q
        have at2 : AtL H2 σ l v := by
          rw [Bool.or_eq_true] at hs
          rcases hs with hs | hs
          · obtain ⟨_, _, k⟩ := sb2 hs
            exact at1.keep k
          · obtain ⟨v0, a1, a2⟩ := at1
            obtain ⟨i, pp⟩ := l
            have hp : pp = [] := by simpa using hs
            subst hp
            cases a2
            exact ⟨_, a1, .nil _⟩
        cases g2 : ρ2.get l with
        | none => rw [g2] at q; exact q.elim
        | some x2 =>
          rw [g2] at q
          simp only at q
          obtain ⟨rs, okF⟩ := frz ok2 pv nd nf
          obtain ⟨pre, fd, post, e1, r1, dis, k1⟩ := okF.at at2 g2
          have ndp := okF.nd
          rw [e1] at ndp
          have ndfd : fd.Nodup := by
            simp only [List.nodup_append] at ndp
            exact ndp.2.1.1
          refine ⟨v, ws, rfl, by rw [pv.len]; exact hn _ _ _ _ _ h2, _, x2, frzs ds, fd, r1, rs, ndfd, fun a z => okF.nf a (by rw [e1]; simp [z]), okF.lv, okF.tb, ?_⟩
          have e0 : Evo F2 H2 (fps2 ++ fd2) (fun a => F2 a ∨ a ∈ fd2) H2 fps2 := ⟨fun _ _ _ e _ => .inl e, fun a z => .inl (List.mem_append_left _ z), fun a z => .inl z, fun a z => z.elim .inl fun z => .inr (.inl (by simp [z]))⟩
          have evB : Evo F H fps (fun a => F2 a ∨ a ∈ fd2) H2 fps2 := (ev.trans ev2).trans e0
          cases hf : f x2 (frzs ds) with
          | bad => rw [hf] at q; exact q.elim
          | exc C fs =>
            rw [hf] at q
            simp only at q
            intro cls dx F' H' a b c d
            refine q cls dx F' H' a b c (evB.trans (d.more fun a z => ?_))
            have : a ∈ fd := z
            rw [e1]
            simp [this]
          | ret d io =>
            rw [hf] at q
            simp only at q
            by_cases hz : (io.fz || !x2.fz) = true
            · rw [if_pos hz] at q
              intro v' F3 H3 fd3 fio' rv rio nd3 nf3 lv3 tb3 e4
              have lvp : ∀ a ∈ fps2, Live H2 a := (own_st okF).2
              have h0 : fd = [] → fio' = [] := fun e => by
                rw [Bool.or_eq_true] at hz
                rcases hz with hz | hz
                · exact rio.fz hz
                · subst e
                  have : x2.fz = true := r1.fz_of rfl
                  rw [this] at hz
                  cases hz
              have nF3 : ∀ a, a ∈ pre ∨ a ∈ post → ¬ F3 a := fun a z w => by
                have zf : a ∈ fps2 := by rw [e1]; rcases z with z | z <;> simp [z]
                rcases e4.fn a w with y | y | y
                · exact okF.nf a zf y
                · have := dis a y
                  rcases z with z | z <;> simp [z] at this
                · exact y (lvp a zf)
              have nin : ∀ a, a ∈ pre ∨ a ∈ post → a ∉ fio' ++ fd3 := fun a z w => by
                have zf : a ∈ fps2 := by rw [e1]; rcases z with z | z <;> simp [z]
                rcases e4.new a w with y | y
                · have := dis a y
                  rcases z with z | z <;> simp [z] at this
                · exact y (lvp a zf)
              have env := k1 F3 H3 io fio' e4.keeps nF3 h0 rio
              have nall : (pre ++ (fio' ++ post) ++ fd3).Nodup := by
                simp only [List.nodup_append, List.mem_append] at ndp nd3 nin ⊢
                grind
              have nfall : ∀ a ∈ pre ++ (fio' ++ post), ¬ F3 a := fun a z => by
                simp only [List.mem_append] at z
                rcases z with z | z | z
                · exact nF3 a (.inl z)
                · exact nf3 a (List.mem_append_left _ z)
                · exact nF3 a (.inr z)
              refine q v' F3 H3 (pre ++ (fio' ++ post)) fd3 ⟨⟨env, (List.nodup_append.mp nall).1, nfall, lv3, tb3⟩, rv, nall, fun a z => nf3 a (List.mem_append_right _ z)⟩ ?_ Stb.no
              refine evB.trans ⟨fun b o hb => e4.keep b o fun z => hb (by rw [e1]; simp [z]), fun a z => ?_, e4.fr, fun a z => (e4.fn a z).imp id (Or.imp (fun y => by rw [e1]; simp [y]) id)⟩
              simp only [List.mem_append] at z
              rw [e1]
              rcases z with (z | z | z) | z
              · exact .inl (by simp [z])
              · exact (e4.new a (List.mem_append_left _ z)).imp (fun y => by simp [y]) id
              · exact .inl (by simp [z])
              · exact (e4.new a (List.mem_append_right _ z)).imp (fun y => by simp [y]) id
            · rw [if_neg hz] at q; exact q.elim
      · rw [if_neg hs] at q; exact q.elim
end
end IS
end
section
set_option Elab.async false
set_option linter.all false
set_option autoImplicit false
set_option maxRecDepth 100000
set_option maxHeartbeats 1000000
/-! IS, part 23: tests by operations, and / or / not as values, conditional expressions, comprehensions. -/
namespace IS
open PySem PySem.Spec PySem.W PyProof.Rows L2 IL LamX
section
variable {X : Cx} {T : Tb} {W : WK} {H : Hp} {F : Addr → Prop} {K : PySem.W.Frag} {σ : L2.St} {e a b c : Expr} {m ma mb mc : Ex} {u u' : IL.T} {pos : Pos} {n : Nat} {f : Fp} {p : Pe}
theorem spP_mono {K : PySem.W.Frag} {vs : List V} {Q Q' : VK} (hq : ∀ v H, Q v H → Q' v H) (h : spP K T n f vs H Q W) : spP K T n f vs H Q' W := by
  obtain ⟨hl, F, ds, rs, lv, tb, q⟩ := h
  refine ⟨hl, F, ds, rs, lv, tb, ?_⟩
  cases hf : f ds with
  | bad => rw [hf] at q; exact q
  | exc C fs => rw [hf] at q; exact q
  | ret d => rw [hf] at q; exact fun v F' H' fd a b c d e g => hq _ _ (q v F' H' fd a b c d e g)
theorem tB_out {K : PySem.W.Frag} {Q : Bool → Hp → Prop} (h : tT K T W (IL.tB m) σ H Q) : tE K T W m σ H fun v H1 => ∃ k, v = .bl k ∧ Q k H1 := by
  obtain ⟨F, ρ, fps, ok, q⟩ := h
  refine ⟨F, ρ, fps, ok, ?_⟩
  unfold IL.tB at q
  cases h1 : m ρ with
  | bad => rw [h1] at q; exact q
  | exc C fs st => rw [h1] at q; exact q
  | ok d l st ρ' =>
    rw [h1] at q
    cases d with
    | bl k =>
      simp only at q
      cases l with
      | none => exact fun v F1 H1 fps1 fd vo ev sb => ⟨k, vo.rep.inv_bl, q F1 H1 fps1 vo.ok (ev.sub fun a z => List.mem_append_left _ z) sb⟩
      | some l =>
        intro v F1 H1 fps1 ok1 ev sb at1 g1
        obtain ⟨_, fd, _, _, r1, _, _⟩ := ok1.at at1 g1
        exact ⟨k, r1.inv_bl, q F1 H1 fps1 ok1 ev sb⟩
    | _ => exact q.elim
theorem pt_seen (h : PT X e (fun σ H Q => tP X.K T W p σ H fun vs H1 => spP X.K T n f vs H1 (fun v H2 => ∃ k, v = .bl k ∧ Q k H2) W)) (hn : ∀ ρ ds is st ρ', p ρ = .ok ds is st ρ' → ds.length = n) : PT X e (tT X.K T W (IL.tB (eCallP f p))) := by
  refine ⟨fun pins s σ H Q I hq => ?_⟩
  refine wpAny_mono (h.run pins s σ H (fun k H2 => ∃ H3, Unl X H2 H3 ∧ Q k H3) I ?_) (fun k s' hq => ?_) fun _ _ z => z
  · exact tP_mono (fun vs H1 z => spP_mono (fun v H2 ⟨H3, u3, k, e, q⟩ => ⟨k, e, H3, u3, q⟩) z) (seen_key I (tB_out hq) hn)
  · obtain ⟨H2, I2, H3, h3, q3⟩ := hq
    exact ⟨H3, unlocks I2 h3, q3⟩
/-- a comparison as a test -/
theorem pt_cmp2 {op : CmpOp} {g : D → D → Option D} (ho : OpR X (compareOp op) (r2 X.K T g)) (ha : PE X a (tE X.K T W ma)) (hb : PE X b (tE X.K T W mb)) (hm : behindInMarks op b = false) : PT X (.Compare a [op] [b] pos) (tT X.K T W (IL.tB (eOp2 g ma mb))) :=
  pt_seen (n := 2) (pt_weak (pt_cmpR ho ha hb hm) fun σ H Q q => tE_mono (fun v H1 q => tE_mono (fun w H2 q => rL_of (tP_nil q)) (tP_cons q)) (tP_cons q)) (pn_cons (pn_cons pn_nil))
theorem pe_cmp2 {op : CmpOp} {g : D → D → Option D} (ho : OpR X (compareOp op) (r2 X.K T g)) (ha : PE X a (tE X.K T W ma)) (hb : PE X b (tE X.K T W mb)) (hm : behindInMarks op b = false) : PE X (.Compare a [op] [b] pos) (tE X.K T W (eOp2 g ma mb)) :=
  pe_o2 (pe_cmpR ho ha hb hm) fun _ _ _ _ h => h
theorem pe_bin2 {op : Operator} {g : D → D → Option D} (ho : OpR X (binaryOp op) (r2 X.K T g)) (ha : PE X a (tE X.K T W ma)) (hb : PE X b (tE X.K T W mb)) : PE X (.BinOp a op b pos) (tE X.K T W (eOp2 g ma mb)) :=
  pe_o2 (pe_op ho ha hb) fun _ _ _ _ h => h
theorem pe_un1 {op : UnaryOp} {g : D → Option D} (ho : UnR X (unaryOp op) (r1 X.K T g)) (ha : PE X a (tE X.K T W ma)) : PE X (.UnaryOp op a pos) (tE X.K T W (eOp1 g ma)) :=
  pe_o1 (L2.pe_un ho ha) fun _ _ _ h => h
/-- a call as a test and the like -/
theorem pt_val (h : PE X e (tE X.K T W m)) (he : ∀ whole, isTrue e X.env whole = (do let v ← whole; standAt e.pos; holding [v] (truthy v)) := by intro _; rfl) : PT X e (tT X.K T W (tV m)) := pt_V (pt_truth h he)
/-! ### as values -/
theorem eT_out {K : PySem.W.Frag} {Q : VK} (h : tE K T W (eT u) σ H Q) : tT K T W u σ H fun k H1 => Q (.bl k) H1 := by
  obtain ⟨F, ρ, fps, ok, q⟩ := h
  refine ⟨F, ρ, fps, ok, ?_⟩
  unfold eT at q
  cases h1 : u ρ with
  | bad => rw [h1] at q; exact q
  | exc C fs st => rw [h1] at q; exact q
  | ok k st ρ1 =>
    rw [h1] at q
    exact fun F1 H1 fps1 ok1 ev sb => q (.bl k) F1 H1 fps1 [] (ok1.atom (.bl k)) (by simpa using ev) sb
variable {rest : List Expr}
/-- x and .., x or .. of truths, as values -/
theorem pe_and' (ha : PE X a (tE X.K T W ma)) (hb : PE X (.BoolOp .And (b :: rest) pos) (tE X.K T W (eT u))) : PE X (.BoolOp .And (a :: b :: rest) pos) (tE X.K T W (eT (IL.tAnd (IL.tB ma) u))) := pe_weak (pe_and ha hb) fun σ H Q q => by
  obtain ⟨F, ρ, fps, ok, q2⟩ := eT_out q
  have h := tB_out ⟨F, ρ, fps, ok, tAnd_of ok q2⟩
  refine tE_mono (fun v H1 ⟨k, e, z⟩ => ⟨k, e, ?_⟩) h
  cases k with
  | true =>
    rw [if_pos rfl] at z ⊢
    obtain ⟨F, ρ, fps, ok, q⟩ := z
    refine ⟨F, ρ, fps, ok, ?_⟩
    unfold eT
    cases h1 : u ρ with
    | bad => rw [h1] at q; exact q
    | exc C fs st => rw [h1] at q; exact q
    | ok k st ρ1 =>
      rw [h1] at q
      intro v F1 H1 fps1 fd vo ev sb
      cases vo.rep.inv_bl
      exact q F1 H1 fps1 vo.ok (ev.sub fun a z => List.mem_append_left _ z) sb
  | false =>
    rw [if_neg Bool.false_ne_true] at z ⊢
    exact z
/-- the last of them -/
theorem pe_last {op : BoolOp} (ha : PE X a (tE X.K T W ma)) : PE X (.BoolOp op [a] pos) (tE X.K T W (eT (IL.tB ma))) := pe_weak (pe_one ha) fun σ H Q q => tE_mono (fun v H1 ⟨k, e, z⟩ => by rw [e]; exact z) (tB_out (eT_out q))
/-- a if c else b -/
theorem pe_if' (hc : PT X c (tT X.K T W u)) (ha : PE X a (tE X.K T W ma)) (hb : PE X b (tE X.K T W mb)) : PE X (.IfExp c a b pos) (tE X.K T W (eIf u ma mb)) := pe_weak (pe_ifExp hc (pe_own ha) (pe_own hb)) fun σ H Q ⟨F, ρ, fps, ok, q⟩ => by
  refine ⟨F, ρ, fps, ok, ?_⟩
  unfold eIf at q
  cases h1 : u ρ with
  | bad => rw [h1] at q; exact q
  | exc C fs st => rw [h1] at q; exact q
  | ok k sc ρ1 =>
    rw [h1] at q
    simp only at q
    intro F1 H1 fps1 ok1 ev sb
    have go : ∀ (mx : Ex), tR X.K T W (match (mx ρ1).own with
        | .ok d _ st ρ2 => .ok d none (sc && st) ρ2
        | .exc C fs st => .exc C fs (sc && st)
        | .bad => .bad) F ρ fps σ H Q → tE X.K T W (fun ρ => (mx ρ).own) σ H1 Q := by
      intro mx q
      refine ⟨F1, ρ1, fps1, ok1, ?_⟩
      show tR X.K T W (mx ρ1).own F1 ρ1 fps1 σ H1 Q
      cases h2 : (mx ρ1).own with
      | bad => rw [h2] at q; exact q
      | exc C fs st =>
        rw [h2] at q
        exact ExcW.after (K := X.K) (fx := []) q (by simpa using ev) sb (own_st ok1).1 (own_st ok1).2
      | ok d l st ρ2 =>
        rw [h2] at q
        have := own_ok (K := X.K) h2
        subst this
        exact fun v F2 H2 fps2 fd vo ev2 sb2 => q v F2 H2 fps2 fd vo (ev.trans ev2) (sb.trans sb2 (fun a z => by
          exact (ev2.fr a z)))
    cases k with
    | true => rw [if_pos rfl]; rw [if_pos rfl] at q; exact go ma q
    | false => rw [if_neg Bool.false_ne_true]; rw [if_neg Bool.false_ne_true] at q; exact go mb q
/-! ### comprehensions -/
variable {elt tg iter : Expr} {ifs : List Expr} {scope : Scope} {own : List (Str × Nat)} {q : Sq} {g : G} {m' : Ex} {N : Nat → Prop}
theorem pe_lc' (hc : X.calm = true) (hN : X.N.Nodup) (hi : PI X tg iter (tQ X.K T W q)) (ok : BlkOk X.N X.env.scope scope own)
    (hg : ∀ (s : Shared) (H : Hp) (C : Addr) (cl : List (Str × Addr)) (fp : List Addr), PG (X.blk s H scope (compEnvC scope cl C X.env) fp) tg (tG X.K T (· ∈ own.map (·.2)) g)) (ht : ∀ (s : Shared) (H : Hp) (C : Addr) (cl : List (Str × Addr)) (fp : List Addr), PTs (X.blk s H scope (compEnvC scope cl C X.env) fp) ifs (tT X.K T W0 u))
    (he : ∀ (s : Shared) (H : Hp) (C : Addr) (cl : List (Str × Addr)) (fp : List Addr), PE (X.blk s H scope (compEnvC scope cl C X.env) fp) elt (tE X.K T W0 m)) (hs : ∀ x, foldedSetIterable iter X.env x = pure x := by intro _; rfl) :
    PE X (.ListComp elt [⟨tg, iter, ifs, 0⟩] scope pos) (tE X.K T W (eLC (own.map (·.2)) q g u m)) :=
  pe_weak (pe_lc hc hN hi ok hg ht (fun s H C cl fp => pe_own (X := X.blk s H scope (compEnvC scope cl C X.env) fp) (he s H C cl fp)) hs) fun σ H Q ⟨F, ρ, fps, ok, w⟩ => tLc_of ok w
end
end IS
end
section
set_option Elab.async false
set_option linter.all false
set_option autoImplicit false
set_option maxRecDepth 100000
set_option maxHeartbeats 4000000
/-! IS, part 24: dict comprehensions. The walk of the block is HandS.DictComp's, for keys that are tuples, too. -/
namespace IS
open PySem PySem.Spec PyProof.Rows L2 LamX
section
variable {X : Cx}
end
end IS
end
section
set_option Elab.async false
set_option linter.all false
set_option autoImplicit false
set_option maxRecDepth 100000
set_option maxHeartbeats 4000000
/-! IS, part 25: dict comprehensions. -/
namespace IS
open PySem PySem.Spec PySem.W PyProof.Rows L2 IL LamX
section
variable {X : Cx} {T : Tb} {W : WK} {H : Hp} {F : Addr → Prop} {K : PySem.W.Frag} {σ : L2.St} {ρ : Ro} {fps : List Addr} {vs : List Nat} {q : Sq} {g : G} {u : IL.T} {mk mv : Ex}
variable {kx vx tg iter : Expr} {ifs : List Expr} {scope : Scope} {own : List (Str × Nat)} {pos : Pos} {b : Bool}
end
end IS
end
section
set_option Elab.async false
set_option linter.all false
set_option autoImplicit false
set_option maxRecDepth 100000
set_option maxHeartbeats 1000000
namespace IL
end IL
/-! IS, part 26: own errors are raised. -/
namespace IS
open PySem PySem.Spec PySem.W PyProof.Rows L2 IL LamX
/-- the promise of an __init__ that keeps one thing -/
def spI (C : Addr) (f : Str) : Sp := fun vs H Q E => ∃ (a : Addr) (x : V), vs = [.ref a, x] ∧ H a = some (exo a C none) ∧ ∀ d, H d = none → d ≠ a → Q .non (upd (upd H d (exd d [(f, x)])) a (exo a C (some d)))
section
variable {P : Program} {w : World} {K : PySem.W.Frag} {mg : Str → Option Value} {base : Heap} {qual x f : Str} {params : Arguments} {scope : Scope} {fI C : Addr} {fd : FuncData} {CX : CXT} {p1 p2 p3 pos : Pos}
theorem fnok_I (Fd : FunD K "__init__" qual params [.Assign [.Attribute (.Name "self" p1) f p2] (.Name x p3) pos] scope [] [] fI fd) (Sc : FnScope ["self", x] ["self", x] scope) (T : OexC K C) (hno : PySem.W.findIn K (.ref C) f = some none)
    (v1 : Vis scope "self") (v2 : Vis scope x) (hd : (x == ("__debug__" : Str)) = false) (hcd : (x == ("__classdict__" : Str)) = false) : FnOk P w K mg base CX 1 fI fd ["self", x] (spI C f) := by
  refine Fd.ok Sc (fun vs H Q E h => ?_) (fun cdv A outer s H vs Q E hr h => ⟨_, pss_one (ps_ost (pe_var (i := 0) rfl v1 (by decide) (by decide)) (pe_var (i := 1) rfl v2 hd hcd)), ?_⟩)
  · obtain ⟨a, x, rfl, _⟩ := h
    rfl
  · obtain ⟨a, y, rfl, ea, q⟩ := h
    refine ⟨y, rfl, .ref a, rfl, a, C, rfl, T, hno, .inl ⟨ea, fun dx n ne => q dx n ne⟩⟩
end
section
variable {X : Cx} {T : Tb} {W : WK} {n : Nat → Prop} {CX : CXT} {C f : Str} {fI : Addr} {k : Nat} {fd : FuncData} {ps : List Str} {e : Expr} {ar : A} {p pos pos' : Pos}
end
end IS
end
section
set_option Elab.async false
set_option linter.all false
set_option autoImplicit false
set_option maxRecDepth 100000
set_option maxHeartbeats 1000000
namespace IL
open PySem PySem.W
def mExtO : D → List D → Option (D × D)
  | .lst true xs, [.lst true ys] => if xs.length + ys.length ≤ sz then some (.lst true (xs ++ ys), .non) else none
  | _, _ => none
end IL
/-! IS, part 27: {}, d.get, xs[::-1], str, count, extend, chains. -/
namespace IS
open PySem PySem.Spec PySem.W PyProof.Rows L2 IL LamX
section
variable {X : Cx} {T : Tb} {W : WK} {H : Hp} {F : Addr → Prop} {K : PySem.W.Frag} {σ : L2.St} {pos : Pos} {e : Expr} {m mo mk mx : Ex}
/-! ### d.get(k, x) -/
/-! ### xs[::-1] -/
/-! ### xs.count(y) -/
/-! ### xs.extend(ys) -/
theorem mExtO_ok : MutR K T mExtO rExtend := by
  intro F H x vs d ds fd fa d' z Q rd ra nd nf st hf q
  unfold mExtO at hf
  split at hf
  · rename_i xs ys
    split at hf
    · rename_i hl
      cases hf
      cases rd with
      | lstO e l r =>
        rename_i a us fp
        cases ra with
        | cons ry rn =>
          cases rn
          cases ry with
          | lstO e2 l2 r2 =>
            rename_i b ws fy
            have hl2 : us.length + ws.length ≤ sizeLine := by rw [reps_len r, reps_len r2, sl_sz]; exact hl
            simp only [List.append_nil, List.cons_append, List.nodup_cons, List.mem_append, List.mem_cons, not_or] at nd
            simp only [List.append_nil, List.cons_append] at nf
            have nd2 := nd.2
            simp only [List.nodup_append, List.nodup_cons] at nd2
            have r3 := Reps.upd (a := a) (o := .lst (us ++ ws)) (reps_snocO r r2) e trivial (nf a (List.mem_cons_self ..)) (by simp only [List.mem_append]; exact fun h => h.elim nd.1.1 nd.1.2.2) (fun c hc => nf c (by simp only [List.mem_cons, List.mem_append] at hc ⊢; grind))
            refine ⟨a, b, us, ws, rfl, rfl, e, e2, hl2, q a (.lst (us ++ ws)) .non (a :: (fp ++ fy)) [] (List.mem_cons_self ..) trivial (.lstO upd_same (by rw [List.length_append]; exact hl2) r3) .non ?_ ?_⟩
            · simp only [List.append_nil, List.nodup_cons, List.nodup_append, List.mem_append]
              grind
            · simp only [List.append_nil, List.mem_cons, List.mem_append]
              grind
    · cases hf
  · cases hf
/-! ### a < b < c -/
end
end IS
end
section
set_option Elab.async false
set_option linter.all false
set_option autoImplicit false
set_option maxRecDepth 100000
set_option maxHeartbeats 1000000
/-! IS, part 28: functions as values: their class, ==. -/
namespace PySem
open Sem (wp)
theorem slotFunGa : Slot "function" "__getattribute__" "object.__getattribute__" :=
  .of (owner := "object") (n := "__getattribute__") (by rw [typeLookup_type, builtinLookup_eq_fast]; kernel_rfl) (by decide +kernel) (by decide +kernel) (by decide +kernel) (.inl (by decide +kernel)) (by rw [isSubtype_type]; kernel_rfl)
theorem lkFunClass : typeLookup (.type "function") "__class__" = pure (some (.builtin "object.__class__")) := by rw [typeLookup_type, builtinLookup_eq_fast]; kernel_rfl
theorem subFunOwner : isSubtype (.type "function") (.type (".".intercalate ("object.__class__".cutAt '.').dropLast)) = pure true := by
  rw [F.owner_object_class, isSubtype_type]; kernel_rfl
section
variable {prog : Program} {w : World} {A : Around} {E : Value → Shared → Prop} {h : Heap} {g : Array GenState} {d : Drawn} {t : Nat} {os : OsState} {a : Addr} {o : Obj}
theorem funGet {R : Result → Shared → Prop} (hx : h.get? a = some o) (hc : o.cls = .type "function") (hq : R (.ok (.ret (.type "function"))) ⟨h, g, d, t, os⟩) :
    codeAny (model prog w) A (.call (.builtin "getset_descriptor.__get__") ⟨[.builtin "object.__class__", .ref a, .type "function"], []⟩) R ⟨h, g, d, t, os⟩ := by
  have hT : (⟨h, g, d, t, os⟩ : Shared).TypeIs (.ref a) "function" := ⟨_, hx, hc⟩
  have hT5 : (⟨h, g, d, t, os⟩ : Shared).TypeIs (.builtin "object.__class__") "getset_descriptor" := F.typeOf_object_class
  have f8 := subFunOwner
  refine codeAny_call_builtin F.slot_gs_get.plain F.entry_gs_get (F.slot_gs_get.check _ _ _ _ _ _ _ _ hT5 (F.args_gs_get _ _ _) ?_)
  repeat (any_goals (first | assumption | wp_step))
  refine ⟨Code.quiet_builtin _ (by decide +kernel), codeAny_builtin F.entry_object_class ?_⟩
  repeat (any_goals (first | assumption | wp_step))
theorem funEntry {tk : Tok} {Q : Fin → Shared → Prop} (hx : h.get? a = some o) (hc : o.cls = .type "function") (hq : Q (.done (.ret (.type "function"))) ⟨h, g, d, t, os⟩) :
    wpAny (model prog w) A (Builtin.«object.__getattribute__» ⟨[.ref a, .str "__class__" tk], []⟩) Q E ⟨h, g, d, t, os⟩ := by
  have hT : (⟨h, g, d, t, os⟩ : Shared).TypeIs (.ref a) "function" := ⟨_, hx, hc⟩
  have hT5 : (⟨h, g, d, t, os⟩ : Shared).TypeIs (.builtin "object.__class__") "getset_descriptor" := F.typeOf_object_class
  have f4 := lkFunClass
  have f5 := F.typeOf_object_class
  have f6 := F.slot_gs_get.lookup
  have f7 := F.slot_gs_set.lookup
  repeat (any_goals (first | assumption | wp_step))
  refine funGet hx hc ?_
  repeat (any_goals (first | assumption | wp_step))
theorem funCall {tk : Tok} {R : Result → Shared → Prop} (hx : h.get? a = some o) (hc : o.cls = .type "function") (hq : R (.ok (.ret (.type "function"))) ⟨h, g, d, t, os⟩) :
    codeAny (model prog w) A (.call (.builtin "object.__getattribute__") ⟨[.ref a, .str "__class__" tk], []⟩) R ⟨h, g, d, t, os⟩ :=
  codeAny_call_builtin slotFunGa.plain F.entry_object_getattribute (slotFunGa.check _ _ _ _ _ _ _ _ (show (⟨h, g, d, t, os⟩ : Shared).TypeIs (.ref a) "function" from ⟨_, hx, hc⟩) (F.args_object_getattribute_2 _ _) (funEntry hx hc hq))
theorem funBy {tk : Tok} {Q : Value → Shared → Prop} (hx : h.get? a = some o) (hc : o.cls = .type "function") (hq : Q (.type "function") ⟨h, g, d, t, os⟩) : wpAny (model prog w) A (getAttrBy (.ref a) (.str "__class__" tk) false) Q E ⟨h, g, d, t, os⟩ := by
  have hT : (⟨h, g, d, t, os⟩ : Shared).TypeIs (.ref a) "function" := ⟨_, hx, hc⟩
  have f2 := slotFunGa.lookup
  have f3 := slotFunGa.bind (.ref a)
  repeat (any_goals (first | assumption | wp_step))
  refine funCall hx hc ?_
  repeat (any_goals (first | assumption | wp_step))
theorem funAttr {Q : Option Value → Shared → Prop} (hx : h.get? a = some o) (hc : o.cls = .type "function") (hq : Q (some (.type "function")) ⟨h, g, d, t + 1, os⟩) : wpAny (model prog w) A (getAttr? (.ref a) "__class__") Q E ⟨h, g, d, t, os⟩ := by
  unfold getAttr? getAttrBy?
  repeat (any_goals (first | assumption | with_reducible apply funBy hx hc | wp_step))
end
end PySem
namespace IS
open PySem PySem.Spec PySem.W PyProof.Rows L2 IL LamX
theorem kitx_fun {K : PySem.W.Frag} {a : Addr} : PySem.W.KitX K (.ref a) (.type "function") (PySem.W.KitAt a "function") := PySem.W.kitx_of PySem.W.kitAt_ty (fun {_ _ _ _ _ s} p k => by
  obtain ⟨h, g, d, t, os⟩ := s
  obtain ⟨o, h1, h2⟩ := p
  exact funAttr h1 h2 k)
end IS
end
section
set_option Elab.async false
set_option linter.all false
set_option autoImplicit false
set_option maxRecDepth 100000
set_option maxHeartbeats 1000000
/-! IS, part 29: functions as values: ==, isinstance. -/
namespace PySem
open Sem (wp)
open Builtin
section
variable {prog : Program} {w : World} {A : Around} {E : Value → Shared → Prop} {h : Heap} {g : Array GenState} {d : Drawn} {t : Nat} {os : OsState} {x : Addr} {o : Obj}
end
end PySem
namespace IL
open PySem
/-- isinstance(x, c), where the functions of gl may stand for x -/
def fIsiG (gl : List Str) (x c : D) : Option D := match x with
  | .glo n => if n ∈ gl then (match c with
    | .ty m => if m ∈ ["bool", "int", "str", "list", "tuple", "dict"] then some (.bl false) else none
    | .tup cs => (match tysOf cs with
      | some ns => if ns.all (· ∈ ["bool", "int", "str", "list", "tuple", "dict"]) then some (.bl false) else none
      | none => none)
    | _ => none) else none
  | _ => fIsi x c
end IL
namespace IS
open PySem PySem.Spec PySem.W PyProof.Rows L2 IL LamX
/-- the functions of gl -/
def FnG (K : PySem.W.Frag) (gl : List Str) : Prop := ∀ x ∈ gl, ∃ o, K.lookup (ga K x) = some o ∧ o.cls = .type "function"
theorem kit_fun1 {K : PySem.W.Frag} {n : String} (hn : n ∈ ["bool", "int", "str", "list", "tuple", "dict"]) : PySem.W.kitOne K (.type "function") (.type n) = some false := by
  have tab : (["bool", "int", "str", "list", "tuple", "dict"].all fun n => kitB "function" n == some false) = true := by decide +kernel
  refine kit_ty ?_
  have := List.all_eq_true.mp tab n hn
  simpa using this
theorem kit_funs {K : PySem.W.Frag} : ∀ {ns : List String}, (ns.all (· ∈ ["bool", "int", "str", "list", "tuple", "dict"])) = true → PySem.W.kitAny K (.type "function") (ns.map .type) = some false
  | [], _ => rfl
  | n :: ns, hn => by
    rw [List.all_cons, Bool.and_eq_true] at hn
    rw [List.map_cons]
    exact kitAny_cons (kit_fun1 (by simpa using hn.1)) (fun e => kit_funs hn.2) (fun e => by cases e)
section
variable {X : Cx} {T : Tb} {gl : List Str}
theorem fIsiG_ok (hG : FnG X.K gl) : CallR X (.builtin "isinstance") (rL X.K T (g2 (fIsiG gl))) := by
  intro pins s σ H xs us Q I r h
  obtain ⟨F, x, y, a, b, z, rfl, ra, rb, st, hf, q⟩ := rL2_out h
  cases a with
  | glo n =>
    obtain ⟨u1, u2, rfl, r1, r2⟩ := vals2 r
    simp only [fIsiG] at hf
    split at hf
    · rename_i hn
      obtain ⟨o, ho, hc⟩ := hG n hn
      cases ra
      cases (show u1 = Value.ref (ga X.K n) from r1)
      have p : PySem.W.KitAt (ga X.K n) "function" s.heap := ⟨o, I.kIn _ _ ho, hc⟩
      split at hf
      · split at hf
        · rename_i m hm
          cases hf
          cases rb.inv_ty
          cases (show u2 = Value.type m from r2)
          exact PySem.W.kia_one kitx_fun I.kIn p (kit_fun1 hm) (fun z => nomatch z) fun tk => ⟨.bl _, H, I.tok tk, rfl, q.same st (.bl _)⟩
        · cases hf
      · split at hf
        · rename_i cs ns hns
          split at hf
          · rename_i hn2
            cases hf
            obtain ⟨tp, vs, rfl, e, l, q'⟩ := rb.inv_tup
            cases (show u2 = Value.ref tp from r2)
            obtain ⟨_, its, rv, o, h1, h2, n, h3⟩ := (show ObjOk X.prog X.w H s.heap tp (.tup vs) from I.hok tp _ e)
            have e3 := tys_vals hns q' rv
            obtain ⟨oc, od, dt, sl⟩ := o
            simp only at h2 h3
            subst h2 h3
            rw [e3] at h1
            exact PySem.W.kia_tup kitx_fun I.kIn p h1 (kit_funs hn2) (fun z => nomatch z) fun tk => ⟨.bl _, H, I.tok tk, rfl, q.same st (.bl _)⟩
          · cases hf
        · cases hf
      · cases hf
    · cases hf
  | _ => exact fIsi_ok pins s σ H _ us Q I r ⟨F, [_, _], z, .cons (fp := []) (fps := []) ra (.single rb), st, hf, q⟩
end
/-! ### constants of modules -/
section
variable {X : Cx} {T : Tb} {W : WK} {e : Expr} {m : Ex} {pos p : Pos}
theorem pe_glo {f : Str} (hg : Gl X f) (hm : X.mg f = some (.ref (ga X.K f))) (hd : (f == ("__debug__" : Str)) = false := by decide) : PE X (.Name f p) (tE X.K T W (eC (.glo f))) := pe_const (pe_glob (v := V.ref (ga X.K f)) hg hm rfl hd) fun _ _ => .glo f
end
end IS
end
section
set_option Elab.async false
set_option linter.all false
set_option autoImplicit false
set_option maxRecDepth 100000
set_option maxHeartbeats 1000000
namespace IL
def pick {α : Type} (is : List Nat) (xs : List α) : List α := is.filterMap fun i => xs[i]?
end IL
/-! IS, part 30: calls by keywords alone. -/
namespace IS
open PySem PySem.Spec PySem.W PyProof.Rows L2 IL LamX
section
variable {K : PySem.W.Frag} {F : Addr → Prop} {H : Hp}
theorem repsIx : ∀ {vs : List V} {ds : List D} (i : Nat), Reps K F H vs ds [] → (vs[i]? = none ∧ ds[i]? = none) ∨ ∃ v d, vs[i]? = some v ∧ ds[i]? = some d ∧ Rep K F H v d []
  | [], _, i, h => by cases h; exact .inl ⟨rfl, rfl⟩
  | v :: vs, _, 0, h => by
    obtain ⟨d, ds', rfl, r1, r2⟩ := reps_cons h
    exact .inr ⟨v, d, rfl, rfl, r1⟩
  | v :: vs, _, i + 1, h => by
    obtain ⟨d, ds', rfl, r1, r2⟩ := reps_cons h
    simpa using repsIx i r2
theorem reps_pick {vs : List V} {ds : List D} (h : Reps K F H vs ds []) : ∀ is : List Nat, Reps K F H (pick is vs) (pick is ds) []
  | [] => .nil
  | i :: is => by
    have ih := reps_pick h is
    unfold pick at ih ⊢
    rcases repsIx i h with ⟨e1, e2⟩ | ⟨v, d, e1, e2, r⟩
    · simpa [List.filterMap_cons, e1, e2] using ih
    · simpa [List.filterMap_cons, e1, e2] using Reps.cons (fp := []) (fps := []) r ih
theorem vals_get : ∀ {vs : List V} {ds : List Value} (i : Nat), Vals vs ds → (vs[i]? = none ∧ ds[i]? = none) ∨ ∃ v d, vs[i]? = some v ∧ ds[i]? = some d ∧ RelV v d
  | _, _, i, .nil => .inl ⟨rfl, rfl⟩
  | _, _, 0, .cons r q => .inr ⟨_, _, rfl, rfl, r⟩
  | _, _, i + 1, .cons r q => by simpa using vals_get i q
theorem vals_pick {vs : List V} {ds : List Value} (h : Vals vs ds) : ∀ is : List Nat, Vals (pick is vs) (pick is ds)
  | [] => .nil
  | i :: is => by
    have ih := vals_pick h is
    unfold pick at ih ⊢
    rcases vals_get i h with ⟨e1, e2⟩ | ⟨v, d, e1, e2, r⟩
    · simpa [List.filterMap_cons, e1, e2] using ih
    · simpa [List.filterMap_cons, e1, e2] using Paired.cons r ih
theorem pick_len {α : Type} {xs : List α} : ∀ {is : List Nat}, (∀ i ∈ is, i < xs.length) → (pick is xs).length = is.length
  | [], _ => rfl
  | i :: is, h => by
    have hi := h i (List.mem_cons_self ..)
    have ih := pick_len (is := is) fun j hj => h j (List.mem_cons_of_mem _ hj)
    unfold pick at ih ⊢
    rw [List.filterMap_cons, List.getElem?_eq_getElem hi]
    simpa using ih
end
section
variable {X : Cx} {T : Tb} {W : WK} {CX : CXT} {k n : Nat} {f : Addr} {fd : FuncData} {ps ks : List Str} {x : Str} {p pos : Pos} {kws : List Keyword} {fp : Fp} {pr : Pe} {is : List Nat} {sp : Sp} {E : XK} {tk : TA} {g : List Value → List Value → List Value} {gV : List V → List V → List V} {nm : Option Str} {kpos : Pos} {e : Expr} {m : Ex}
end
end IS
end
section
set_option Elab.async false
set_option linter.all false
set_option autoImplicit false
set_option maxRecDepth 100000
set_option maxHeartbeats 1000000
/-! IS, part 31: sum(lists, []). -/
namespace PySem
open Sem (wp)
section
variable {prog : Program} {w : World} {A : Around} {R : Result → Shared → Prop} {I ax S : Addr} {lists : List (List Value)} {h0 : Heap} {vs : Array Value}
end
end PySem
namespace IL
end IL
namespace IS
open PySem PySem.Spec PySem.W PyProof.Rows L2 IL LamX
section
variable {X : Cx} {T : Tb} {K : PySem.W.Frag} {F : Addr → Prop} {H : Hp}
end
end IS
end
section
set_option Elab.async false
set_option linter.all false
set_option autoImplicit false
set_option maxRecDepth 100000
set_option maxHeartbeats 2000000
namespace IL
end IL
/-! IS, part 32: comprehensions with two for. -/
namespace IS
open PySem PySem.Spec PySem.W PyProof.Rows L2 IL LamX
section
variable {K : PySem.W.Frag} {T : Tb} {A : Asd} {D : Addr} {F : Addr → Prop} {H : Hp} {σ : L2.St} {ρ : Ro} {fps fA fa : List Addr} {acc : List V} {accD : List IL.D}
end
section
variable {X : Cx} {T : Tb} {W : WK} {elt tg iter tg1 iter1 : Expr} {ifs ifs1 : List Expr} {scope : Scope} {own : List (Str × Nat)} {vs1 : List Nat} {pos : Pos} {q q1 : Sq} {g g1 : G} {u u1 : IL.T} {m : Ex}
end
end IS
end
section
set_option Elab.async false
set_option linter.all false
set_option autoImplicit false
set_option maxRecDepth 100000
set_option maxHeartbeats 2000000
/-! IS, part 33: several except clauses that name the error. The walk is HandS.TryMany's, with HandS.Exc's ending of a clause. -/
namespace IS
open PySem PySem.Spec PyProof.Rows L2
inductive HdsA (X : Cx) : List ExceptHandler → List (Value × Option Nat × TsA) → Prop
  | nil : HdsA X [] []
  | cons {x n : Str} {c : Value} {i : Nat} {ts : TsA} {b₀ : Stmt} {suite : List Stmt} {np pos' : Pos} {hds : List ExceptHandler} {l : List (Value × Option Nat × TsA)} (hc : Names X x c) (hi : X.N[i]? = some n) (hln : X.env.kindOf n = some .local)
      (hsu : ∀ (a : Addr) (oe : Obj) (cls : Value) (d : Option Addr) (pn : List (Addr × Obj)), Zc cls d oe → (∃ vs, oe.data = .fields vs) → PSs (X.suite a ((a, oe) :: pn)) (b₀ :: suite) (ts a cls d)) (r : HdsA X hds l) :
      HdsA X (.ExceptHandler (some (.Name x np)) (some n) (b₀ :: suite) pos' :: hds) ((c, some i, ts) :: l)
  | bare {x : Str} {c : Value} {ts : TsA} {b₀ : Stmt} {suite : List Stmt} {np pos' : Pos} {hds : List ExceptHandler} {l : List (Value × Option Nat × TsA)} (hc : Names X x c)
      (hsu : ∀ (a : Addr) (oe : Obj) (cls : Value) (d : Option Addr) (pn : List (Addr × Obj)), Zc cls d oe → (∃ vs, oe.data = .fields vs) → PSs (X.suite a ((a, oe) :: pn)) (b₀ :: suite) (ts a cls d)) (r : HdsA X hds l) :
      HdsA X (.ExceptHandler (some (.Name x np)) none (b₀ :: suite) pos' :: hds) ((c, none, ts) :: l)
section
variable {X : Cx} {body : List Stmt} {h₀ : ExceptHandler} {hds : List ExceptHandler} {l : List (Value × Option Nat × TsA)} {pos : Pos} {tb : WX → TS} {Wout : WX}
end
end IS
end
section
set_option Elab.async false
set_option linter.all false
set_option autoImplicit false
set_option maxRecDepth 100000
set_option maxHeartbeats 2000000
namespace IL
end IL
/-! IS, part 34: a def that calls what it got, and tells what came of it. -/
namespace IS
open PySem PySem.Spec PyProof.Rows L2 IL LamX
/-- the clauses till the one that catches C -/
inductive MetAt (K : PySem.W.Frag) (C : Str) (tf : Str × Option Str) : Mh → Prop
  | head {C' : Str} {r : Mh} : PySem.W.exmOne K (.ref (ga K C)) (.ref (ga K C')) = some true → MetAt K C tf ((C', some tf) :: r)
  | tail {e : Str × Option (Str × Option Str)} {r : Mh} : PySem.W.exmOne K (.ref (ga K C)) (.ref (ga K e.1)) = some false → MetAt K C tf r → MetAt K C tf (e :: r)
/-- what a clause wishes of the end -/
def wMet (K : PySem.W.Frag) (tag : Str) : Option Str → Value → Option Addr → Hp → VK → Prop
  | some f, cls, d, H, rt => ∃ (C dd : Addr) (fs : List (Str × V)) (v : V), cls = .ref C ∧ PySem.W.findIn K (.ref C) f = some none ∧ XfC K C ∧ d = some dd ∧ H dd = some (.xd fs) ∧ fs.lookup f = some v ∧
      ([V.str tag, v] : List V).length ≤ sizeLine ∧ ∀ p, H p = none → rt (.ref p) (upd H p (.tup [.str tag, v]))
  | none, cls, d, H, rt => ∀ p, H p = none → rt (.ref p) (upd H p (.tup [.str tag, .non]))
def EchMet (K : PySem.W.Frag) (h : Mh) (Q : VK) : XK := fun cls d H' => ∃ (C tag : Str) (fo : Option Str), MetAt K C (tag, fo) h ∧ cls = .ref (ga K C) ∧ wMet K tag fo cls d H' Q
def TTmet (K : PySem.W.Frag) (h : Mh) (told : Str) : (XK → Hp → VK → Prop) → Hp → VK → Prop := fun tl H Q =>
  tl (EchMet K h Q) H fun v H1 => ([V.str told, v] : List V).length ≤ sizeLine ∧ ∀ p, H1 p = none → Q (.ref p) (upd H1 p (.tup [.str told, v]))
section
variable {X : Cx}
end
/-! ### the reading -/
/-- what the clauses ask of the module -/
def HMet (K : PySem.W.Frag) (h : Mh) : Prop := ∀ C tag fo, h.lookup C = some (some (tag, fo)) → MetAt K C (tag, fo) h ∧ (∀ f, fo = some f → PySem.W.findIn K (.ref (ga K C)) f = some none ∧ XfC K (ga K C)) ∧ tag.length ≤ sizeLine
section
variable {K : PySem.W.Frag} {T : Tb} {F : Addr → Prop} {H : Hp} {σ : L2.St} {ρ : Ro} {fps : List Addr}
/-- nothing owned was changed: the slots stand -/
theorem Ok.later {F' : Addr → Prop} {H' : Hp} (ok : Ok K T F H σ ρ fps) (e : Evo F H [] F' H' []) (lv : ∀ a, F' a → Live H' a) (tb : Tabs T H') : Ok K T F' H' σ ρ fps := by
  have nF : ∀ a ∈ fps, ¬ F' a := fun a z w => by
    rcases e.fn a w with y | y | y
    · exact ok.nf a z y
    · exact absurd y List.not_mem_nil
    · exact y ((own_st ok).2 a z)
  exact ⟨renv_map (S := fps) (fun {v d f} r hf => r.keep (S := []) ⟨fun b o _ e' n => e.keep b o List.not_mem_nil e' n, e.fr⟩ nomem' nomem' fun a z => ⟨List.not_mem_nil, nF a (hf a z)⟩) ok.env fun a z => z, ok.nd, nF, lv, tb⟩
theorem Evo.later {F' : Addr → Prop} {H' : Hp} {f : List Addr} (e : Evo F H [] F' H' []) : Evo F H f F' H' f :=
  ⟨fun b o _ e' n => e.keep b o List.not_mem_nil e' n, fun a z => .inl z, e.fr, fun a z => (e.fn a z).imp id (Or.imp (fun y => absurd y List.not_mem_nil) id)⟩
end
section
variable {X : Cx} {T : Tb} {W : WK}
end
end IS
end
section
set_option Elab.async false
set_option linter.all false
set_option autoImplicit false
set_option maxRecDepth 100000
set_option maxHeartbeats 2000000
namespace IL
/-- a slot's value is taken out; the slot is not read again -/
def eMv (i : Nat) : Ex := fun ρ => match ρ[i]? with
  | some (some d) => .ok d none false (ρ.set i none)
  | _ => .bad
end IL
/-! IS, part 35: moves. -/
namespace IS
open PySem PySem.Spec PySem.W PyProof.Rows L2 IL LamX
section
variable {K : PySem.W.Frag} {F F' : Addr → Prop} {H H' : Hp}
/-- a slot is emptied -/
theorem renv_take : ∀ {σ : L2.St} {ρ : Ro} {fps : List Addr} {i : Nat} {d : D}, REnv K F H σ ρ fps → ρ[i]? = some (some d) →
    ∃ v pre fd post, σ[i]? = some (some v) ∧ fps = pre ++ (fd ++ post) ∧ Rep K F H v d fd ∧ REnv K F H σ (ρ.set i none) (pre ++ post)
  | _, _, _, i, d, .nil, e => by simp at e
  | _, _, _, 0, d, .skip r, e => by simp at e
  | _, _, _, i + 1, d, .skip r, e => by
    simp at e
    obtain ⟨v, pre, fd, post, e1, e2, r1, h1⟩ := renv_take r e
    exact ⟨v, pre, fd, post, by simpa using e1, e2, r1, .skip h1⟩
  | _, _, _, 0, d, .cons (v := v) (fp := fp) (fps := fps) r q, e => by
    simp at e
    subst e
    exact ⟨v, [], fp, fps, rfl, rfl, r, .skip q⟩
  | _, _, _, i + 1, d, .cons (v := v) (fp := fp) (fps := fps) r q, e => by
    simp at e
    obtain ⟨w, pre, fd, post, e1, e2, r1, h1⟩ := renv_take q e
    refine ⟨w, fp ++ pre, fd, post, by simpa using e1, by rw [e2]; simp, r1, ?_⟩
    rw [List.append_assoc]
    exact .cons r h1
end
section
variable {X : Cx} {T : Tb} {W : WK} {e : Expr}
theorem pe_mv {i : Nat} (h : PE X e (tVar i)) : PE X e (tE X.K T W (eMv i)) := pe_from h fun σ H Q F ρ fps ok q => by
  unfold eMv at q
  cases hi : ρ[i]? with
  | none => rw [hi] at q; exact q.elim
  | some o =>
    rw [hi] at q
    cases o with
    | none => exact q.elim
    | some d =>
      obtain ⟨v, pre, fd, post, e1, e2, r1, k1⟩ := renv_take ok.env hi
      have nd := ok.nd
      rw [e2] at nd
      have nd2 : (pre ++ post ++ fd).Nodup := by
        simp only [List.nodup_append, List.mem_append] at nd ⊢
        grind
      have sub : ∀ a ∈ pre ++ post ++ fd, a ∈ fps := fun a z => by
        rw [e2]
        simp only [List.mem_append] at z ⊢
        grind
      exact ⟨v, e1, q v F H (pre ++ post) fd ⟨⟨k1, (List.nodup_append.mp nd2).1, fun a z => ok.nf a (sub a (List.mem_append_left _ z)), ok.lv, ok.tb⟩, r1, nd2, fun a z => ok.nf a (sub a (List.mem_append_right _ z))⟩ (Evo.refl.sub sub) Stb.no⟩
end
section
variable {X : Cx} {T : Tb} {W : WK} {e : Expr} {m : Ex} {f : D → Option D} {r : V → Hp → VK → Prop}
end
section
variable {K : PySem.W.Frag} {F : Addr → Prop} {H : Hp} {T : Tb}
end
end IS
end
section
set_option Elab.async false
set_option linter.all false
set_option autoImplicit false
set_option maxRecDepth 100000
set_option maxHeartbeats 2000000
/-! IS, part 36: sorted and slices of owned lists. -/
namespace IS
open PySem PySem.Spec PySem.W PyProof.Rows L2 IL LamX
section
variable {X : Cx} {T : Tb} {W : WK}
end
section
variable {X : Cx} {T : Tb} {W : WK} {K : PySem.W.Frag} {F : Addr → Prop} {H : Hp}
variable {e : Expr} {m : Ex}
end
end IS
end
section
set_option Elab.async false
set_option linter.all false
set_option autoImplicit false
set_option maxRecDepth 100000
set_option maxHeartbeats 2000000
namespace IL
end IL
/-! IS, part 37: a loop that changes what it walks, part by part. -/
namespace IS
open PySem PySem.Spec PySem.W PyProof.Rows L2 IL LamX
section
variable {K : PySem.W.Frag} {T : Tb} {F : Addr → Prop} {H : Hp} {σ : L2.St} {ρ : Ro} {fps : List Addr}
/-- how a list or a tuple is built -/
structure SeqK (K : PySem.W.Frag) (mk : List D → D) (seq : Hp → Addr → List V → Prop) : Prop where
  sub : ∀ xs k, (mk xs).sub (.ix k) = xs[k]?
  upd : ∀ xs k d, (mk xs).upd (.ix k) d = mk (xs.set k d)
  rep : ∀ (F : Addr → Prop) (H : Hp) (v : V) (xs : List D) (fp : List Addr), Rep K F H v (mk xs) fp → ∃ a us, v = .ref a ∧ seq H a us ∧ us.length = xs.length ∧ ∀ (k : Nat) (w : V), us[k]? = some w → Fol H v [.ix k] w
end
section
variable {X : Cx} {T : Tb} {W : WK} {n : Nat → Prop} {st : Stmt} {f : Fm} {i j : Nat} {tb : TS}
end
end IS
end
section
set_option Elab.async false
set_option linter.all false
set_option autoImplicit false
set_option maxRecDepth 100000
set_option maxHeartbeats 2000000
/-! IS, part 38: defs that call themselves: without fuel. -/
namespace IS
open PySem PySem.Spec PySem.W PyProof.Rows L2 IL LamX
section
variable {P : Program} {w : World} {K : PySem.W.Frag} {mg : Str → Option Value} {base : Heap} {x qual : Str} {params : Arguments} {body : List Stmt} {scope : Scope} {f : Addr} {fd : FuncData} {N ps : List Str} {k n : Nat} {T : Tb} {CX : CXT}
theorem fnok_noP (Fd : FunD K x qual params body scope [] [] f fd) (Sc : FnScope N ps scope) : FnOk P w K mg base CX (k + 1) f fd ps (spP K T n fun _ => .bad) :=
  Fd.ok Sc (fun vs H Q E h => by obtain ⟨_, F, ds, _, _, _, q⟩ := h; exact q.elim) fun cdv A outer s H vs Q E hr h => by obtain ⟨_, F, ds, _, _, _, q⟩ := h; exact q.elim
end
end IS
end
section
set_option Elab.async false
set_option linter.all false
set_option autoImplicit false
set_option maxRecDepth 100000
set_option maxHeartbeats 2000000
/-! IS, part 39: enumerate of a tuple. -/
namespace PySem
open Sem (wp)
open AutoSeq1 (wpAny_loadPart')
theorem meetsEnumNewT (l : Addr) (items : Array Value) (n : Nat) (dct : Option Addr) (sl : Array (Option Value)) :
    Meets (Builtin.«enumerate.__new__» ⟨[.type "enumerate", .ref l], []⟩) (fun _ R s => s.heap.get? l = some { cls := .type "tuple", dict := dct, data := .seq items n, slots := sl } ∧
      R (.ok (.ret (.ref (s.heap.push { cls := .type "tuple_iterator", data := .fields #[.ref l, .int 0 0] }).objs.size)))
        { s with heap := (s.heap.push { cls := .type "tuple_iterator", data := .fields #[.ref l, .int 0 0] }).push { cls := .type "enumerate", data := .fields #[.none, .bool false, .ref s.heap.objs.size, rawInt 0, .none, .none] } }) :=
  .of_wp fun prog w A R s h => by
    obtain ⟨hp, g, d, tk, os⟩ := s; obtain ⟨hl, h⟩ := h
    have hsub := sub_enumerate
    have hL : Heap.IsTuple (Shared.heap ⟨hp, g, d, tk, os⟩) l items := ⟨_, hl, rfl, n, rfl⟩
    wp_walk using wpAny_loadPart' hl
    refine wpAny_stack_any fun st => wpAny_pure ?_
    split
    · rename_i c _ _ _ _ _
      cases (c == Value.type "enumerate")
      · wp_walk using wpAny_loadPart' hl, wpAny_pyIter_tuple hL
        exact ⟨_, rfl, h⟩
      · wp_walk using wpAny_loadPart' hl, wpAny_pyIter_tuple hL
        exact ⟨_, rfl, h⟩
    · wp_walk using wpAny_loadPart' hl, wpAny_pyIter_tuple hL
      exact ⟨_, rfl, h⟩
section
variable {prog : Program} {w : World} {A : Around} {E : Value → Shared → Prop} {s : Shared}
theorem callEnumTup {l : Addr} {items : Array Value} {Q : Value → Shared → Prop} (hL : s.heap.IsTuple l items)
    (h : ∀ h', IsEnum h' (s.heap.objs.size + 1) s.heap.objs.size 0 .none → h'.IsTupleIter s.heap.objs.size l 0 → h'.objs.size = s.heap.objs.size + 2 →
      (∀ b o, s.heap.get? b = some o → h'.get? b = some o) → Q (.ref (s.heap.objs.size + 1)) { s with heap := h' }) :
    wpAny (model prog w) A (call (.type "enumerate") [.ref l]) Q E s := by
  obtain ⟨⟨c, dct, dt, sl⟩, hl, hc, n, hd⟩ := hL
  replace hc : c = .type "tuple" := hc
  replace hd : dt = .seq items n := hd
  subst hc hd
  refine callType_new F.called_enumerate (by decide) (F.typeCall_enumerate_1 _) (F.newCall_enumerate_1 _) (fun obj => F.args_object_init_2 obj _) F.entry_enumerate_new
    (meetsEnumNewT l items n dct sl) ⟨hl, ?_⟩
  have hz : (s.heap.push { cls := .type "tuple_iterator", data := .fields #[.ref l, .int 0 0] }).objs.size = s.heap.objs.size + 1 := Heap.size_push ..
  show _ ∧ _
  rw [hz]
  have he : IsEnum ((s.heap.push { cls := .type "tuple_iterator", data := .fields #[.ref l, .int 0 0] }).push
      { cls := .type "enumerate", data := .fields #[.none, .bool false, .ref s.heap.objs.size, rawInt 0, .none, .none] }) (s.heap.objs.size + 1) s.heap.objs.size 0 .none := by
    have := Heap.get?_push_size (s.heap.push { cls := .type "tuple_iterator", data := .fields #[.ref l, .int 0 0] })
      (o := { cls := .type "enumerate", data := .fields #[.none, .bool false, .ref s.heap.objs.size, rawInt 0, .none, .none] }) rfl
    rw [hz] at this; exact this
  refine ⟨⟨_, he, rfl⟩, h _ he ⟨_, Heap.get?_push_of_some _ (Heap.get?_push_size _ rfl), rfl, rfl⟩ (by rw [Heap.size_push, hz]) fun b o x => Heap.get?_push_of_some _ (Heap.get?_push_of_some _ x)⟩
theorem enumEndT {e it l : Addr} {i : Nat} {items : Array Value} {old : Value} {Q : Option Value → Shared → Prop} (hh : A.handled = none)
    (he : IsEnum s.heap e it i old) (hit : s.heap.IsTupleIter it l i) (hl : s.heap.IsTuple l items) (hx : items[i]? = none)
    (hQ : ∀ h', Heap.ExtBut it s.heap h' → Q none { s with heap := h' }) : wpAny (model prog w) A (pyNext (.ref e)) Q E s := by
  have hT : s.TypeIs (.ref e) "enumerate" := ⟨_, he, rfl⟩
  unfold pyNext
  refine wpAny_bind (wpAny_attempt (wpAny_callSpecial?_slot (name := Str.ofString "__next__") hT F.slot_enumerate_next
    (wpAny_call_entry F.slot_enumerate_next hT F.entry_enumerate_next ?_ (F.args_enumerate_next_1 _))))
  show wpAny _ _ (field (.ref e) 2 >>= _) _ _ _
  refine wpAny_bind (wpAny_field he rfl (x := .ref it) rfl ?_)
  refine wpAny_bind (wpAny_nextOf_tuple_end hh hit hl hx fun h' x he' hx' => ?_)
  obtain ⟨o, ho, hc⟩ := hx'
  refine wpAny_bind (wpAny_isInstance (T := "StopIteration") (b := true) ⟨o, ho, hc⟩ isSubtype_stop ?_)
  exact wpAny_pure (hQ _ he')
end
end PySem
namespace IS
open PySem PySem.Spec PySem.W PyProof.Rows L2 IL LamX
/-- the tuple at a as it stands at each turn, each item in a new pair -/
def IteT (K : PySem.W.Frag) (a : Addr) : It :=
  ⟨fun i H => ∃ (xs : List V) (x : V), SqT K H a xs ∧ xs[i]? = some x, fun i H v H' => ∃ T x, v = .ref T ∧ H T = none ∧ H' = upd H T (.tup [.int (i : Nat), x]) ∧ ∀ xs, SqT K H a xs → xs[i]? = some x, fun i H => ∃ xs : List V, SqT K H a xs ∧ xs.length ≤ i⟩
theorem turn_enumT {P : Program} {w : World} {K : PySem.W.Frag} {elts : List Expr} {kk : Nat} {tpos : Pos} (a e it : Addr) :
    Turn P w K (.Tuple elts kk tpos) (IteT K a) [e, it] e (fun i h => (∃ old, IsEnum h e it ((i : Nat) : Int) old) ∧ h.IsTupleIter it a i ∧ e ≠ it ∧ a ≠ it ∧ e ≠ a) where
  mem := by simp
  obj := fun i h st b hb => by
    obtain ⟨⟨old, he⟩, ⟨o, ho, hc, hd⟩, _⟩ := st
    have e' : b = e ∨ b = it := by simpa using hb
    rcases e' with z | z
    · rw [z]; exact ⟨_, he, fun v q => nomatch q⟩
    · rw [z]; exact ⟨o, ho, fun v q => by rw [hd] at q; cases q⟩
  keep := fun i h h' st k => let ⟨⟨old, he⟩, hi, hne⟩ := st; ⟨⟨old, k e (by simp) _ he⟩, hi.at fun o q => k it (by simp) o q, hne⟩
  item := by
    intro X hP hw hK hc i pins s σ H E I hf st hg
    subst hP hw hK
    obtain ⟨⟨old, he⟩, hit, hne, hai, hea⟩ := st
    obtain ⟨xs, x, hq, hx⟩ := hg
    obtain ⟨its, rv, p, hz⟩ := I.tuple hq
    obtain ⟨u, hu, ru⟩ := rv.get hx
    have hel : e < s.heap.objs.size := Heap.lt_size he
    have hil : it < s.heap.objs.size := by obtain ⟨_, q, _⟩ := hit; exact Heap.lt_size q
    have hlt : i < its.toArray.size := by
      have := (List.getElem?_eq_some_iff.mp hu).1
      simpa using this
    refine wpAny_pyNext_enum_itemD (Draws.tuple (A := X.A.in1) (I.ok.hd hc) it a hai its.toArray) he ⟨hit, p⟩ hlt hne (by simp [hne, hea]) fun x' h' tk hP' ho hst' hT hsz hk => ?_
    obtain ⟨hit', hL'⟩ := hst'
    have ex : x' = u := by
      have : its.toArray[i]? = some u := by simpa using hu
      rw [this] at hP'
      exact (Option.some.inj hP').symm
    subst ex
    refine ⟨_, rfl, wpAny_letOwnedTupleGo_enum (s := { s with heap := h', toks := tk + 1 }) ho fun h'' he' sb => ?_⟩
    have hT2 : h''.get? s.heap.objs.size = some { cls := .type "tuple", data := .seq #[.int i tk, x'] } := (sb.2 _ (Nat.ne_of_gt hel)).trans hT
    have new : ObjOk X.prog X.w (upd H s.heap.objs.size (.tup [.int (i : Nat), x])) h'' s.heap.objs.size (.tup [.int (i : Nat), x]) :=
      ⟨by show 2 ≤ sizeLine; decide, [.int i tk, x'], .cons ⟨_, rfl⟩ (.cons ru .nil), ⟨_, hT2, rfl, _, rfl⟩⟩
    have I1 : Inv X pins σ (upd H s.heap.objs.size (.tup [.int (i : Nat), x])) { s with heap := h'', toks := tk + 1 } :=
      I.turnedNew (ch := [e, it]) (fun b ob hb q => (sb.2 b (fun z => hb (by simp [z]))).trans (hk b ob (fun z => hb (by simp [z])) (fun z => hb (by simp [z])) q)) hf (Nat.le_refl _) new
    refine ⟨.ref s.heap.objs.size, _, I1, rfl, ⟨_, x, rfl, I.hok.fresh (Nat.le_refl _), rfl, fun ys hy => by rw [I.tuple_inj hy hq]; exact hx⟩, ⟨⟨x', ?_⟩, hit'.at fun o q => (sb.2 it (Ne.symm hne)).trans q, hne, hai, hea⟩, fun b hb => ?_⟩
    · have e1 : ((i + 1 : Nat) : Int) = (i : Int) + 1 := by omega
      rw [e1]; exact he'
    · have hb' : b < s.heap.objs.size := by
        have e' : b = e ∨ b = it := by simpa using hb
        rcases e' with z | z
        · rw [z]; exact hel
        · rw [z]; exact hil
      rw [upd_ne (Nat.ne_of_lt hb')]
      exact (hf b hb).1
  done := by
    intro X hP hw hK hc i pins s σ H E I hf st hg
    subst hP hw hK
    obtain ⟨⟨old, he⟩, hit, hne, hai, hea⟩ := st
    obtain ⟨xs, hq, hx⟩ := hg
    obtain ⟨its, rv, p, hz⟩ := I.tuple hq
    obtain ⟨f0, f1, f2, f3, f4, f5⟩ := hf it (by simp)
    have hl := rv.length
    exact enumEndT (I.ok.hd hc) he hit p (by simp; omega) fun h' eb => ⟨rfl, I.turned (t' := s.toks) (fun b o hb q => eb b o hb q) f0 f1 f3 f4 f5⟩
  self := fun A i s Q E st h => let ⟨⟨_, he⟩, _⟩ := st; wpAny_pyIter_enum he h
theorem pi_enumLT {X : Cx} {e : Expr} {ta : TA} {p pos tpos : Pos} {elts : List Expr} {kk : Nat} (hg : Gl X "enumerate") (hm : X.mg "enumerate" = none) (ha : PA X [e] ta) (hs : starEach [e] X.env = [(false, eval e X.env)] := by rfl) :
    PI X (.Tuple elts kk tpos) (.Call (.Name "enumerate" p) [e] [] pos) (fun σ H R => ta σ H fun vs H1 => ∃ a xs, vs = [.ref a] ∧ ((SqL X.K H1 a xs ∧ R (Ite X.K a) H1) ∨ (SqT X.K H1 a xs ∧ R (IteT X.K a) H1))) := by
  refine ⟨fun pins s σ H R I h => ?_⟩
  refine Call_ (ld_blt I hg hm boot_enumerate (PyProof.Rows.callWith_type1 (thn (ha.run pos pins s σ H _ I h) fun us s1 ⟨vs, H1, I1, r1, q1⟩ => ?_) hs rfl))
  obtain ⟨a, xs, ex, q1⟩ := q1
  subst ex
  cases r1 with
  | cons rx rn =>
    cases rn
    cases rx
    have fin : ∀ b, b ∈ [s1.heap.objs.size + 1, s1.heap.objs.size] → FpOk X pins H1 b := fun b hb => by
      have e' : b = s1.heap.objs.size + 1 ∨ b = s1.heap.objs.size := by simpa using hb
      have hle : s1.heap.objs.size ≤ b := by
        rcases e' with z | z
        · rw [z]; exact Nat.le_add_right _ _
        · rw [z]; exact Nat.le_refl _
      exact I1.fpOk hle (I1.hok.fresh hle)
    rcases q1 with ⟨hq, q⟩ | ⟨hq, q⟩
    · obtain ⟨its, rv, p', hz⟩ := I1.list hq
      refine call_enumerate_list p'.isList fun h' he hit hsz hk => wpAny_pyIter_enum he ?_
      have I2 : Inv X pins σ H1 { s1 with heap := h' } := I1.kept (t' := s1.toks) hk
      exact ⟨s1.heap.objs.size + 1, [s1.heap.objs.size + 1, s1.heap.objs.size], _, _, H1, rfl, I2, turn_enum a (s1.heap.objs.size + 1) s1.heap.objs.size, ⟨⟨.none, he⟩, hit, Nat.succ_ne_self _⟩, fin, q⟩
    · obtain ⟨its, rv, p', hz⟩ := I1.tuple hq
      have hlt : a < s1.heap.objs.size := by obtain ⟨_, e, _⟩ := p'; exact Heap.lt_size e
      refine callEnumTup p' fun h' he hit hsz hk => wpAny_pyIter_enum he ?_
      have I2 : Inv X pins σ H1 { s1 with heap := h' } := I1.kept (t' := s1.toks) hk
      exact ⟨s1.heap.objs.size + 1, [s1.heap.objs.size + 1, s1.heap.objs.size], _, _, H1, rfl, I2, turn_enumT a (s1.heap.objs.size + 1) s1.heap.objs.size, ⟨⟨.none, he⟩, hit, Nat.succ_ne_self _, Nat.ne_of_lt hlt, Nat.ne_of_gt (Nat.lt_succ_of_lt hlt)⟩, fin, q⟩
end IS
end
section
set_option Elab.async false
set_option linter.all false
set_option autoImplicit false
set_option maxRecDepth 100000
set_option maxHeartbeats 2000000
namespace IL
def wEnum2 : List D → Option (List D)
  | [.lst _ xs] => some (xs.zipIdx.map fun p => .tup [.int (p.2 : Int), p.1])
  | [.tup xs] => some (xs.zipIdx.map fun p => .tup [.int (p.2 : Int), p.1])
  | _ => none
end IL
/-! IS, part 40: enumerate of a list or a tuple. -/
namespace IS
open PySem PySem.Spec PySem.W PyProof.Rows L2 IL LamX
section
variable {X : Cx} {T : Tb} {W : WK} {ar : A} {pos : Pos}
theorem pi_enum2' {a : Expr} {p tpos : Pos} {elts : List Expr} {kk : Nat} (hg : Gl X "enumerate") (hm : X.mg "enumerate" = none) (ha : PA X [a] (tA X.K T W ar)) (hs : starEach [a] X.env = [(false, eval a X.env)] := by rfl) : PI X (.Tuple elts kk tpos) (.Call (.Name "enumerate" p) [a] [] pos) (tQ X.K T W (qA wEnum2 ar)) :=
  pi_weak (pi_enumLT hg hm ha hs) fun σ H R h => qA_out h fun F H1 ρ fps vs ds xs ok rs hf k => by
    unfold wEnum2 at hf
    split at hf
    · rename_i m us
      cases hf
      obtain ⟨x, rfl, rx⟩ := reps_one rs
      cases rx with
      | lstF f e l r =>
        rename_i a ws
        have hl := reps_len r
        refine ⟨a, ws, rfl, .inl ⟨sqL_of e, k _ _ (gives_pair (K := X.K) (J := Ite X.K a) (P := fun F H => F a ∧ Rd H a (.lst ws) ∧ Reps X.K F H ws us []) (Q := fun _ _ _ => True)
          (fun F H S F' H' p kp hS hF => ⟨kp.fr a p.1, rd_keep kp (fun z => hF a z p.1) (nt_of_mutK trivial) p.2.1, p.2.2.keep kp hS hF nomem2⟩) (fun i F H d p hd => ?_) fun F H p => ?_) ⟨rfl, f, e, r⟩ ?_⟩⟩
        · obtain ⟨pf, pe, pr⟩ := p
          rw [List.getElem?_map, List.getElem?_zipIdx] at hd
          cases hu : us[i]? with
          | none => rw [hu] at hd; cases hd
          | some u =>
            rw [hu] at hd
            cases hd
            obtain ⟨w, fc, ew, rw', sb⟩ := reps_get pr hu
            have e0 : fc = [] := List.sublist_nil.mp sb
            subst e0
            refine ⟨⟨ws, w, sqL_of pe, ew⟩, fun v H' hy => ?_⟩
            obtain ⟨t, y, rfl, hT, rfl, hx⟩ := hy
            have ex := hx ws (sqL_of pe)
            rw [ew] at ex
            cases ex
            refine ⟨t, _, _, _, _, rfl, hT, rfl, rfl, ?_, rw'⟩
            simp only [Nat.zero_add]
            exact .int _
        · refine ⟨ws, sqL_of p.2.1, ?_⟩
          simp
          omega
        · rw [List.length_map, List.length_zipIdx, ← hl]; exact l
    · rename_i us
      cases hf
      obtain ⟨x, rfl, rx⟩ := reps_one rs
      cases rx with
      | tup e l r =>
        rename_i a ws
        have hl := reps_len r
        refine ⟨a, ws, rfl, .inr ⟨sqT_of e, k _ _ (gives_pair (K := X.K) (J := IteT X.K a) (P := fun F H => H a = some (.tup ws) ∧ Reps X.K F H ws us []) (Q := fun _ _ _ => True)
          (fun F H S F' H' p kp hS hF => ⟨sqT_keep kp hS p.1, p.2.keep kp hS hF nomem2⟩) (fun i F H d p hd => ?_) fun F H p => ?_) ⟨rfl, e, r⟩ ?_⟩⟩
        · obtain ⟨pe, pr⟩ := p
          rw [List.getElem?_map, List.getElem?_zipIdx] at hd
          cases hu : us[i]? with
          | none => rw [hu] at hd; cases hd
          | some u =>
            rw [hu] at hd
            cases hd
            obtain ⟨w, fc, ew, rw', sb⟩ := reps_get pr hu
            have e0 : fc = [] := List.sublist_nil.mp sb
            subst e0
            refine ⟨⟨ws, w, sqT_of pe, ew⟩, fun v H' hy => ?_⟩
            obtain ⟨t, y, rfl, hT, rfl, hx⟩ := hy
            have ex := hx ws (sqT_of pe)
            rw [ew] at ex
            cases ex
            refine ⟨t, _, _, _, _, rfl, hT, rfl, rfl, ?_, rw'⟩
            simp only [Nat.zero_add]
            exact .int _
        · refine ⟨ws, sqT_of p.1, ?_⟩
          simp
          omega
        · rw [List.length_map, List.length_zipIdx, ← hl]; exact l
    · cases hf
end
end IS
end
section
set_option Elab.async false
set_option linter.all false
set_option autoImplicit false
set_option maxRecDepth 100000
set_option maxHeartbeats 2000000
namespace IL
open PySem
/-- list(d.items()) of a dict with keys that are no tuples -/
def fItemsL : D → Option D
  | .dct _ false ks vs => some (.lst true ((ks.zip vs).map fun p => .tup [kD p.1, p.2]))
  | _ => none
end IL
/-! IS, part 41: list(d.items()), dict([]). -/
namespace IS
open PySem PySem.Spec PySem.W PyProof.Rows L2 IL LamX
section
variable {X : Cx} {T : Tb} {W : WK} {e : Expr} {m : Ex} {te : TE} {p apos cpos pos : Pos}
/-- list(e.items()), the dict may be locked -/
theorem pe_listItemsR (hc : X.calm = true) (he : PE X e te) (hg : Gl X "list") (hm : X.mg "list" = none) (hv : bootBuiltins "list" = some (.type "list")) (hbase : attributeBase e "items" X.env (eval e X.env) = eval e X.env := by rfl) (hline : (apos.endLine == cpos.line) = true := by rfl)
    (hs : starEach [.Call (.Attribute e "items" apos) [] [] cpos] X.env = (false, eval (.Call (.Attribute e "items" apos) [] [] cpos) X.env) :: starEach [] X.env := by rfl) :
    PE X (.Call (.Name "list" p) [.Call (.Attribute e "items" apos) [] [] cpos] [] pos) (fun σ H Q => te σ H fun x H => ∃ (d : Addr) (kvs : List (L2.Key × V)), x = .ref d ∧ Rd H d (.dK kvs) ∧
      ∀ (H' : Hp) (p : Addr) (ts : List Addr), (∀ b o, H b = some o → H' b = some o) → H p = none → (∀ t ∈ ts, H t = none) → p ∉ ts → H' p = some (.lst (ts.map V.ref)) → Paired (fun (t : Addr) (q : L2.Key × V) => H' t = some (.tup [kV q.1, q.2])) ts kvs → Q (.ref p) H') := by
  refine ⟨fun pins s σ H Q I hq => ?_⟩
  refine wpAny_Call_Name_kw (ld_blt I hg hm hv ?_)
  refine PyProof.Rows.callWith_type1 ?_ hs rfl
  rw [hs]
  show wpAny _ _ (spliced ((false, eval (.Call (.Attribute e "items" apos) [] [] cpos) X.env) :: backTo pos (starEach [] X.env))) _ _ s
  refine Calls.spliced_cons ?_
  refine wpAny_Call_method (T := "dict") (id := "dict.items") hbase rfl hline PySem.F.plainAttrs_dict PySem.F.slot_dict_items PySem.F.type_dict_items (thn (he.run pins s σ H _ I hq) fun u s1 ⟨x, H1, I1, rx, d, kvs, ex, hd, q⟩ => ?_)
  subst ex
  obtain rfl : u = Value.ref d := rx
  obtain ⟨hz, hs0, vs, kv, hdo⟩ := dk_rd I1.hok hd
  obtain ⟨ep, hat⟩ := hdo.dictAt
  have lk : kvs.length = vs.length := Paired.length kv
  have I2 : Inv X pins σ H1 { s1 with heap := s1.heap.push { cls := .type "dict_items", data := .fields #[.ref d] } } := I1.kept (t' := s1.toks) fun b ob q => Heap.get?_push_of_some _ q
  refine ⟨hdo.typeIs, hdo.mapOf.noDict, ?_⟩
  show wpAny _ _ (callWith cpos (.builtin "dict.items") [.ref d] [] []) _ X.xe s1
  refine method_meetsIn PySem.F.slot_dict_items PySem.F.entry_dict_items rfl (PySem.evalArgs_none ⟨rfl, hdo.typeIs, PySem.F.args_dict_items_1 _, _, meets_dict_items (mixKind X.prog X.w) d hs0, ⟨vs, hdo⟩, ?_⟩)
  refine Calls.spliced_nil ?_
  refine PySem.W.kdx_call (knd := mixKind X.prog X.w) (kvs := vs) (ep := ep) (I1.ok.hd hc) ⟨_, Heap.get?_push_size _ rfl, rfl, rfl⟩ (hat.push _) (by omega) fun h' tk acc c as hk hS hl hG hacc => ?_
  obtain ⟨H', k1, k2, k3, k4, k5, k6, J⟩ := LiI.items_laid (tk := tk) I2 hz kv hk hS hl hG hacc
  exact ⟨.ref _, H', J, rfl, q H' _ as k1 k2 k3 k4 k5 k6⟩
end
section
variable {X : Cx} {T : Tb} {W : WK} {e : Expr} {m : Ex} {p apos cpos pos : Pos} {K : PySem.W.Frag} {F : Addr → Prop} {H : Hp}
theorem pairs_rep : ∀ {ts : List Addr} {kvs : List (L2.Key × V)} {ds : List D}, Paired (fun (t : Addr) (q : L2.Key × V) => H t = some (.tup [kV q.1, q.2])) ts kvs → (∀ p ∈ kvs, KOk p.1) → Reps K F H (kvs.map (·.2)) ds [] →
    Reps K F H (ts.map V.ref) (((kvs.map fun p => DK.k p.1).zip ds).map fun p => D.tup [kD p.1, p.2]) []
  | _, _, ds, .nil, _, r => by cases r; exact .nil
  | _, _, ds, .cons (b := q) h t, hk, r => by
    obtain ⟨d, ds', rfl, r1, r2⟩ := reps_cons r
    exact .cons (fp := []) (fps := []) (.tup h (by rw [sl_sz]; show 2 ≤ sz; decide) (.cons (fp := []) (key_rep (hk q (List.mem_cons_self ..))) (.single r1))) (pairs_rep t (fun p hp => hk p (List.mem_cons_of_mem _ hp)) r2)
theorem pe_items' (hc : X.calm = true) (he : PE X e (tE X.K T W m)) (hg : Gl X "list") (hm : X.mg "list" = none) (hv : bootBuiltins "list" = some (.type "list")) (hbase : attributeBase e "items" X.env (eval e X.env) = eval e X.env := by rfl) (hline : (apos.endLine == cpos.line) = true := by rfl)
    (hs : starEach [.Call (.Attribute e "items" apos) [] [] cpos] X.env = (false, eval (.Call (.Attribute e "items" apos) [] [] cpos) X.env) :: starEach [] X.env := by rfl) :
    PE X (.Call (.Name "list" p) [.Call (.Attribute e "items" apos) [] [] cpos] [] pos) (tE X.K T W (eOp1 fItemsL m)) :=
  pe_o1 (r := fun x H Q => ∃ (d : Addr) (kvs : List (L2.Key × V)), x = .ref d ∧ Rd H d (.dK kvs) ∧
      ∀ (H' : Hp) (p : Addr) (ts : List Addr), (∀ b o, H b = some o → H' b = some o) → H p = none → (∀ t ∈ ts, H t = none) → p ∉ ts → H' p = some (.lst (ts.map V.ref)) → Paired (fun (t : Addr) (q : L2.Key × V) => H' t = some (.tup [kV q.1, q.2])) ts kvs → Q (.ref p) H')
    (pe_listItemsR hc he hg hm hv hbase hline hs) fun x H Q h => by
    obtain ⟨F, a, z, ra, st, hf, q⟩ := r1_out h
    cases a with
    | dct m t ks ds =>
      cases t with
      | true => cases hf
      | false =>
        cases hf
        obtain ⟨d, o, vs, rfl, e, c, l, q'⟩ := ra.inv_dct
        cases c with
        | k kvs hk hn =>
          refine ⟨d, kvs, rfl, e, fun H' p ts ext hp hts hpn eL hP => ?_⟩
          have kp : Keeps [] F H F H' := ⟨fun b o _ e n => .inl (ext b o e), fun _ z => z⟩
          have rs := pairs_rep (K := X.K) (F := F) hP hk (q'.keep kp nomem' nomem' nomem2)
          have hlen : (ts.map V.ref).length ≤ sizeLine := by
            rw [List.length_map, Paired.length hP]
            simpa using l
          exact q (.ref p) F H' [p] (.lstO eL hlen rs) (by simp) (fun a z w => by simp at z; subst z; exact live_none hp (st.lv _ w)) (fun a z => let ⟨o, e, n⟩ := st.lv a z; ⟨o, ext a o e, n⟩) (st.tb.ext ext)
            ⟨fun b o _ e n => .inl (ext b o e), fun a z => .inr (by simp at z; subst z; exact live_none hp), fun _ z => z, fun _ z => .inl z⟩
    | _ => cases hf
end
end IS
end
section
set_option Elab.async false
set_option linter.all false
set_option autoImplicit false
set_option maxRecDepth 100000
set_option maxHeartbeats 2000000
/-! IS, part 42: facts of own errors, as truths that a head can tell. -/
namespace IS
open PySem PySem.Spec PySem.W PyProof.Rows L2 IL LamX
theorem oexB_ok {K : PySem.W.Frag} {C : Addr} (h : oexB K C = true) : OexC K C := by
  unfold oexB at h
  simp only [Bool.and_eq_true] at h
  obtain ⟨h1, h2, h3, h4, h5⟩ := h
  refine ⟨?_, of_decide_eq_true h2, of_decide_eq_true h3, of_decide_eq_true h4, h5⟩
  split at h1
  · rename_i t dd cd sl ho
    split at h1
    · rename_i C' bm k0 k1 k2 k3 n k5 hm hs
      simp only [Bool.and_eq_true, beq_iff_eq, Bool.not_eq_true'] at h1
      obtain ⟨⟨⟨⟨⟨rfl, rfl⟩, rfl⟩, hdel⟩, hdict⟩, hr⟩ := h1
      obtain ⟨nm, bs, mro, ns, qn, hd, sn, sub, ab, col, del⟩ := cd
      dsimp only at hm hdel hdict
      subst hm hdel hdict
      have hsl : sl = #[k0, k1, k2, k3, some (.builtin "ValueError.__new__"), k5] := by
        obtain ⟨l⟩ := sl
        simp only at hs
        rw [hs]
      subst hsl
      exact ⟨nm, qn, ns, bs, bm, sn, sub, ab, col, dd, k0, k1, k2, k3, k5, ho, hr⟩
    · cases h1
  · cases h1
structure MkC (K : PySem.W.Frag) (C f : Str) : Prop where
  oex : OexC K (ga K C)
  xf : XfC K (ga K C)
  no : PySem.W.findIn K (.ref (ga K C)) f = some none
  ini : PySem.W.findIn K (.ref (ga K C)) "__init__" = some (some (.ref (He.ma K (ga K C) "__init__")))
  fn : PySem.W.typeIn K (.ref (He.ma K (ga K C) "__init__")) = some (.type "function")
  glo : PySem.W.nsIn K mainGlobals C = some (some (.ref (ga K C)))
end IS
end
section
set_option Elab.async false
set_option linter.all false
set_option autoImplicit false
set_option maxRecDepth 100000
set_option maxHeartbeats 2000000
/-! IS, part 43: short forms for a printed derivation. -/
namespace IS
open PySem PySem.Spec PySem.W PyProof.Rows L2 IL LamX
/-- a def that can be called -/
structure Cal (P : Program) (w : World) (K : PySem.W.Frag) (mg : Str → Option Value) (base : Heap) (x : Str) (ps : List Str) (sp : Sp) (k : Nat) : Prop where
  ex : ∃ fd, FnOk P w K mg base (L2.CX P w) k (ga K x) fd ps sp ∧ L2.Binds K fd ps []
  m : mg x = some (.ref (ga K x))
  kp : PySem.W.keepIn K (.ref (ga K x)) = true
/-- .. by keywords -/
structure CalK (P : Program) (w : World) (K : PySem.W.Frag) (mg : Str → Option Value) (base : Heap) (x : Str) (ps : List Str) (sp : Sp) (k : Nat) (ks : List Str) (is : List Nat) : Prop where
  ex : ∃ fd, FnOk P w K mg base (L2.CX P w) k (ga K x) fd ps sp ∧ KBn K fd ps 0 ks (fun _ ws => pick is ws) (fun _ zs => pick is zs)
  m : mg x = some (.ref (ga K x))
  kp : PySem.W.keepIn K (.ref (ga K x)) = true
section
variable {X : Cx} {T : Tb} {W : WK} {x : Str} {ps : List Str} {n k j : Nat} {f : Fp} {fm : Fm} {p pos p2 : Pos} {e a b c : Expr} {es : List Expr} {pr : Pe} {m ma mb mc mo : Ex} {ar : A}
theorem px_blk {s : Shared} {H : Hp} {scope : Scope} {env : Env} {fp : List Addr} : Passes (L2.CX X.prog X.w) (X.blk s H scope env fp) (fun _ _ _ => False) := passes_call L2.takes0 (fun _ _ _ _ z => z)
theorem pe_fP (cl : Cal X.prog X.w X.K X.mg X.base x ps (spP X.K T n f) k) (hr : Room j X.A) (hx : Passes (L2.CX X.prog X.w) X W) (ha : PA X (e :: es) (tP X.K T W pr)) (hn : ∀ ρ ds is st ρ', pr ρ = .ok ds is st ρ' → ds.length = n) (hj : k ≤ j := by omega) (hg : Gl X x := by rfl)
    (hdb : (x == ("__debug__" : Str)) = false := by decide) (he : starEach (e :: es) X.env = (false, eval e X.env) :: starEach es X.env := by rfl) (hpl : (backTo pos (starEach es X.env)).any (·.1) = false := by rfl) :
    PE X (.Call (.Name x p) (e :: es) [] pos) (tE X.K T W (eCallP f pr)) := by
  obtain ⟨fd, F, b⟩ := cl.ex
  exact pe_callP (pe_call F (hr.mono hj) hg cl.m cl.kp b .nil hx ha hdb he hpl) hn
theorem pe_fM (cl : Cal X.prog X.w X.K X.mg X.base x ps (spM X.K T n fm) k) (hr : Room j X.A) (hx : Passes (L2.CX X.prog X.w) X W) (h0 : PE X e (tE X.K T W mo)) (ha : PA X es (tP X.K T W pr)) (hn : ∀ ρ ds is st ρ', pr ρ = .ok ds is st ρ' → ds.length = n) (hj : k ≤ j := by omega) (hg : Gl X x := by rfl)
    (hdb : (x == ("__debug__" : Str)) = false := by decide) (he : starEach (e :: es) X.env = (false, eval e X.env) :: starEach es X.env := by rfl) (hpl : (backTo pos (starEach es X.env)).any (·.1) = false := by rfl) :
    PE X (.Call (.Name x p) (e :: es) [] pos) (tE X.K T W (eCallM fm mo pr)) := by
  obtain ⟨fd, F, b⟩ := cl.ex
  refine pe_callM (pe_weak (pe_call F (hr.mono hj) hg cl.m cl.kp b .nil hx (pa_cons h0 ha he) hdb he hpl) fun σ H Q q => ?_) hn
  show tCons _ _ σ H _
  refine tE_mono (fun v H1 z => tP_mono (fun vs H2 z2 => ?_) z) q
  show spM X.K T n fm ((v :: vs) ++ []) H2 Q W
  rw [List.append_nil]
  exact z2
/-! ### built-ins by name -/
theorem pe_b1 {id : String} {g : D → Option D} (hf : CallR X (.builtin id) (rL X.K T (g1 g))) (hm : X.mg x = none) (hv : bootBuiltins x = some (.builtin id)) (ha : PE X a (tE X.K T W ma)) (hg : Gl X x := by rfl) (hn : x ≠ "__name__" := by decide) (hdb : (x == ("__debug__" : Str)) = false := by decide)
    (he : starEach [a] X.env = (false, eval a X.env) :: starEach [] X.env := by rfl) : PE X (.Call (.Name x p) [a] [] pos) (tE X.K T W (eOp1 g ma)) :=
  pe_oN (pe_callB hf hg hm hv (pp_cons ha pp_nil he) hn hdb he rfl) (fun _ _ _ h => h) (pn_cons pn_nil)
theorem pe_b2 {id : String} {g : D → D → Option D} (hf : CallR X (.builtin id) (rL X.K T (g2 g))) (hm : X.mg x = none) (hv : bootBuiltins x = some (.builtin id)) (ha : PE X a (tE X.K T W ma)) (hb : PE X b (tE X.K T W mb)) (hg : Gl X x := by rfl) (hn : x ≠ "__name__" := by decide) (hdb : (x == ("__debug__" : Str)) = false := by decide)
    (he : starEach [a, b] X.env = (false, eval a X.env) :: starEach [b] X.env := by rfl) (he2 : starEach [b] X.env = (false, eval b X.env) :: starEach [] X.env := by rfl) (hpl : (backTo pos (starEach [b] X.env)).any (·.1) = false := by rfl) : PE X (.Call (.Name x p) [a, b] [] pos) (tE X.K T W (eOp2 g ma mb)) :=
  pe_oN (pe_callB hf hg hm hv (pp_cons ha (pp_cons hb pp_nil he2) he) hn hdb he hpl) (fun _ _ _ h => h) (pn_cons (pn_cons pn_nil))
theorem pe_t1 {id : String} {g : D → Option D} (hf : CallR X (.type id) (rL X.K T (g1 g))) (hm : X.mg x = none) (hv : bootBuiltins x = some (.type id)) (ha : PE X a (tE X.K T W ma)) (hg : Gl X x := by rfl) (hn : x ≠ "__name__" := by decide) (hdb : (x == ("__debug__" : Str)) = false := by decide)
    (he : starEach [a] X.env = (false, eval a X.env) :: starEach [] X.env := by rfl) : PE X (.Call (.Name x p) [a] [] pos) (tE X.K T W (eOp1 g ma)) :=
  pe_oN (pe_callTy hf hg hm hv (pp_cons ha pp_nil he) hn hdb he rfl) (fun _ _ _ h => h) (pn_cons pn_nil)
/-- a built-in type's name -/
theorem pe_ty {t : String} (hm : X.mg x = none) (hv : bootBuiltins x = some (.type t)) (hg : Gl X x := by rfl) (hn : x ≠ "__name__" := by decide) (hd : (x == ("__debug__" : Str)) = false := by decide) : PE X (.Name x p) (tE X.K T W (eC (.ty t))) :=
  pe_const (pe_bltn hg hm hv (show RelV (.ty t) (.type t) from rfl) hn hd) fun _ _ => .ty _
theorem pe_i {i : Int} : PE X (.Constant (.int i) j pos) (tE X.K T W (eC (.int i))) := pe_const pe_int fun _ _ => .int _
theorem pe_s {z : Str} (h : z.length ≤ sizeLine) : PE X (.Constant (.str z) j pos) (tE X.K T W (eC (.str z))) := pe_const pe_str fun _ _ => .str _ h
theorem pe_n : PE X (.Constant .none j pos) (tE X.K T W (eC .non)) := pe_const pe_non fun _ _ => .non
theorem pe_b {i : Bool} : PE X (.Constant (.bool i) j pos) (tE X.K T W (eC (.bl i))) := pe_const pe_bl fun _ _ => .bl _
theorem pe_v (i : Nat) (hN : X.N[i]? = some x := by rfl) (hv : Vis X.env.scope x := by first | exact Or.inl rfl | exact Or.inr (Or.inl rfl) | exact Or.inr (Or.inr rfl)) (hd : (x == ("__debug__" : Str)) = false := by decide) (hcd : (x == ("__classdict__" : Str)) = false := by decide) :
    PE X (.Name x pos) (tE X.K T W (eVar i)) := pe_name (pe_var hN hv hd hcd)
theorem pe_vm (i : Nat) (hN : X.N[i]? = some x := by rfl) (hv : Vis X.env.scope x := by first | exact Or.inl rfl | exact Or.inr (Or.inl rfl) | exact Or.inr (Or.inr rfl)) (hd : (x == ("__debug__" : Str)) = false := by decide) (hcd : (x == ("__classdict__" : Str)) = false := by decide) :
    PE X (.Name x pos) (tE X.K T W (eMv i)) := pe_mv (pe_var hN hv hd hcd)
/-! ### displays -/
theorem an_nil : ∀ ρ ds st ρ', aNil ρ = .ok ds st ρ' → ds.length = 0 := fun ρ ds st ρ' h => by cases h; rfl
theorem an_cons {q : A} (h : ∀ ρ ds st ρ', q ρ = .ok ds st ρ' → ds.length = n) : ∀ ρ ds st ρ', aCons m q ρ = .ok ds st ρ' → ds.length = n + 1 := by
  intro ρ ds st ρ' e
  unfold aCons at e
  cases h1 : (m ρ).own with
  | bad => rw [h1] at e; cases e
  | exc C fs st => rw [h1] at e; cases e
  | ok d l s1 ρ1 =>
    rw [h1] at e
    simp only at e
    cases h2 : q ρ1 with
    | bad => rw [h2] at e; cases e
    | exc C fs st => rw [h2] at e; cases e
    | ok ds2 s2 ρ2 =>
      rw [h2] at e
      cases e
      simp [h _ _ _ _ h2]
theorem pe_tupN {x1 : Nat} (h : PA X es (tA X.K T W ar)) (hn : ∀ ρ ds st ρ', ar ρ = .ok ds st ρ' → ds.length = n) (hl : n ≤ 1000 := by decide) : PE X (.Tuple es x1 pos) (tE X.K T W (eTup ar)) :=
  pe_tup' h fun ρ ds st ρ' e => by have := hn _ _ _ _ e; rw [sl_sz]; show _ ≤ 16777216; omega
theorem pe_lstN (h : PA X es (tA X.K T W ar)) (hn : ∀ ρ ds st ρ', ar ρ = .ok ds st ρ' → ds.length = n) (hl : n ≤ 1000 := by decide) : PE X (.List es pos) (tE X.K T W (eLst ar)) :=
  pe_lst' h fun ρ ds st ρ' e => by have := hn _ _ _ _ e; rw [sl_sz]; show _ ≤ 16777216; omega
/-! ### slices -/
theorem tE_eC {K : PySem.W.Frag} {σ : L2.St} {H : Hp} {d : D} {v : V} {Q : VK} (r : ∀ F H, Rep K F H v d []) (h : tE K T W (eC d) σ H Q) : Q v H := by
  obtain ⟨F, ρ, fps, ok, q⟩ := h
  have vo := ok.atom (r F H)
  have := q v F H fps [] vo (by rw [List.append_nil]; exact Evo.refl) Stb.refl
  exact this
theorem pe_sl {lo hi : Option Expr} {tl th : TO} (hl : PO X lo tl) (hh : PO X hi th) (he : PE X e (tE X.K T W m))
    (il : ∀ σ H (Q : Option Int → Hp → Prop), tE X.K T W mb σ H (fun v H1 => ∀ o, v = oV o → Q o H1) → tl σ H Q) (ih : ∀ σ H (Q : Option Int → Hp → Prop), tE X.K T W mc σ H (fun v H1 => ∀ o, v = oV o → Q o H1) → th σ H Q) :
    PE X (.Subscript e (.Slice lo hi none p2) pos) (tE X.K T W (eOp3 fSl m mb mc)) := by
  refine pe_seen (n := 3) (pe_weak (pe_slice (fSl_ok (T := T)) he hl hh) fun σ H Q q => ?_) (pn_cons (pn_cons (pn_cons pn_nil)))
  have q1 := tP_cons q
  refine tE_mono (fun v H1 z => ?_) q1
  have z1 := tP_cons z
  refine il _ _ _ (tE_mono (fun w H2 y => ?_) z1)
  have y1 := tP_cons y
  intro o ho
  refine ih _ _ _ (tE_mono (fun u H3 u1 => ?_) y1)
  intro o' ho'
  have := rL_of (tP_nil u1)
  rw [ho, ho'] at this
  exact this
theorem sl_no : ∀ σ H (Q : Option Int → Hp → Prop), tE X.K T W (eC .non) σ H (fun v H1 => ∀ o, v = oV o → Q o H1) → tNoPart σ H Q := fun σ H Q h => tE_eC (v := .non) (fun _ _ => .non) h none rfl
/-- a bound that is an int -/
def eInt (e : Ex) : Ex := fun ρ => match e ρ with
  | .ok (.int i) l st ρ' => .ok (.int i) l st ρ'
  | .exc C fs st => .exc C fs st
  | _ => .bad
theorem tE_int {K : PySem.W.Frag} {σ : L2.St} {H : Hp} {Q : VK} (h : tE K T W (eInt m) σ H Q) : tE K T W m σ H fun v H1 => (∃ i, v = .int i) ∧ Q v H1 := by
  obtain ⟨F, ρ, fps, ok, q⟩ := h
  refine ⟨F, ρ, fps, ok, ?_⟩
  unfold eInt at q
  cases hm : m ρ with
  | bad => rw [hm] at q; exact q
  | exc C fs st => rw [hm] at q; exact q
  | ok d l st ρ' =>
    rw [hm] at q
    cases d with
    | int i =>
      cases l with
      | none => exact fun v F' H' fps' fd vo ev sb => ⟨⟨i, vo.rep.inv_int⟩, q v F' H' fps' fd vo ev sb⟩
      | some l =>
        intro v F' H' fps' ok' ev sb at_ hg
        obtain ⟨pre, fd, post, e1, r1, _⟩ := ok'.at at_ hg
        exact ⟨⟨i, r1.inv_int⟩, q v F' H' fps' ok' ev sb at_ hg⟩
    | _ => exact q.elim
theorem sl_yes : ∀ σ H (Q : Option Int → Hp → Prop), tE X.K T W (eInt m) σ H (fun v H1 => ∀ o, v = oV o → Q o H1) → tPart (tE X.K T W m) σ H Q := fun σ H Q h => tE_mono (fun v H1 z => by
  obtain ⟨⟨i, rfl⟩, q⟩ := z
  exact ⟨i, rfl, q (some i) rfl⟩) (tE_int h)
theorem pe_sl01 (he : PE X e (tE X.K T W m)) (hb : PE X b (tE X.K T W mb)) : PE X (.Subscript e (.Slice none (some b) none p2) pos) (tE X.K T W (eOp3 fSl m (eC .non) (eInt mb))) := pe_sl po_none (po_some hb) he sl_no sl_yes
/-! ### for part in thing: f(part) -/
/-! ### raise C(e) -/
structure Rz (P : Program) (w : World) (K : PySem.W.Frag) (mg : Str → Option Value) (base : Heap) (C f : Str) : Prop where
  ex : ∃ (fd : FuncData) (ps : List Str), FnOk P w K mg base (L2.CX P w) 1 (He.ma K (ga K C) "__init__") fd ps (spI (ga K C) f) ∧ L2.Binds K fd ps []
  mkc : MkC K C f
  m : mg C = some (.ref (ga K C))
end
end IS
end
section
set_option Elab.async false
set_option linter.all false
set_option autoImplicit false
set_option maxRecDepth 100000
set_option maxHeartbeats 2000000
/-! IS, part 44: a def that holds lambdas; the def met. -/
namespace IS
open PySem PySem.Spec PySem.W PyProof.Rows L2 IL LamX
section
variable {P : Program} {w : World} {K : PySem.W.Frag} {mg : Str → Option Value} {base : Heap} {x : Str} {params : Arguments} {body : List Stmt} {scope : Scope} {fd : FuncData} {N ps : List Str} {k n : Nat} {b : S} {T : Tb}
end
/-! ### the def met -/
structure MetD (K : PySem.W.Frag) (mg : Str → Option Value) (x a : Str) (h : Mh) (told : Str) : Prop where
  hl : told.length ≤ sizeLine
  hh : HMet K h
  m : mg x = some (.ref (ga K x))
  kp : PySem.W.keepIn K (.ref (ga K x)) = true
  ex : ∃ (Ng : List Str) (pg : Arguments) (bg : List Stmt) (sg : Scope) (oc : Value) (od : Option Addr) (dV kV doc pm : Value) (an : Option Addr) (cdv ct : Value) (osl : Array (Option Value)),
    K.lookup (ga K x) = some ⟨oc, od, .func (PySem.W.fnOf x x pg bg sg dV kV doc pm an cdv ct), osl⟩ ∧ PySem.W.codeIn K cdv x = true ∧ L2.Binds K (PySem.W.fnOf x x pg bg sg dV kV doc pm an cdv ct) [a] [] ∧ FnScope Ng [a] sg ∧ Ng[0]? = some a ∧ Vis sg a ∧
    ∀ (X : Cx) (q : Str), X.K = K → X.mg = mg → GivesTo X Ng x sg (ga K x) cdv bg a q (TTmet X.K h told)
section
variable {X : Cx} {T : Tb} {W : WK} {x a told : Str} {h : Mh} {m : Ex} {c P : Addr} {k j : Nat} {params : Arguments} {body : Expr} {scope : Scope} {p lpos pos : Pos}
/-- o[i] = v -/
theorem ps_putS {o i v : Expr} {mo mi mv : Ex} {nn : Nat → Prop} (R : Room 0 X.A) (hv : PE X v (tE X.K T W mv)) (ho : PE X o (tE X.K T W mo)) (hi : PE X i (tE X.K T W mi)) (hs : swapsWithSole [.Subscript o i p] v pos.line X.env = pure false := by rfl) (hw : swappedStores [.Subscript o i p] v X.env = pure none := by rfl)
    (h1 : (assignEach [.Subscript o i p] X.env).map (·.2) = [assign (.Subscript o i p) X.env] := by rfl)
    (ha : ∀ u, assign (.Subscript o i p) X.env u = (do
      let ov ← holding [u] (eval o X.env)
      let iv ← holding [u, ov] (eval i X.env)
      standAt p
      holding [u, ov, iv] (setItem ov iv u)
      release [u, ov, iv] []) := by intro _; rfl) : PS X (.Assign [.Subscript o i p] v pos) (tS X.K T W nn (sPut pSet mo mi mv)) :=
  ps_put (ps_asg (pe_own hv) (pg_sub ho hi (set_ld R) ha) hs hw h1) pSet_ok
end
end IS
end
section
set_option Elab.async false
set_option linter.all false
set_option autoImplicit false
set_option maxRecDepth 100000
set_option maxHeartbeats 2000000
namespace IL
open PySem
end IL
/-! IS, part 45: the pairs of a dict, whatever its keys. -/
namespace IS
open PySem PySem.Spec PySem.W PyProof.Rows L2 IL LamX
section
variable {X : Cx} {pins : List (Addr × Obj)} {σ : L2.St} {H : Hp} {s : Shared} {d : Addr} {o : Obj}
end
section
variable {P : Program} {w : World} {K : PySem.W.Frag} {d : Addr} {o : Obj} {es : Array DictEntry} {ep : Nat}
end
section
variable {X : Cx} {tg e : Expr} {td : TE} {apos cpos : Pos}
end
section
variable {X : Cx} {T : Tb} {W : WK} {H : Hp} {F : Addr → Prop} {K : PySem.W.Frag} {σ : L2.St} {e : Expr} {m : Ex} {apos cpos : Pos}
end
end IS
end
section
set_option Elab.async false
set_option linter.all false
set_option autoImplicit false
set_option maxRecDepth 100000
set_option maxHeartbeats 2000000
namespace IL
open PySem
end IL
/-! IS, part 46: stars in a list display. -/
namespace IS
open PySem PySem.Spec PySem.W PyProof.Rows L2 IL LamX
section
variable {X : Cx} {T : Tb} {W : WK} {e : Expr} {es : List Expr} {m : Ex} {ar : A} {F : Addr → Prop} {H : Hp} {σ : L2.St} {ρ : Ro} {fps : List Addr} {pos p : Pos}
end
end IS
end
section
set_option Elab.async false
set_option linter.all false
set_option autoImplicit false
set_option maxRecDepth 100000
set_option maxHeartbeats 2000000
namespace IL
open PySem
end IL
/-! IS, part 47: != of empty dicts. -/
namespace IS
open PySem PySem.Spec PySem.W PyProof.Rows L2 IL LamX
section
variable {X : Cx} {T : Tb}
end
end IS
end
section
set_option Elab.async false
set_option linter.all false
set_option autoImplicit false
set_option maxRecDepth 100000
set_option maxHeartbeats 2000000
namespace IL
open PySem
/-- lambda ..: .., as a value -/
def eLam (x : Str) (r : LamR) : Ex := fun ρ => .ok (.lam x r) none true ρ
/-- the meaning of a lambda's body -/
def fnE (b : Ex) : Fp := fun ds => match (b (ds.map some)).own with
  | .ok d _ _ _ => .ret d
  | .exc C fs _ => .exc C fs
  | .bad => .bad
open Classical in
/-- a call of what the slot i holds, a lambda of the table -/
noncomputable def eCallL (tb : LTab) (i : Nat) (p : Pe) : Ex := fun ρ => match ρ[i]? with
  | some (some (.lam x r)) => (match tb.lookup x with
    | some (r', F) => if r = r' then eCallP F p ρ else .bad
    | none => .bad)
  | _ => .bad
end IL
/-! IS, part 48: lambdas that have captured nothing, as values. -/
namespace IS
open PySem PySem.Spec PySem.W PyProof.Rows L2 IL LamX NdefX
theorem clo_nil {cells : List (Str × Addr)} : ∀ {names : List (Str × NameKind)} {acc : List (Str × Addr)}, (∀ y ∈ names, y.2 ≠ .free) → cloFrom cells names acc = acc
  | [], _, _ => rfl
  | (n, k) :: r, acc, h => by
    unfold cloFrom
    have hk : (k == NameKind.free) = false := by
      have := h (n, k) List.mem_cons_self
      cases hb : (k == NameKind.free) with
      | false => rfl
      | true => exact absurd (eq_of_beq hb) this
    rw [hk]
    exact clo_nil fun y hy => h y (List.mem_cons_of_mem _ hy)
section
variable {X : Cx} {pins : List (Addr × Obj)} {σ : L2.St} {H : Hp} {s : Shared}
/-- a lambda just made is known from now on -/
theorem inv_lam {c' : Addr} {r : LamR} {t' : Nat} {pm ctv : Value} {h' : Heap} (I : Inv X pins σ H { s with heap := h', toks := t' }) :
    Inv X pins σ (upd H h'.objs.size (LamO h'.objs.size r c')) { s with heap := h'.push (PySem.W.kla_obj "<lambda>" r.q r.params r.body r.scope [] pm c' ctv), toks := t' } := by
  refine I.laid (a := h'.objs.size) (t' := t') (fun b u e => Heap.get?_push_of_some _ e) (Nat.le_refl _) ?_
  have e : (h'.push (PySem.W.kla_obj "<lambda>" r.q r.params r.body r.scope [] pm c' ctv)).get? h'.objs.size = some (PySem.W.kla_obj "<lambda>" r.q r.params r.body r.scope [] pm c' ctv) := Heap.get?_push_size _ rfl
  exact ⟨⟨pm, ctv, e⟩, ⟨_, e⟩, fun h1 h2 ⟨p, t, z⟩ st => ⟨p, t, st _ z⟩⟩
/-- the lambda is made, and known -/
theorem lam_make3 {T : Tb} {c P : Addr} {params : Arguments} {body : Expr} {scope : Scope} {pos : Pos} {E : Value → Shared → Prop} {Q : Value → Shared → Prop} (I : Inv X pins σ H s) (TB : TabB X.base X.mg c P) (hcode : X.env.code = .ref c)
    (hm : (P, X.env.qual ++ "<lambda>") ∈ T) (hu : ∀ p ∈ T, p.1 = P → p.2 = X.env.qual ++ "<lambda>") (hT : Tabs T H) (hdef : defaultsOf params X.env = ([], [])) (hfree : ∀ y ∈ scope.names, y.2 ≠ .free)
    (h : ∀ (f c' : Addr) (H1 : Hp) (s' : Shared), Inv X pins σ H1 s' → ExtN H H1 → Tabs T H1 → H1 f = some (LamO f ⟨X.env.qual ++ "<lambda>", params, body, scope⟩ c') → H1 c' = some (CodeO c' (X.env.qual ++ "<lambda>")) → Q (.ref f) s') :
    wpAny (model X.prog X.w) X.A (eval (.Lambda params body scope pos) X.env) Q E s := by
  obtain ⟨ps, hP, ht, ha⟩ := hT _ hm
  have hfree' : ∀ y ∈ scope.names, y.2 = .free → ∃ c, X.env.cells.lookup y.1 = some c := fun y hy e => absurd e (hfree y hy)
  have hcl : closureFor scope X.env = pure [] := by
    have := closure_ok (env := X.env) hfree'
    rwa [clo_nil hfree] at this
  refine PySem.W.kla_eval hdef ?_
  have bP : s.heap.BuiltinsAt X.mg P := TB.bm.keeps I.bk
  have hP' : s.heap.get? P = some { cls := .none, data := .fields ps } := I.hok P _ hP
  cases hc : codeAmong pos ps.toList with
  | none =>
    refine PySem.W.kla_makeFunction (mg := X.mg) (c := c) (P := P) (ps := ps) hcl I.ok.glob (I.mod.glob.keeps I.bk) hcode (TB.code.keeps I.bk) hP' ht hc TB.gP bP fun c' ctv h' tk hx hge hlt hrec htb => ?_
    obtain ⟨c2, oc, vs, t, e2, hoc, hd, hv⟩ := hrec
    cases e2
    have hsz : s.heap.objs.size ≤ h'.objs.size := Nat.le_trans hge (Nat.le_of_lt hlt)
    have nC : H c' = none := I.hok.fresh hge
    have I1 := inv_table (t' := tk) (more := #[rawInt pos.line, rawInt pos.col, .ref c']) (h' := h') I hP (fun b o hb e => hx b o hb e) htb hge ⟨oc, vs, t, hoc, hd, hv⟩
    have hE : ExtN H (upd (upd H P (.tbl (ps ++ #[rawInt pos.line, rawInt pos.col, .ref c']))) c' (CodeO c' (X.env.qual ++ "<lambda>"))) := fun b o e n => by
      rw [upd_ne (ne_of_none e nC), upd_ne (fun z => n ps (Option.some.inj (e.symm.trans (by rw [z]; exact hP))))]
      exact e
    have eL : (ps ++ #[rawInt pos.line, rawInt pos.col, .ref c']).toList = ps.toList ++ [rawInt pos.line, rawInt pos.col, .ref c'] := by simp
    have T1 : Tabs T (upd (upd H P (.tbl (ps ++ #[rawInt pos.line, rawInt pos.col, .ref c']))) c' (CodeO c' (X.env.qual ++ "<lambda>"))) := fun p hp => by
      by_cases hb : p.1 = P
      · rw [hu p hp hb, hb]
        refine ⟨_, by rw [upd_ne (ne_of_none hP nC), upd_same], by rw [eL]; exact PySem.TriplesOk_snoc _ _ _ _ ht, fun p' cv hcv => ?_⟩
        rw [eL] at hcv
        rcases among_app _ ht hcv with z | z
        · obtain ⟨c0, e1, e2⟩ := ha p' cv z
          exact ⟨c0, e1, hE _ _ e2 codeO_ne⟩
        · exact ⟨c', z, upd_same⟩
      · obtain ⟨ps', a1, a2, a3⟩ := hT p hp
        refine ⟨ps', by rw [upd_ne (ne_of_none a1 nC), upd_ne hb]; exact a1, a2, fun p' cv hcv => ?_⟩
        obtain ⟨c0, e1, e2⟩ := a3 p' cv hcv
        exact ⟨c0, e1, hE _ _ e2 codeO_ne⟩
    generalize hH1 : upd (upd H P (.tbl (ps ++ #[rawInt pos.line, rawInt pos.col, .ref c']))) c' (CodeO c' (X.env.qual ++ "<lambda>")) = H1 at I1 hE T1
    have nF : H1 h'.objs.size = none := I1.hok.fresh (Nat.le_refl _)
    have I2 := inv_lam (c' := c') (r := ⟨X.env.qual ++ "<lambda>", params, body, scope⟩) (pm := (X.mg "__name__").getD .none) (ctv := ctv) I1
    have k2 : ∀ b o, H1 b = some o → upd H1 h'.objs.size (LamO h'.objs.size ⟨X.env.qual ++ "<lambda>", params, body, scope⟩ c') b = some o := fun b o e => by rw [upd_ne (ne_of_none e nF)]; exact e
    refine h _ c' _ _ I2 (hE.trans (ExtN.of k2)) (T1.ext k2) upd_same (k2 _ _ ?_)
    rw [← hH1, upd_same]
  | some cv =>
    obtain ⟨c', e, hco⟩ := ha pos cv hc
    subst e
    refine PySem.W.kla_makeFunctionHit (mg := X.mg) (c := c) (P := P) (ps := ps) hcl I.ok.glob (I.mod.glob.keeps I.bk) hcode (TB.code.keeps I.bk) hP' ht hc bP fun ctv h' tk hx hsz => ?_
    have I1 : Inv X pins σ H { s with heap := h', toks := tk } := I.kept fun b o e => hx b o e
    have nF : H h'.objs.size = none := I1.hok.fresh (Nat.le_refl _)
    have I2 := inv_lam (c' := c') (r := ⟨X.env.qual ++ "<lambda>", params, body, scope⟩) (pm := (X.mg "__name__").getD .none) (ctv := ctv) I1
    have k2 : ∀ b o, H b = some o → upd H h'.objs.size (LamO h'.objs.size ⟨X.env.qual ++ "<lambda>", params, body, scope⟩ c') b = some o := fun b o e => by rw [upd_ne (ne_of_none e nF)]; exact e
    exact h _ c' _ _ I2 (ExtN.of k2) (hT.ext k2) upd_same (k2 _ _ hco)
end
section
variable {X : Cx} {T : Tb} {W : WK} {c P : Addr} {params : Arguments} {body : Expr} {scope : Scope} {pos : Pos}
theorem pe_lam (x : Str) (TB : TabB X.base X.mg c P) (hcode : X.env.code = .ref c) (hm : (P, X.env.qual ++ "<lambda>") ∈ T) (hu : ∀ p ∈ T, p.1 = P → p.2 = X.env.qual ++ "<lambda>") (hdef : defaultsOf params X.env = ([], []) := by rfl) (hfree : (scope.names.all fun y => !decide (y.2 = .free)) = true := by kernel_rfl) :
    PE X (.Lambda params body scope pos) (tE X.K T W (eLam x ⟨X.env.qual ++ "<lambda>", params, body, scope⟩)) := by
  refine ⟨fun pins s σ H Q I ⟨F, ρ, fps, ok, q⟩ => ?_⟩
  refine lam_make3 I TB hcode hm hu ok.tb hdef (fun y hy e => ?_) fun f c' H1 s' I1 hE hT hf hc => ?_
  · have := List.all_eq_true.mp hfree y hy
    simp [e] at this
  · have k : AllKeep H F H1 := fun b o e n => .inl (hE b o e n)
    have ok1 : Ok X.K T F H1 σ ρ fps := ok.later ⟨fun b o _ e n => k b o e n, nomem', fun _ z => z, fun _ z => .inl z⟩ (fun a z => let ⟨o, e, n⟩ := ok.lv a z; ⟨o, hE a o e n, n⟩) hT
    have e0 : Evo F H fps F H1 fps := ⟨fun b o _ e n => k b o e n, fun a z => .inl z, fun _ z => z, fun _ z => .inl z⟩
    exact ⟨.ref f, H1, I1, rfl, q (.ref f) F H1 fps [] ⟨ok1, .lam x hf hc, by simpa using ok1.nd, nomem'⟩ (by simpa using e0) fun _ => ⟨rfl, rfl, k⟩⟩
theorem pe_lamR (x : Str) (r : LamR) (TB : TabB X.base X.mg c P) (hcode : X.env.code = .ref c) (hm : (P, X.env.qual ++ "<lambda>") ∈ T) (hu : ∀ p ∈ T, p.1 = P → p.2 = X.env.qual ++ "<lambda>") (hr : (⟨X.env.qual ++ "<lambda>", params, body, scope⟩ : LamR) = r) (hdef : defaultsOf params X.env = ([], []) := by rfl) (hfree : (scope.names.all fun y => !decide (y.2 = .free)) = true := by kernel_rfl) :
    PE X (.Lambda params body scope pos) (tE X.K T W (eLam x r)) := hr ▸ pe_lam x TB hcode hm hu hdef hfree
/-- the lambdas that stand in a statement -/
def lamsE (q : Str) : Expr → List LamR
  | .Lambda p b s _ => [⟨q, p, b, s⟩]
  | .List es _ => es.flatMap fun e => match e with
    | .Lambda p b s _ => [⟨q, p, b, s⟩]
    | _ => []
  | .Call _ as _ _ => as.flatMap fun e => match e with
    | .Lambda p b s _ => [⟨q, p, b, s⟩]
    | .List es _ => es.flatMap fun e => match e with
      | .Lambda p b s _ => [⟨q, p, b, s⟩]
      | _ => []
    | .Tuple es _ _ => es.flatMap fun e => match e with
      | .Lambda p b s _ => [⟨q, p, b, s⟩]
      | _ => []
    | _ => []
  | _ => []
def lamsS (q : Str) : Stmt → List LamR
  | .Assign _ v _ => lamsE q v
  | .Expr v _ => lamsE q v
  | _ => []
def lamAt (q : Str) (ss : List Stmt) (i : Nat) : LamR := (ss.flatMap (lamsS q)).getD i ⟨q, ⟨[], [], none, [], [], none, []⟩, .Constant .none 0 ⟨0, 0, 0, 0⟩, { kind := .function, names := [], isGenerator := false, isCoroutine := false }⟩
theorem ltab_all {tb : LTab} {p : LamR → Fp → Prop} (h : ∀ e ∈ tb, p e.2.1 e.2.2) : ∀ (x : Str) (r : LamR) (F : Fp), tb.lookup x = some (r, F) → p r F := fun x r F e => by
  have go : ∀ {l : LTab}, l.lookup x = some (r, F) → (x, r, F) ∈ l := by
    intro l
    induction l with
    | nil => intro z; cases z
    | cons a l ih =>
      obtain ⟨y, b⟩ := a
      intro z
      simp only [List.lookup_cons] at z
      cases hb : x == y with
      | true =>
        rw [hb] at z
        cases z
        rw [eq_of_beq hb]
        exact List.mem_cons_self
      | false =>
        rw [hb] at z
        exact List.mem_cons_of_mem _ (ih z)
  exact h _ (go e)
end
end IS
end
section
set_option Elab.async false
set_option linter.all false
set_option autoImplicit false
set_option maxRecDepth 100000
set_option maxHeartbeats 2000000
/-! IS, part 49: calls of lambdas that have captured nothing. -/
namespace IS
open PySem PySem.Spec PySem.W PyProof.Rows L2 IL LamX NdefX
/-- the lambda r as a nested function (its body is an expression: the statements are not looked at) -/
abbrev nfL (r : LamR) (c' : Addr) : NF := ⟨"<lambda>", r.q, r.params, [], r.scope, [], c'⟩
/-- what a lambda promises -/
def LamOk (P : Program) (w : World) (K : PySem.W.Frag) (mg : Str → Option Value) (base : Heap) (k : Nat) (r : LamR) (sp : Sp) : Prop :=
  ∀ (f c' : Addr) (A : Around) (outer : List Env) (s : Shared) (H : Hp) (us : List Value) (vs : List V) (Q : VK) (E : XK), Room k A → Env0 P w K mg base A outer s H → H f = some (LamO f r c') → H c' = some (CodeO c' r.q) → Vals vs us → sp vs H Q E →
    codeAny (model P w) A (.call (.ref f) ⟨us, []⟩) (CR (L2.CX P w) outer P w H s Q E) s
section
variable {P : Program} {w : World} {K : PySem.W.Frag} {mg : Str → Option Value} {base : Heap} {r : LamR} {k : Nat} {ps : List Str} {b : Ex} {T : Tb}
theorem lok_P (S : NScope ps ps [] r.scope) (hb : ∀ (c' : Addr) (pm ctv : Value) (us : List Value), us.length = ps.length → bindArgs (PySem.W.kla_fn "<lambda>" r.q r.params r.body r.scope [] pm (.ref c') ctv) ⟨us, []⟩ = pure (ps.zip us))
    (hbody : ∀ (f c' : Addr) (A : Around) (outer : List Env) (s : Shared) (H : Hp) (E : XK), Room k (A.deeper (envF (nfL r c') f s.heap.objs.size)) → PE (ncx (L2.CX P w) P w K mg base ps (nfL r c') f A outer s H E) r.body (tE K T E b)) :
    LamOk P w K mg base (k + 1) r (spP K T ps.length (fnE b)) := by
  intro f c' A outer s H us vs Q E hr e0 hf hc r1 hsp
  obtain ⟨hl, F, ds, rs, lv, tb, q⟩ := hsp
  have lim : s.heap.NoLimit := e0.mod.nolimit.keeps fun b o e => (e0.bs b o e).1
  obtain ⟨⟨pm, ctv, ho⟩, _, _⟩ := e0.hok f _ hf
  obtain ⟨⟨oc, cvs, tk, hoc, hdc, hvc⟩, _, _⟩ := e0.hok c' _ hc
  refine PySem.W.kla_callFunE hr.depth ho rfl S.co S.gen rfl ⟨c', oc, cvs, tk, rfl, hoc, hdc, hvc⟩ ?_
  rw [hb c' pm ctv us (by rw [← r1.length]; exact hl)]
  refine wpAny_pure (wpAny_newFunctionEnv S.nocell (fun ⟨n, _⟩ hy => S.par n (List.of_mem_zip hy).1) (fun h₁ hns hsb => ⟨lim.fresh _ hsb, ?_⟩) S.kind)
  show codeAny _ _ (.expr r.body (envF (nfL r c') f s.heap.objs.size)) _ _
  have kp : ∀ b o, s.heap.get? b = some o → h₁.get? b = some o := fun b o e => hsb.extBut b o (Nat.ne_of_lt (Heap.lt_size e)) (Heap.get?_push_of_some _ e)
  have C : CellsAt (nfL r c').cl [] [] s.heap H := { len := rfl, all := (fun y c e => nomatch (show (none : Option Addr) = some c from e)), inj := (fun x y c e _ => nomatch (show (none : Option Addr) = some c from e)), has := (fun i y e => nomatch (show (none : Option Str) = some y from e)) }
  have I : Inv (ncx (L2.CX P w) P w K mg base ps (nfL r c') f A outer s H E) [] (startF ps vs []) H { s with heap := h₁, toks := s.toks + (ps.zip us).length } := inv_startN S hr.hd e0 hl r1 C hns kp
  have e1 : startF ps vs [] = vs.map some := by
    unfold startF
    simp [hl]
  rw [e1] at I
  have env : REnv K F H (vs.map some) (ds.map some) [] := by
    have := renv_start (n := 0) rs
    simpa using this
  have q' : tE K T E b (vs.map some) H Q := by
    refine tE_own ⟨F, ds.map some, [], ⟨env, List.nodup_nil, nomem', lv, tb⟩, ?_⟩
    unfold fnE at q
    show tR K T E (b (ds.map some)).own F (ds.map some) [] (vs.map some) H Q
    cases h1 : (b (ds.map some)).own with
    | bad => rw [h1] at q; exact q
    | exc C fs st => rw [h1] at q; exact ExcW.any (k := st) (fun cls dx F' H' a b c d => q cls dx F' H' a b c d)
    | ok d l st ρ' =>
      have := own_ok (K := K) h1
      subst this
      rw [h1] at q
      intro v F' H' fps' fd vo ev sb
      exact q v F' H' fd vo.rep (List.nodup_append.mp vo.nd).2.1 vo.nf vo.ok.lv vo.ok.tb (ev.sub fun a z => List.mem_append_right _ z)
  refine PySem.W.kla_codeExpr (wpAny_mono ((hbody f c' A outer s H E (hr.deeper _)).run [] _ _ H Q I q') (fun v s' hq => ?_) fun e s' hq => hq)
  obtain ⟨w', H', J', rv, q⟩ := hq
  exact ⟨w', H', J'.os, J'.bare, J'.base, J'.hok, rv, q⟩
end
section
variable {X : Cx} {T : Tb} {W : WK} {p : Pe} {tb : LTab} {i j k n : Nat} {x : Str} {e : Expr} {es : List Expr} {pn pos : Pos}
/-- what cannot change stands behind the arguments -/
theorem tP_keep {K : PySem.W.Frag} {σ : L2.St} {H : Hp} {Q : List V → Hp → Prop} {a : Addr} {φ : Heap → Prop} (h : tP K T W p σ H Q) (ha : H a = some (.ext φ)) : tP K T W p σ H fun vs H1 => H1 a = some (.ext φ) ∧ Q vs H1 := by
  obtain ⟨F, ρ, fps, ok, q⟩ := h
  refine ⟨F, ρ, fps, ok, ?_⟩
  cases h1 : p ρ with
  | bad => rw [h1] at q; exact q
  | exc C fs st => rw [h1] at q; exact q
  | ok ds is st ρ1 =>
    rw [h1] at q
    intro vs F1 H1 fps1 fd1 ok1 pv nd nf ev sb
    refine ⟨?_, q vs F1 H1 fps1 fd1 ok1 pv nd nf ev sb⟩
    refine (ev.keep a _ (fun z => ?_) ha (fun ps z => by cases z)).ex (.inr fun z => z)
    obtain ⟨o, e1, m⟩ := renv_mutk ok.env a z
    rw [ha] at e1
    cases e1
    exact m
theorem pe_callL (hL : ∀ x r F, tb.lookup x = some (r, F) → LamOk X.prog X.w X.K X.mg X.base k r (spP X.K T n F)) (hr : Room j X.A) (hx : Passes (L2.CX X.prog X.w) X W) (ha : PA X (e :: es) (tP X.K T W p)) (hn : ∀ ρ ds is st ρ', p ρ = .ok ds is st ρ' → ds.length = n)
    (hN : X.N[i]? = some x) (hv : Vis X.env.scope x) (hk : k ≤ j := by omega) (hd : (x == ("__debug__" : Str)) = false := by decide) (hcd : (x == ("__classdict__" : Str)) = false := by decide)
    (he : starEach (e :: es) X.env = (false, eval e X.env) :: starEach es X.env := by rfl) (hpl : (backTo pos (starEach es X.env)).any (·.1) = false := by rfl) :
    PE X (.Call (.Name x pn) (e :: es) [] pos) (tE X.K T W (eCallL tb i p)) := by
  refine ⟨fun pins s σ H Q I ⟨F, ρ, fps, ok, q⟩ => ?_⟩
  unfold eCallL at q
  cases e1 : ρ[i]? with
  | none => rw [e1] at q; exact q.elim
  | some o =>
    cases o with
    | none => rw [e1] at q; exact q.elim
    | some d =>
      cases d with
      | lam y r =>
        rw [e1] at q
        simp only at q
        cases e2 : tb.lookup y with
        | none => rw [e2] at q; exact q.elim
        | some rf =>
          obtain ⟨r', Fp⟩ := rf
          rw [e2] at q
          simp only at q
          by_cases er : r = r'
          · rw [if_pos er] at q
            subst er
            obtain ⟨v, pre, fd, post, eσ, efp, rv, kk⟩ := renv_at ok.env e1
            clear kk efp
            have rv2 : ∃ a c', v = .ref a ∧ H a = some (LamO a r c') ∧ H c' = some (CodeO c' r.q) := by
              cases rv with
              | lam _ hf hc => exact ⟨_, _, rfl, hf, hc⟩
            obtain ⟨a, c', ea, hf, hc⟩ := rv2
            subst ea
            · skip
              have key := tP_keep (tP_keep (seen_key I ⟨F, ρ, fps, ok, q⟩ hn) hf) hc
              have main : wpAny (model X.prog X.w) X.A (eval (.Call (.Name x pn) (e :: es) [] pos) X.env) (EP X pins σ fun v H2 => ∃ H3 : Hp, Unl X H2 H3 ∧ Q v H3) X.xe s := by
                refine wpAny_Call_Name_kw (thn ((pe_var (pos := pn) hN hv hd hcd).run pins s σ H (fun v H1 => v = .ref a ∧ H1 = H) I ⟨.ref a, eσ, rfl, rfl⟩) fun u s1 ⟨v, H1, I1, r1, q1⟩ => ?_)
                obtain ⟨ev, eH⟩ := q1
                subst ev
                rw [eH] at I1
                obtain rfl : u = Value.ref a := r1
                have fa : ∀ {s2 : Shared} {H2 : Hp}, Inv X pins σ H2 s2 → H2 a = some (LamO a r c') → PySem.W.FnAt a s2.heap := fun {s2 H2} I2 h2 => by
                  obtain ⟨⟨pm, ctv, ho⟩, _, _⟩ := I2.hok a _ h2
                  exact ⟨_, _, _, _, ho⟩
                refine PySem.W.callWith_F (first := []) (fa I1 hf) (thn (ha.run pos pins s1 σ H _ I1 key) fun us s2 ⟨vs, H2, I2, r2, h2, h1, q2⟩ => ⟨fa I2 h1, ?_⟩) he hpl
                show wpAny _ _ (call (.ref a) us) _ _ _
                refine wpAny_call (codeAny_mono (hL y r Fp e2 a c' X.A X.stack s2 H2 us vs _ W (hr.mono hk) I2.env0 h1 h2 r2 q2) fun r s' hq => ?_)
                cases r with
                | error e => exact hx pins σ H2 s2 e s' I2 hq
                | ok fl =>
                  cases fl with
                  | ret u => exact I2.after hq
                  | next => exact False.elim hq
                  | brk => exact False.elim hq
                  | cont => exact False.elim hq
              refine wpAny_mono main (fun u s' hq => ?_) fun _ _ z => z
              obtain ⟨v, H2, I2, r, H3, h3, q3⟩ := hq
              exact ⟨v, H3, unlocks I2 h3, r, q3⟩
          · rw [if_neg er] at q
            exact q.elim
      | _ => rw [e1] at q; exact q.elim
end
end IS
end
section
set_option Elab.async false
set_option linter.all false
set_option autoImplicit false
set_option maxRecDepth 100000
set_option maxHeartbeats 2000000
namespace IL
open PySem
end IL
/-! IS, part 50: min, max of ints; list of a text. -/
namespace IS
open PySem PySem.Spec PySem.W PyProof.Rows L2 IL LamX
section
variable {X : Cx} {T : Tb}
end
end IS
end
section
set_option Elab.async false
set_option linter.all false
set_option autoImplicit false
set_option maxRecDepth 100000
set_option maxHeartbeats 2000000
/-! IS, part 51: a call without arguments. -/
namespace IS
open PySem PySem.Spec PySem.W PyProof.Rows L2 IL LamX
section
variable {X : Cx} {T : Tb} {W : WK} {x : Str} {k j : Nat} {f : Fp} {p pos : Pos}
end
end IS
end
section
set_option Elab.async false
set_option linter.all false
set_option autoImplicit false
set_option maxRecDepth 100000
set_option maxHeartbeats 2000000
namespace IL
open PySem
end IL
/-! IS, part 52: attributes of instances. -/
namespace IS
open PySem PySem.Spec PySem.W PyProof.Rows L2 IL LamX
theorem zip_lkV : ∀ {fs : List Str} {vs : List V} {f : Str} {w : V}, lkV fs vs f = some w → (fs.zip vs).lookup f = some w
  | [], _, _, _, h => by simp [lkV] at h
  | g :: fs, [], _, _, h => by simp [lkV] at h
  | g :: fs, v :: vs, f, w, h => by
    by_cases e : g = f
    · subst e
      simp [lkV] at h
      subst h
      simp [List.zip_cons_cons, List.lookup]
    · simp [lkV, e] at h
      have : (f == g) = false := by
        cases hb : (f == g) with
        | false => rfl
        | true => exact absurd (eq_of_beq hb).symm e
      simp [List.zip_cons_cons, List.lookup, this, zip_lkV h]
section
variable {X : Cx} {T : Tb} {W : WK} {e : Expr} {m : Ex} {pos : Pos} {C f : Str}
end
end IS
end
section
set_option Elab.async false
set_option linter.all false
set_option autoImplicit false
set_option maxRecDepth 100000
set_option maxHeartbeats 2000000
namespace IL
open PySem
end IL
/-! IS, part 53: instances are made. -/
namespace IS
open PySem PySem.Spec PySem.W PyProof.Rows L2 IL LamX
section
variable {X : Cx} {T : Tb} {W : WK} {e : Expr} {es : List Expr} {pr : Pe} {p pos : Pos} {C : Str} {fI : Addr} {fd : FuncData} {ps : List Str} {k n : Nat} {f : Fm} {CX : CXT}
end
end IS
end
section
set_option Elab.async false
set_option linter.all false
set_option autoImplicit false
set_option maxRecDepth 100000
set_option maxHeartbeats 2000000
namespace IL
open PySem
end IL
/-! IS, part 54: attributes are stored. -/
namespace IS
open PySem PySem.Spec PySem.W PyProof.Rows L2 IL LamX
section
variable {X : Cx} {T : Tb} {W : WK} {C f : Str} {K : PySem.W.Frag} {F : Addr → Prop} {H : Hp}
variable {o v : Expr} {mo mv : Ex} {p pos : Pos} {nn : Nat → Prop}
end
end IS
end
section
set_option Elab.async false
set_option linter.all false
set_option autoImplicit false
set_option maxRecDepth 100000
set_option maxHeartbeats 2000000
namespace IL
open PySem
end IL
/-! IS, part 55: methods that change nothing. -/
namespace IS
open PySem PySem.Spec PySem.W PyProof.Rows L2 IL LamX
section
variable {X : Cx} {T : Tb} {W : WK} {C m : Str} {o e : Expr} {es : List Expr} {mo : Ex} {p : Pe} {fm : Addr} {fd : FuncData} {ps : List Str} {k j n : Nat} {f : Fp} {pos apos : Pos}
end
end IS
end
section
set_option Elab.async false
set_option linter.all false
set_option autoImplicit false
set_option maxRecDepth 100000
set_option maxHeartbeats 2000000
namespace IL
open PySem
end IL
/-! IS, part 56: abs, index. -/
namespace IS
open PySem PySem.Spec PySem.W PyProof.Rows L2 IL LamX
section
variable {X : Cx} {T : Tb} {W : WK}
end
end IS
end
section
set_option Elab.async false
set_option linter.all false
set_option autoImplicit false
set_option maxRecDepth 100000
set_option maxHeartbeats 2000000
namespace IL
open PySem
end IL
/-! IS, part 57: reversed of a list. -/
namespace IS
open PySem PySem.Spec PySem.W PyProof.Rows L2 IL LamX
section
variable {X : Cx} {T : Tb} {W : WK} {ar : A} {pos : Pos} {tg : Expr}
end
end IS
end
section
set_option Elab.async false
set_option linter.all false
set_option autoImplicit false
set_option maxRecDepth 100000
set_option maxHeartbeats 2000000
namespace IL
open PySem
end IL
/-! IS, part 58: an attribute as a target among others. -/
namespace IS
open PySem PySem.Spec PySem.W PyProof.Rows L2 IL LamX
section
variable {X : Cx} {T : Tb} {C f : Str} {i : Nat} {o : Expr} {pos : Pos} {n : Nat → Prop}
end
end IS
end
section
set_option Elab.async false
set_option linter.all false
set_option autoImplicit false
set_option maxRecDepth 100000
set_option maxHeartbeats 2000000
namespace IL
open PySem
end IL
/-! IS, part 59: a turn in which a slot's thing goes by another name. -/
namespace IS
open PySem PySem.Spec PySem.W PyProof.Rows L2 IL LamX
section
variable {X : Cx} {K : PySem.W.Frag} {T : Tb} {W : WK} {F : Addr → Prop} {H : Hp} {σ : L2.St} {ρ : Ro} {fps : List Addr}
end
end IS
end
section
set_option Elab.async false
set_option linter.all false
set_option autoImplicit false
set_option maxRecDepth 100000
set_option maxHeartbeats 2000000
namespace IL
open PySem
end IL
/-! IS, part 60: a loop over two written pairs, whose first parts are slots' things. -/
namespace IS
open PySem PySem.Spec PySem.W PyProof.Rows L2 IL LamX
section
variable {X : Cx} {T : Tb} {W : WK} {st : Stmt} {f b l1 l2 : Nat} {c1 c2 : D} {k1 k2 : V} {s : S} {n n' : Nat → Prop} {td : TE}
end
end IS
end
section
set_option Elab.async false
set_option linter.all false
set_option autoImplicit false
set_option maxRecDepth 100000
set_option maxHeartbeats 4000000
/-! IS, part 61: dict comprehensions with two for: the walk of the block (after HandS.Comp and HandS.DictComp). -/
namespace IS
open PySem PySem.Spec PyProof.Rows L2 LamX
section
variable {prog : Program} {w : World} {A : Around} {R : Result → Shared → Prop} {s : Shared} {kx vx t0 i0 t1 i1 : Expr} {ifs0 ifs1 : List Expr} {scope : Scope} {pos : Pos} {it : Value} {D : Addr} {env : Env}
end

section
variable {X : Cx}
end
end IS
end
section
set_option Elab.async false
set_option linter.all false
set_option autoImplicit false
set_option maxRecDepth 100000
set_option maxHeartbeats 4000000
namespace IL
end IL
/-! IS, part 32: comprehensions with two for. -/
namespace IS
open PySem PySem.Spec PySem.W PyProof.Rows L2 IL LamX
/-- the state within a comprehension: the new thing at D, what stands aside -/
structure CStD (K : PySem.W.Frag) (T : Tb) (A : Asd) (D : Addr) (F : Addr → Prop) (H : Hp) (σ : L2.St) (ρ : Ro) (fps fA : List Addr) (acc : IL.D) (fa : List Addr) : Prop where
  ok : Ok K T F H σ ρ fps
  as : A F H fA
  rep : Rep K F H (.ref D) acc fa
  dct : ∃ b ks ws, acc = .dct true b ks ws
  nd : (fps ++ (fA ++ fa)).Nodup
  nf : ∀ a ∈ fA ++ fa, ¬ F a
section
variable {K : PySem.W.Frag} {T : Tb} {A : Asd} {D : Addr} {F : Addr → Prop} {H : Hp} {σ : L2.St} {ρ : Ro} {fps fA fa : List Addr} {acc : IL.D}
end
section
variable {X : Cx} {T : Tb} {W : WK} {kx vx tg iter tg1 iter1 : Expr} {ifs ifs1 : List Expr} {scope : Scope} {own : List (Str × Nat)} {vs1 : List Nat} {pos : Pos} {b : Bool} {q q1 : Sq} {g g1 : G} {u u1 : IL.T} {mk mv : Ex}
end
end IS
end
section
set_option Elab.async false
set_option linter.all false
set_option autoImplicit false
set_option maxRecDepth 100000
set_option maxHeartbeats 2000000
/-! IS, part 63: a lambda with one parameter, called while its maker's slots stand. -/
namespace IS
open PySem PySem.Spec PySem.W PyProof.Rows L2 IL LamX
/-- one parameter x; captured names, globals -/
structure Lam1 (sc scope : Scope) (x : Str) : Prop where
  kind : scope.kind = .function
  co : scope.isCoroutine = false
  gen : scope.isGenerator = false
  own : ∀ y ∈ scope.names, y.2 ≠ .cell ∧ (y.2 = .local → y.1 = x)
  par : scope.names.lookup x = some .local
  free : ∀ y ∈ scope.names, y.2 = .free → sc.names.lookup y.1 = some .cell ∨ sc.names.lookup y.1 = some .free
section
variable {X : Cx} {pins : List (Addr × Obj)} {σ : L2.St} {H : Hp} {s : Shared} {scope : Scope} {x : Str}
theorem Lam1.has (L : Lam1 X.env.scope scope x) (ok : X.Ok) : ∀ y ∈ scope.names, y.2 = .free → ∃ c, X.env.cells.lookup y.1 = some c := fun y hy e => by
  rcases L.free y hy e with k | k
  · exact ok.has _ (.inl k)
  · exact ok.has _ (.inr k)
end
end IS
end
section
set_option Elab.async false
set_option linter.all false
set_option autoImplicit false
set_option maxRecDepth 100000
set_option maxHeartbeats 4000000
namespace IL
open PySem PySem.W
end IL
/-! IS, part 64: sorted by a lambda's keys. -/
namespace IS
open PySem PySem.Spec PySem.W PyProof.Rows L2 IL LamX
end IS
end
section
set_option Elab.async false
set_option linter.all false
set_option autoImplicit false
set_option maxRecDepth 100000
set_option maxHeartbeats 4000000
/-! IS, part 65: sorted by a lambda's keys, the run. -/
namespace IS
open PySem PySem.Spec PySem.W PyProof.Rows L2 IL LamX
section
variable {X : Cx} {T : Tb} {j : Nat} {m : Ex} {body : Expr} {scope : Scope} {x : Str} {params : Arguments} {k : Nat} {pins : List (Addr × Obj)} {σ : L2.St} {ρ : Ro} {fps : List Addr}
end
end IS
end
section
set_option Elab.async false
set_option linter.all false
set_option autoImplicit false
set_option maxRecDepth 100000
set_option maxHeartbeats 4000000
/-! IS, part 66: sorted by a lambda's keys, the whole call. -/
namespace IS
open PySem PySem.Spec PySem.W PyProof.Rows L2 IL LamX
section
variable {X : Cx} {T : Tb} {j : Nat} {m : Ex} {body : Expr} {scope : Scope} {x : Str} {params : Arguments} {k : Nat} {pins : List (Addr × Obj)} {σ : L2.St} {ρ : Ro} {fps : List Addr}
end
end IS
end
section
set_option Elab.async false
set_option linter.all false
set_option autoImplicit false
set_option maxRecDepth 100000
set_option maxHeartbeats 4000000
/-! IS, part 67: sorted(range(e), key=lambda x: ..). -/
namespace IS
open PySem PySem.Spec PySem.W PyProof.Rows L2 IL LamX
section
variable {X : Cx} {T : Tb} {W : WK} {me m : Ex} {e body : Expr} {scope : Scope} {x y : Str} {params : Arguments} {k j : Nat} {p p2 pos pos2 kpos lpos : Pos} {c P : Addr}
end
end IS
end
section
set_option Elab.async false
set_option linter.all false
set_option autoImplicit false
set_option maxRecDepth 100000
set_option maxHeartbeats 4000000
namespace IL
open PySem PySem.W
end IL
/-! IS, part 68: min of a list of data. -/
namespace IS
open PySem PySem.Spec PySem.W PyProof.Rows L2 IL LamX
section
variable {X : Cx} {T : Tb}
end
end IS
end
section
set_option Elab.async false
set_option linter.all false
set_option autoImplicit false
set_option maxRecDepth 100000
set_option maxHeartbeats 4000000
namespace IL
open PySem
end IL
/-! IS, part 69: zip of three lists. -/
namespace IS
open PySem PySem.Spec PySem.W PyProof.Rows L2 IL LamX
section
variable {X : Cx} {T : Tb} {W : WK} {ar : A} {pos : Pos} {K : PySem.W.Frag} {F : Addr → Prop} {H : Hp}
end
end IS
end
section
set_option Elab.async false
set_option linter.all false
set_option autoImplicit false
set_option maxRecDepth 100000
set_option maxHeartbeats 2000000
/-! IS, part 70: defs and methods that hold lambdas. -/
namespace IS
open PySem PySem.Spec PySem.W PyProof.Rows L2 IL LamX
section
variable {P : Program} {w : World} {K : PySem.W.Frag} {mg : Str → Option Value} {base : Heap} {x : Str} {params : Arguments} {body : List Stmt} {scope : Scope} {fd : FuncData} {N ps : List Str} {k n : Nat} {b : S} {T : Tb}
/-- as fnok_P, its code object known -/
theorem fnok_Pk {qual : Str} (p : He.Defn) (Fd : FunD K x qual params body scope [] [] (He.fAd K p) fd) (Sc : FnScope N ps scope) (hN : N.length = ps.length + n)
    (hb : ∀ (cdv : Value) (A : Around) (outer : List Env) (s : Shared) (H : Hp) (E : XK), Room k (A.deeper (envOfC qual scope s.heap.objs.size (He.fAd K p) cdv)) → cdv = .ref (He.cT K p).1 → PSs (cxOf (L2.CX P w) P w K mg base N qual scope (He.fAd K p) cdv A outer s H E) body (tS K T E (fun _ => True) b)) :
    FnOk P w K mg base (L2.CX P w) (k + 1) (He.fAd K p) fd ps (spP K T ps.length (fnP n b)) := by
  obtain ⟨oc, od, dV, kV, doc, pm, an, cdv, ct, osl, rfl, lk, hcd, d1, d2⟩ := Fd.ex
  obtain ⟨c, ec⟩ := He.codeIn_ref hcd
  have e1 : cdv = .ref (He.cT K p).1 := by
    have := He.codeOf_eq (p := p) lk (c := c) (by subst ec; rfl)
    subst ec
    show _ = Value.ref (He.codeOf K p)
    rw [this]
  refine fn_of lk hcd Sc (fun vs H Q E h => h.1) (fun A outer s H vs Q E hr h => ?_)
  refine ⟨_, hb cdv A outer s H E hr e1, ?_⟩
  obtain ⟨hl, F, ds, rs, lv, tb, q⟩ := h
  have e2 : N.length - vs.length = n := by omega
  have env : REnv K F H (L2.start N vs) (ds.map some ++ List.replicate n none) [] := by
    unfold L2.start
    rw [e2]
    exact renv_start rs
  refine ⟨F, _, [], ⟨env, List.nodup_nil, nomem', lv, tb⟩, ?_⟩
  unfold fnP at q
  cases h1 : b (ds.map some ++ List.replicate n none) with
  | bad => rw [h1] at q; exact q
  | bk ρ' => rw [h1] at q; exact q.elim
  | ct ρ' => rw [h1] at q; exact q.elim
  | exc C fs => rw [h1] at q; exact ExcW.any (k := false) (fun cls dx F' H' a b c d => q cls dx F' H' a b c d)
  | nx ρ' =>
    rw [h1] at q
    intro σ' F' H' fps' ok' ev' _
    exact q .non F' H' [] .non List.nodup_nil nomem' ok'.lv ok'.tb (ev'.sub fun a z => absurd z List.not_mem_nil)
  | rt d ρ' =>
    rw [h1] at q
    intro σ' v F' H' fps' fd' vo ev' _
    exact q v F' H' fd' vo.rep (List.nodup_append.mp vo.nd).2.1 vo.nf vo.ok.lv vo.ok.tb (ev'.sub fun a z => List.mem_append_right _ z)
end
end IS
end
section
set_option Elab.async false
set_option linter.all false
set_option autoImplicit false
set_option maxRecDepth 100000
set_option maxHeartbeats 2000000
/-! IS, part 71: classes as the generator names them; the loop over two names, as a statement. -/
namespace IS
open PySem PySem.Spec PySem.W PyProof.Rows L2 IL LamX
/-- C(..) -/
structure NewD (P : Program) (w : World) (K : PySem.W.Frag) (mg : Str → Option Value) (base : Heap) (C : Str) (ps : List Str) (sp : Sp) (k : Nat) : Prop where
  ex : ∃ fd, FnOk P w K mg base (L2.CX P w) k (He.ma K (ga K C) "__init__") fd ps sp ∧ L2.Binds K fd ps []
  mkr : Mk K (ga K C) (He.ma K (ga K C) "__init__")
  m : mg C = some (.ref (ga K C))
/-- o.m(..) -/
structure MetC (P : Program) (w : World) (K : PySem.W.Frag) (mg : Str → Option Value) (base : Heap) (C m : Str) (ps : List Str) (sp : Sp) (k : Nat) : Prop where
  ex : ∃ fd, FnOk P w K mg base (L2.CX P w) k (He.ma K (ga K C) m) fd ps sp ∧ L2.Binds K fd ps []
  mt : Meth K (ga K C) m (He.ma K (ga K C) m)
  cl : Cls K (ga K C)
section
variable {X : Cx} {T : Tb} {W : WK} {C m : Str} {ps : List Str} {n k j : Nat} {f : Fp} {fm : Fm} {p pos apos : Pos} {e o : Expr} {es : List Expr} {pr : Pe} {mo : Ex}
end
section
variable {X : Cx} {T : Tb} {W : WK} {f b l1 l2 : Nat} {b1 b2 : Bool} {s : S} {n n' : Nat → Prop} {nf nb y1 y2 : Str} {body : List Stmt} {t1 t2 x1 x2 x3 x4 j1 j2 : Nat} {p0 p1 p2 p3 p4 p5 p6 p7 p8 p9 pos : Pos}
end
end IS
end
section
set_option Elab.async false
set_option linter.all false
set_option autoImplicit false
set_option maxRecDepth 100000
set_option maxHeartbeats 2000000
namespace IL
open PySem
end IL
/-! IS, part 72: list(range(e)). -/
namespace IS
open PySem PySem.Spec PySem.W PyProof.Rows L2 IL LamX
section
variable {X : Cx} {T : Tb} {W : WK} {me : Ex} {e : Expr} {p p2 pos pos2 : Pos}
end
end IS
end
section
set_option Elab.async false
set_option linter.all false
set_option autoImplicit false
set_option maxRecDepth 100000
set_option maxHeartbeats 4000000
namespace IL
open PySem
end IL
/-! IS, part 73: what is only seen changes nothing. -/
namespace IS
open PySem PySem.Spec PySem.W PyProof.Rows L2 IL LamX
section
variable {K : PySem.W.Frag} {F F' : Addr → Prop} {H H' : Hp}
end
section
variable {X : Cx} {T : Tb} {W : WK} {e : Expr} {m : Ex}
end
end IS
end
section
set_option Elab.async false
set_option linter.all false
set_option autoImplicit false
set_option maxRecDepth 100000
set_option maxHeartbeats 4000000
/-! IS, part 74: methods that change their object, called without arguments. -/
namespace IS
open PySem PySem.Spec PySem.W PyProof.Rows L2 IL LamX
section
variable {X : Cx} {T : Tb} {W : WK} {mo : Ex} {kd : D → Bool} {r : V → List V → Hp → VK → Prop}
end
end IS
end
section
set_option Elab.async false
set_option linter.all false
set_option autoImplicit false
set_option maxRecDepth 100000
set_option maxHeartbeats 2000000
namespace IL
open PySem
end IL
/-! IS, part 75: the values of a dict. -/
namespace IS
open PySem PySem.Spec PySem.W PyProof.Rows L2 IL LamX
section
variable {X : Cx} {tg e : Expr} {td : TE} {apos cpos : Pos}
end
section
variable {X : Cx} {T : Tb} {W : WK} {H : Hp} {F : Addr → Prop} {K : PySem.W.Frag} {σ : L2.St} {tg e : Expr} {m : Ex} {apos cpos : Pos}
end
end IS
end
section
set_option Elab.async false
set_option linter.all false
set_option autoImplicit false
set_option maxRecDepth 100000
set_option maxHeartbeats 2000000
namespace IL
open PySem
end IL
/-! IS, part 76: not in a module's tuple of texts. -/
namespace IS
open PySem PySem.Spec PySem.W PyProof.Rows L2 IL LamX
section
variable {X : Cx} {T : Tb} {W : WK} {e : Expr} {m : Ex} {pos p : Pos}
end
end IS
end
section
set_option Elab.async false
set_option linter.all false
set_option autoImplicit false
set_option maxRecDepth 100000
set_option maxHeartbeats 4000000
namespace IL
open PySem
mutual
/-- the list at a is no cell any more: it holds zs for good -/
def D.rel (a : Nat) (zs : List D) : D → D
  | .cel b xs => if b = a then .lst false zs else .cel b xs
  | .lst m xs => .lst m (rels a zs xs)
  | .tup xs => .tup (rels a zs xs)
  | .dct m t ks vs => .dct m t ks (rels a zs vs)
  | .ins m C fs vs => .ins m C fs (rels a zs vs)
  | .err C fs vs => .err C fs (rels a zs vs)
  | .non => .non | .bl b => .bl b | .int i => .int i | .str x => .str x | .ty n => .ty n | .glo x => .glo x | .scr ns => .scr ns | .lam x r => .lam x r
def rels (a : Nat) (zs : List D) : List D → List D
  | [] => []
  | x :: xs => x.rel a zs :: rels a zs xs
end
mutual
/-- no cell but that at a -/
def D.okC (a : Nat) : D → Bool
  | .cel b _ => b == a
  | .lst _ xs => okCs a xs
  | .tup xs => okCs a xs
  | .dct _ _ _ vs => okCs a vs
  | .ins _ _ _ vs => okCs a vs
  | .err _ _ vs => okCs a vs
  | .scr _ => false
  | .non => true | .bl _ => true | .int _ => true | .str _ => true | .ty _ => true | .glo _ => true | .lam _ _ => true
def okCs (a : Nat) : List D → Bool
  | [] => true
  | x :: xs => x.okC a && okCs a xs
end
def relO (a : Nat) (zs : List D) : Option D → Option D
  | none => none
  | some d => if d.okC a then some (d.rel a zs) else none
def isCel (a : Nat) : Option (Option D) → Bool
  | some (some (.cel b _)) => b == a
  | _ => false
def celOut (i a : Nat) (xs zs : List D) : SR → SR
  | .nx ρ => if isCel a ρ[i]? then .nx (ρ.map (relO a zs)) else .bad
  | .rt d ρ => if d.okC a then .rt (d.rel a xs) (ρ.map (relO a xs)) else .bad
  | .exc C fs => .exc C fs
  | _ => .bad
open Classical in
/-- b runs while the list in slot i is a cell, then y is appended to it -/
noncomputable def sCel (i : Nat) (b : S) (y : D) : S := fun ρ => match ρ[i]? with
  | some (some (.lst true xs)) => if xs.all D.atom && decide (xs.length < sz) then
      (if ∀ a : Nat, celOut i a xs (xs ++ [y]) (b (ρ.set i (some (.cel a xs)))) = celOut i 0 xs (xs ++ [y]) (b (ρ.set i (some (.cel 0 xs)))) then celOut i 0 xs (xs ++ [y]) (b (ρ.set i (some (.cel 0 xs)))) else .bad) else .bad
  | _ => .bad
end IL
/-! IS, part 77: a list that several name and that is changed afterwards. -/
namespace IS
open PySem PySem.Spec PySem.W PyProof.Rows L2 IL LamX
section
variable {X : Cx} {T : Tb} {W : WK} {K : PySem.W.Frag} {F : Addr → Prop} {H : Hp} {σ : L2.St} {ρ : Ro} {fps : List Addr} {n : Nat → Prop}
mutual
theorem Rep.rel {a : Addr} {od : Obj} {vs ws : List V} {zs : List D} (hz : ∀ F H, Reps K F H ws zs []) (hl : ws.length ≤ sizeLine) (ha : H a = some (.frz od (.lst vs))) (hf : ¬ F a) : ∀ {v : V} {d : D} {fp : List Addr}, Rep K F H v d fp → d.okC a = true → Rep K (fun b => F b ∨ b = a) (upd H a (.lst ws)) v (d.rel a zs) fp
  | _, _, _, .non, _ => .non
  | _, _, _, .bl b, _ => .bl b
  | _, _, _, .int b, _ => .int b
  | _, _, _, .str b l, _ => .str b l
  | _, _, _, .ty b, _ => .ty b
  | _, _, _, .glo b, _ => .glo b
  | _, _, _, .lstO e l r, h => by
    unfold D.rel
    exact .lstO (by rw [upd_ne (ne_of e ha (fun z => nomatch z))]; exact e) l (Reps.rel hz hl ha hf r (by simpa [D.okC] using h))
  | _, _, _, .lstF f e l r, h => by
    unfold D.rel
    have ne : ∀ b, F b → b ≠ a := fun b z w => hf (w ▸ z)
    refine .lstF (.inl f) ?_ l (Reps.rel hz hl ha hf r (by simpa [D.okC] using h))
    unfold Rd at e ⊢
    rw [upd_ne (ne _ f)]
    exact e
  | _, _, _, .scr e, h => by simp [D.okC] at h
  | _, _, _, .lam x e1 e2, _ => by
    unfold D.rel
    exact .lam x (by rw [upd_ne (ne_of e1 ha (fun z => nomatch z))]; exact e1) (by rw [upd_ne (ne_of e2 ha (fun z => nomatch z))]; exact e2)
  | _, _, _, .cel (a := b) e l r, h => by
    have hb : b = a := by simpa [D.okC] using h
    subst hb
    unfold D.rel
    rw [if_pos rfl]
    exact .lstF (.inr rfl) (.inl upd_same) hl (hz _ _)
  | _, _, _, .err e1 e2 l r, h => by
    unfold D.rel
    exact .err (by rw [upd_ne (ne_of e1 ha (fun z => nomatch z))]; exact e1) (by rw [upd_ne (ne_of e2 ha (fun z => nomatch z))]; exact e2) l (Reps.rel hz hl ha hf r (by simpa [D.okC] using h))
  | _, _, _, .err0 e, h => by
    unfold D.rel rels
    exact .err0 (by rw [upd_ne (ne_of e ha (fun z => nomatch z))]; exact e)
  | _, _, _, .tup e l r, h => by
    unfold D.rel
    exact .tup (by rw [upd_ne (ne_of e ha (fun z => nomatch z))]; exact e) l (Reps.rel hz hl ha hf r (by simpa [D.okC] using h))
  | _, _, _, .dctO e c l r, h => by
    unfold D.rel
    exact .dctO (by rw [upd_ne (ne_of e ha (fun z => by rw [z] at c; cases c))]; exact e) c l (Reps.rel hz hl ha hf r (by simpa [D.okC] using h))
  | _, _, _, .dctF f e c l r, h => by
    unfold D.rel
    have ne : ∀ b, F b → b ≠ a := fun b z w => hf (w ▸ z)
    refine .dctF (.inl f) ?_ c l (Reps.rel hz hl ha hf r (by simpa [D.okC] using h))
    unfold Rd at e ⊢
    rw [upd_ne (ne _ f)]
    exact e
  | _, _, _, .insO e l r, h => by
    unfold D.rel
    exact .insO (by rw [upd_ne (ne_of e ha (fun z => nomatch z))]; exact e) l (Reps.rel hz hl ha hf r (by simpa [D.okC] using h))
  | _, _, _, .insF f e l r, h => by
    unfold D.rel
    exact .insF (.inl f) (by rw [upd_ne (ne_of e ha (fun z => nomatch z))]; exact e) l (Reps.rel hz hl ha hf r (by simpa [D.okC] using h))
theorem Reps.rel {a : Addr} {od : Obj} {vs ws : List V} {zs : List D} (hz : ∀ F H, Reps K F H ws zs []) (hl : ws.length ≤ sizeLine) (ha : H a = some (.frz od (.lst vs))) (hf : ¬ F a) : ∀ {us : List V} {ds : List D} {fp : List Addr}, Reps K F H us ds fp → okCs a ds = true → Reps K (fun b => F b ∨ b = a) (upd H a (.lst ws)) us (rels a zs ds) fp
  | _, _, _, .nil, _ => by unfold rels; exact .nil
  | _, _, _, .cons r q, h => by
    unfold rels
    simp only [okCs, Bool.and_eq_true] at h
    exact .cons (Rep.rel hz hl ha hf r h.1) (Reps.rel hz hl ha hf q h.2)
end
theorem renv_rel {a : Addr} {od : Obj} {vs ws : List V} {zs : List D} (hz : ∀ F H, Reps K F H ws zs []) (hl : ws.length ≤ sizeLine) (ha : H a = some (.frz od (.lst vs))) (hf : ¬ F a) : ∀ {σ : L2.St} {ρ : Ro} {fps : List Addr}, REnv K F H σ ρ fps → ∃ fps', REnv K (fun b => F b ∨ b = a) (upd H a (.lst ws)) σ (ρ.map (relO a zs)) fps' ∧ fps'.Sublist fps
  | _, _, _, .nil => ⟨[], .nil, .slnil⟩
  | _, _, _, .skip r => by
    obtain ⟨f, q, s⟩ := renv_rel hz hl ha hf r
    exact ⟨f, .skip q, s⟩
  | _, _, _, .cons (d := d) (fp := fp) r q => by
    obtain ⟨f, q', s⟩ := renv_rel hz hl ha hf q
    by_cases hd : d.okC a = true
    · refine ⟨fp ++ f, ?_, List.Sublist.append_left s _⟩
      rw [List.map_cons, relO, if_pos hd]
      exact .cons (Rep.rel hz hl ha hf r hd) q'
    · refine ⟨f, ?_, s.trans (List.sublist_append_right _ _)⟩
      rw [List.map_cons, relO, if_neg hd]
      exact .skip q'
theorem execs_app {M : Model} {Γ : PySem.Ctx} {env : Env} {Q : Flow → Pos → Shared → Prop} {E : Value → Pos → Shared → Prop} : ∀ (a b : List Stmt) (p : Pos) (s : Shared), Sem.wp M Γ (execs a env) (fun f p' s' => match f with | .next => Sem.wp M Γ (execs b env) Q E p' s' | f => Q f p' s') E p s → Sem.wp M Γ (execs (a ++ b) env) Q E p s
  | [], b, p, s, h => h
  | st :: a, b, p, s, h => by
    rw [execs_cons, Sem.wp_bind'] at h
    rw [List.cons_append, execs_cons, Sem.wp_bind']
    refine Sem.wp_mono M Γ _ (fun f p' s' h' => ?_) (fun _ _ _ z => z) _ _ h
    cases f with
    | next => exact execs_app a b p' s' h'
    | _ => exact h'
theorem wpAny_execs_app {M : Model} {A : Around} {env : Env} {a b : List Stmt} {s : Shared} {Q : Flow → Shared → Prop} {E : Value → Shared → Prop} (h : wpAny M A (execs a env) (fun f s' => match f with | .next => wpAny M A (execs b env) Q E s' | f => Q f s') E s) : wpAny M A (execs (a ++ b) env) Q E s := fun Γ p hΓ =>
  execs_app (Q := fun f _ s' => Q f s') (E := fun v _ s' => E v s') a b p s (Sem.wp_mono M Γ _ (fun f p' s' h' => by cases f <;> first | exact h' Γ p' hΓ | exact h') (fun _ _ _ z => z) _ _ (h Γ p hΓ))
theorem atoms_rep : ∀ {vs : List V} {ds : List D} {f : List Addr}, Reps K F H vs ds f → ds.all D.atom = true → f = [] ∧ ∀ F H, Reps K F H vs ds []
  | _, _, _, .nil, _ => ⟨rfl, fun _ _ => .nil⟩
  | _, _, _, .cons (fp := fp) r q, h => by
    simp only [List.all_cons, Bool.and_eq_true] at h
    obtain ⟨e, q'⟩ := atoms_rep q h.2
    subst e
    have r' := r.atom h.1
    have : fp = [] := by
      cases r <;> first | rfl | (simp [D.atom] at h)
    subst this
    exact ⟨rfl, fun F H => .cons (fp := []) (r' F H) (q' F H)⟩
theorem pss_cel {i : Nat} {body rest : List Stmt} {st : Stmt} {b c : S} {y : D} {yv : V} (hy : ∀ F H, Rep X.K F H yv y []) (hb : PSs X body (tS X.K T W n b)) (hst : PS X st (tDrop (tW "list" rAppend (tVar i) (tCons (tC yv) tNil)))) (hr : PSs X rest (tS X.K T W n c)) :
    PSs X (body ++ st :: rest) (tS X.K T W n (sSeq (sCel i b y) c)) := by
  refine ⟨fun pins s σ H D I ⟨F, ρ, fps, ok, q⟩ => wpAny_execs_app ?_⟩
  have go : ∀ (xs : List IL.D), ρ[i]? = some (some (.lst true xs)) → xs.all IL.D.atom = true → xs.length < sz → (∀ a : Nat, tSR X.K T W n (sSeq (fun ρ => celOut i a xs (xs ++ [y]) (b (ρ.set i (some (.cel a xs))))) c ρ) F fps D σ H) → wpAny (model X.prog X.w) X.A (execs body X.env) (fun f s' => match f with | .next => wpAny (model X.prog X.w) X.A (execs (st :: rest) X.env) (SP X pins D) X.xe s' | f => SP X pins D f s') X.xe s := by
    intro xs e hat hlen q
    obtain ⟨v, pre, fd, post, e1, e2, r1, h1⟩ := renv_at ok.env e
    cases r1 with
    | lstO ea l r =>
      rename_i a vs fp
      obtain ⟨rfl, rv⟩ := atoms_rep r hat
      have q := q a
      have mu : Mut (some (HO.lst vs)) := trivial
      have nFa : ¬ F a := ok.nf a (by rw [e2]; simp)
      have nd := ok.nd
      rw [e2] at nd
      have dis : a ∉ pre ∧ a ∉ post := by
        simp only [List.nodup_append, List.mem_append] at nd
        grind
      obtain ⟨od, I1⟩ := I.lock ea mu
      have H1 : (upd H a (.frz od (.lst vs))) a = some (.frz od (.lst vs)) := upd_same
      have kp : Keeps [a] F H F (upd H a (.frz od (.lst vs))) := ⟨fun b o hb e n => .inl (by rw [upd_ne (fun z => hb (by simp [z]))]; exact e), fun _ z => z⟩
      have hS : ∀ b ∈ [a], ∃ o, H b = some o ∧ MutK o := fun b z => by rw [List.mem_singleton.mp z]; exact ⟨_, ea, trivial⟩
      have hF : ∀ b ∈ [a], ¬ F b := fun b z => by rw [List.mem_singleton.mp z]; exact nFa
      have sub1 : ∀ b ∈ pre ++ ([] ++ post), b ∈ fps ∧ b ≠ a := fun b z => by
        rw [e2]
        simp only [List.nil_append, List.mem_append] at z
        refine ⟨by simp only [List.mem_append, List.mem_cons]; grind, fun w => ?_⟩
        subst w
        rcases z with z | z
        · exact dis.1 z
        · exact dis.2 z
      have env1 := h1 F (upd H a (.frz od (.lst vs))) (.ref a) (.cel a xs) [] (fun {v d f} r hf => r.keep kp hS hF fun b z => ⟨fun w => by
        rw [List.mem_singleton.mp w] at z
        rcases hf a z with y | y
        · exact dis.1 y
        · exact dis.2 y, ok.nf b (by rw [e2]; simp only [List.mem_append, List.mem_cons]; have := hf b z; grind)⟩) (.cel H1 l (rv _ _))
      rw [set_self e1] at env1
      have ok1 : Ok X.K T F (upd H a (.frz od (.lst vs))) σ (ρ.set i (some (.cel a xs))) (pre ++ ([] ++ post)) := ⟨env1, by
          simp only [List.nodup_append, List.nil_append, List.mem_append] at nd ⊢
          grind, fun b z => ok.nf b (sub1 b z).1, fun b z => by
          obtain ⟨o, eo, no⟩ := ok.lv b z
          exact ⟨o, by rw [upd_ne (fun w => nFa (by rw [← w]; exact z))]; exact eo, no⟩, tabs_lock ok.tb ea trivial⟩
      -- from the body's end to the whole's
      have fin : ∀ (σ2 : L2.St) (ρ2 : Ro) (F2 : Addr → Prop) (H2 : Hp) (fps2 fd2 : List Addr) (ws : List V) (zs : List IL.D), (∀ F H, Reps X.K F H ws zs []) → ws.length ≤ sizeLine → Ok X.K T F2 H2 σ2 ρ2 fps2 → (fps2 ++ fd2).Nodup → (∀ b ∈ fd2, ¬ F2 b) → Evo F (upd H a (.frz od (.lst vs))) (pre ++ ([] ++ post)) F2 H2 (fps2 ++ fd2) →
          H2 a = some (.frz od (.lst vs)) ∧ ¬ F2 a ∧ ∃ fps3, Ok X.K T (fun b => F2 b ∨ b = a) (upd H2 a (.lst ws)) σ2 (ρ2.map (relO a zs)) fps3 ∧ fps3.Sublist fps2 ∧ Evo F H fps (fun b => F2 b ∨ b = a) (upd H2 a (.lst ws)) (fps3 ++ fd2) ∧ ∀ b ∈ fd2, ¬ (F2 b ∨ b = a) := by
        intro σ2 ρ2 F2 H2 fps2 fd2 ws zs hz hl ok2 nd2 nf2 ev2
        have aN : a ∉ pre ++ ([] ++ post) := fun z => (sub1 a z).2 rfl
        have lvA : Live (upd H a (.frz od (.lst vs))) a := ⟨_, H1, fun ps z => nomatch z⟩
        have H2a : H2 a = some (.frz od (.lst vs)) := (ev2.keep a _ aN H1 (fun ps z => nomatch z)).ex (.inr fun z => z)
        have nF2 : ¬ F2 a := fun z => (ev2.fn a z).elim nFa fun w => w.elim aN fun w => w lvA
        have nN2 : a ∉ fps2 ++ fd2 := fun z => (ev2.new a z).elim aN fun w => w lvA
        obtain ⟨fps3, env3, sub3⟩ := renv_rel hz hl H2a nF2 ok2.env
        refine ⟨H2a, nF2, fps3, ⟨env3, ok2.nd.sublist sub3, fun b z w => ?_, fun b z => ?_, ?_⟩, sub3, ⟨fun b o hb eb nb => ?_, fun b z => ?_, fun b z => .inl (ev2.fr b z), fun b z => ?_⟩, fun b z w => ?_⟩
        · rcases w with w | w
          · exact ok2.nf b (sub3.subset z) w
          · subst w
            exact nN2 (List.mem_append_left _ (sub3.subset z))
        · by_cases hb : b = a
          · subst hb
            exact ⟨_, upd_same, fun ps z => nomatch z⟩
          · obtain ⟨o, eo, no⟩ := ok2.lv b (z.resolve_right hb)
            exact ⟨o, by rw [upd_ne hb]; exact eo, no⟩
        · refine Tabs.same ok2.tb fun b w e hnf => ?_
          by_cases hb : b = a
          · subst hb
            rw [H2a] at e
            cases e
            exact absurd rfl (hnf _ _)
          · exact .inl (by rw [upd_ne hb]; exact e)
        · have hba : b ≠ a := fun w => hb (by rw [w, e2]; simp)
          have := ev2.keep b o (fun z => hb (sub1 b z).1) (by rw [upd_ne hba]; exact eb) nb
          rcases this with k | ⟨k1, k2, o', k3⟩
          · exact .inl (by rw [upd_ne hba]; exact k)
          · exact .inr ⟨.inl k1, k2, o', by rw [upd_ne hba]; exact k3⟩
        · have z' : b ∈ fps2 ++ fd2 := by
            rcases List.mem_append.mp z with z | z
            · exact List.mem_append_left _ (sub3.subset z)
            · exact List.mem_append_right _ z
          rcases ev2.new b z' with y | y
          · exact .inl (sub1 b y).1
          · have hba : b ≠ a := fun w => nN2 (by rw [← w]; exact z')
            exact .inr fun ⟨o, eo, no⟩ => y ⟨o, by rw [upd_ne hba]; exact eo, no⟩
        · rcases z with z | z
          · rcases ev2.fn b z with y | y | y
            · exact .inl y
            · exact .inr (.inl (sub1 b y).1)
            · have hba : b ≠ a := fun w => nF2 (by rw [← w]; exact z)
              exact .inr (.inr fun ⟨o, eo, no⟩ => y ⟨o, by rw [upd_ne hba]; exact eo, no⟩)
          · subst z
            exact .inr (.inl (by rw [e2]; simp))
        · rcases w with w | w
          · exact nf2 b z w
          · subst w
            exact nN2 (List.mem_append_right _ z)
      let D1 : Ends := ⟨fun σ' H' => H' a = some (.frz od (.lst vs)) ∧ tSeq (tDrop (tW "list" rAppend (tVar i) (tCons (tC yv) tNil))) (tS X.K T W n c) D σ' (upd H' a (.lst vs)), fun v H' => H' a = some (.frz od (.lst vs)) ∧ D.rt v (upd H' a (.lst vs)), fun _ _ => False, fun _ _ => False⟩
      have q1 : tSR X.K T W n (b (ρ.set i (some (.cel a xs)))) F (pre ++ ([] ++ post)) D1 σ (upd H a (.frz od (.lst vs))) := by
        replace q : tSR X.K T W n (match celOut i a xs (xs ++ [y]) (b (ρ.set i (some (.cel a xs)))) with | .nx ρ' => c ρ' | r => r) F fps D σ H := q
        cases hbr : b (ρ.set i (some (.cel a xs))) with
        | bad => rw [hbr] at q; exact q
        | bk ρ2 => rw [hbr] at q; exact q.elim
        | ct ρ2 => rw [hbr] at q; exact q.elim
        | exc C fs =>
          rw [hbr] at q
          simp only [celOut] at q
          intro cls dx F' H' ex lv tb ev
          refine q cls dx F' H' ex lv tb ⟨fun b o hb eb nb => ?_, fun b z => absurd z List.not_mem_nil, ev.fr, fun b z => ?_⟩
          · have hba : b ≠ a := fun w => hb (by show b ∈ fps; rw [w, e2]; simp)
            exact ev.keep b o (fun z => hb (sub1 b z).1) (by rw [upd_ne hba]; exact eb) nb
          · rcases ev.fn b z with y | y | y
            · exact .inl y
            · exact .inr (.inl (sub1 b y).1)
            · by_cases hba : b = a
              · subst hba
                exact .inr (.inl (by show b ∈ fps; rw [e2]; simp))
              · exact .inr (.inr fun ⟨o, eo, no⟩ => y ⟨o, by rw [upd_ne hba]; exact eo, no⟩)
        | rt d ρ2 =>
          rw [hbr] at q
          simp only [celOut] at q
          by_cases hd : d.okC a = true
          · rw [if_pos hd] at q
            simp only at q
            intro σ2 v2 F2 H2 fps2 fd2 vo ev kpp
            obtain ⟨H2a, nF2, fps3, ok3, sub3, ev3, nf3⟩ := fin σ2 ρ2 F2 H2 fps2 fd2 vs xs rv l vo.ok vo.nd vo.nf ev
            exact ⟨H2a, q σ2 v2 _ _ fps3 fd2 ⟨ok3, Rep.rel rv l H2a nF2 vo.rep hd, vo.nd.sublist (sub3.append_right _), nf3⟩ ev3 kpp⟩
          · rw [if_neg hd] at q
            exact q.elim
        | nx ρ2 =>
          rw [hbr] at q
          simp only [celOut] at q
          by_cases hic : isCel a ρ2[i]? = true
          case neg =>
            rw [if_neg hic] at q
            exact q.elim
          rw [if_pos hic] at q
          simp only at q
          intro σ2 F2 H2 fps2 ok2 ev kpp
          have hws : ∀ F H, Reps X.K F H (vs ++ [yv]) (xs ++ [y]) [] := fun F H => Reps.app (rv F H) (Reps.single (hy F H))
          have hlv : vs.length < sizeLine := by rw [reps_len (rv F H), sl_sz]; exact hlen
          obtain ⟨H2a, nF2, fps3, ok3, sub3, ev3, nf3⟩ := fin σ2 ρ2 F2 H2 fps2 [] (vs ++ [yv]) (xs ++ [y]) hws (by simp; omega) ok2 (by simpa using ok2.nd) nomem' (by simpa using ev)
          refine ⟨H2a, ?_⟩
          -- the slot still names it
          have es : σ2[i]? = some (some (.ref a)) := by
            cases ei : ρ2[i]? with
            | none => rw [ei] at hic; cases hic
            | some od2 =>
              rw [ei] at hic
              cases od2 with
              | none => cases hic
              | some d2 =>
                cases d2 with
                | cel b2 ys =>
                  have hb2 : b2 = a := by simpa [isCel] using hic
                  subst hb2
                  obtain ⟨v2, _, _, _, g1, _, g2, _⟩ := renv_at ok2.env ei
                  cases g2
                  exact g1
                | _ => cases hic
          refine ⟨.ref a, es, .inr ⟨a, rfl, .inl ⟨rfl, vs, .inl upd_same⟩⟩, a, vs, yv, rfl, rfl, upd_same, hlv, ?_⟩
          rw [upd_upd]
          have ev4 : Evo F H fps (fun b => F2 b ∨ b = a) (upd H2 a (.lst (vs ++ [yv]))) fps3 := by simpa using ev3
          refine ⟨_, _, fps3, ok3, ?_⟩
          cases h2 : c (ρ2.map (relO a (xs ++ [y]))) with
          | bad => rw [h2] at q; exact q
          | exc C fs => rw [h2] at q; exact ExcW.then (fx := []) q (by simpa using ev4)
          | bk ρ' => rw [h2] at q; exact fun σ3 F3 H3 fps4 ok4 e2 k2 => q σ3 F3 H3 fps4 ok4 (ev4.trans e2) (kpp.trans k2)
          | ct ρ' => rw [h2] at q; exact fun σ3 F3 H3 fps4 ok4 e2 k2 => q σ3 F3 H3 fps4 ok4 (ev4.trans e2) (kpp.trans k2)
          | nx ρ' => rw [h2] at q; exact fun σ3 F3 H3 fps4 ok4 e2 k2 => q σ3 F3 H3 fps4 ok4 (ev4.trans e2) (kpp.trans k2)
          | rt d ρ' => rw [h2] at q; exact fun σ3 v F3 H3 fps4 fd v2 e2 k2 => q σ3 v F3 H3 fps4 fd v2 (ev4.trans e2) (kpp.trans k2)
      refine thn (hb.run pins s σ _ D1 I1 ⟨F, _, _, ok1, q1⟩) fun f s1 q => ?_
      cases f with
      | next =>
        obtain ⟨σ', H', I2, e, q⟩ := q
        exact (pss_cons hst hr).run pins s1 σ' _ D (I2.unlock e (I.nofrz ea mu)) q
      | brk => obtain ⟨σ', H', I2, q⟩ := q; exact q.elim
      | cont => obtain ⟨σ', H', I2, q⟩ := q; exact q.elim
      | ret v => obtain ⟨x, σ', H', I2, r, e, q⟩ := q; exact ⟨x, σ', _, I2.unlock e (I.nofrz ea mu), r, q⟩
  unfold sSeq sCel at q
  cases e : ρ[i]? with
  | none => rw [e] at q; exact q.elim
  | some od =>
    rw [e] at q
    cases od with
    | none => exact q.elim
    | some d =>
      cases d with
      | lst m xs =>
        cases m with
        | false => exact q.elim
        | true =>
          simp only at q
          by_cases h1 : (xs.all IL.D.atom && decide (xs.length < sz)) = true
          · rw [if_pos h1] at q
            by_cases h2 : ∀ a : Nat, celOut i a xs (xs ++ [y]) (b (ρ.set i (some (.cel a xs)))) = celOut i 0 xs (xs ++ [y]) (b (ρ.set i (some (.cel 0 xs))))
            · rw [if_pos h2] at q
              simp only [Bool.and_eq_true, decide_eq_true_eq] at h1
              refine go xs e h1.1 h1.2 fun a => ?_
              show tSR X.K T W n (match celOut i a xs (xs ++ [y]) (b (ρ.set i (some (.cel a xs)))) with | .nx ρ' => c ρ' | r => r) F fps D σ H
              rw [h2 a]
              exact q
            · rw [if_neg h2] at q
              exact q.elim
          · rw [if_neg h1] at q
            exact q.elim
      | _ => exact q.elim
end
end IS
end
section
set_option Elab.async false
set_option linter.all false
set_option autoImplicit false
set_option maxRecDepth 100000
set_option maxHeartbeats 2000000
/-! IS, part 78: own errors as values: a class called with keywords. -/
namespace PySem
namespace HandSPX
open Builtin Builtin.ObjectAttr Sem Spec
section
variable {M : Model} {A : Around} {E : Value → Shared → Prop} {h : Heap} {g : Array GenState} {d : Drawn} {t : Nat} {os : OsState}
variable {nm q : Str} {C N : Addr} {bs bm bmB : List Value} {hdct : Bool} {sn : List Str} {sub : List Value} {ab : Bool} {col : Option Bool} {dd : Option Addr} {k0 k1 k2 k3 k5 : Option Value} {B newId initId : String}
theorem check_new_ownK (F : ExcBaseFacts B newId initId bmB) (hT : ∀ X : String, bm.contains (.type X) = bmB.contains (.type X)) {kw : List (Str × Value)} {Q : Unit → Shared → Prop}
    (hC : h.get? C = some (excClassObj nm q C N bs bm hdct sn sub ab col dd k0 k1 k2 k3 k5 newId)) (hq : Q () ⟨h, g, d, t, os⟩) : wpAny M A (checkBuiltinCall newId ⟨[.ref C], kw⟩) Q E ⟨h, g, d, t, os⟩ := by
  have hcont : (Value.ref C :: bm).contains (.type B) = true := by rw [List.contains_cons, hT, F.hasB, Bool.or_true]
  have hstar := F.noStar
  simp only [checkBuiltinCall, F.newKind, F.newSplit, F.newRow]
  repeat (first | refine wpAny_loadPart_at hC ?_ | (refine wpAny_isSubtype_exc hC ?_; rw [hcont]) | refine wpAny_staticBase_exc hC ?_ | refine wpAny_madeBy_exc hC ?_ | simp only [bne_self_eq_false, Bool.false_eq_true, if_false] | wp_step)
  exact hq
end
section
variable {prog : Program} {w : World} {A : Around} {E : Value → Shared → Prop} {R : Result → Shared → Prop} {h : Heap} {g : Array GenState} {d : Drawn} {t : Nat} {os : OsState}
variable {nm q : Str} {C N : Addr} {bs bm bmB : List Value} {hdct : Bool} {sn : List Str} {sub : List Value} {ab : Bool} {col : Option Bool} {dd : Option Addr} {k0 k1 k2 k3 k5 : Option Value} {B newId initId : String}
theorem new_ownK (F : ExcBaseFacts B newId initId bmB) (hT : ∀ X : String, bm.contains (.type X) = bmB.contains (.type X)) {kw : List (Str × Value)}
    (hC : h.get? C = some (excClassObj nm q C N bs bm hdct sn sub ab col dd k0 k1 k2 k3 k5 newId))
    (hq : R (.ok (.ret (.ref (h.objs.size + 1)))) ⟨(h.push { cls := .type "tuple", data := .seq #[] }).push
      { cls := .ref C, data := .fields #[.ref h.objs.size, .none, .none, .none, .bool false, .none] }, g, d, t, os⟩) :
    codeAny (model prog w) A (.builtin newId ⟨[.ref C], kw⟩) R ⟨h, g, d, t, os⟩ := by
  have hends := F.ends
  have hcB : (Value.ref C :: bm).contains (.type B) = true := by rw [List.contains_cons, hT, F.hasB, Bool.or_true]
  have hcA : (Value.ref C :: bm).contains (.type "AttributeError") = false := by rw [List.contains_cons, hT, F.noAttr]; rfl
  have hcN : (Value.ref C :: bm).contains (.type "NameError") = false := by rw [List.contains_cons, hT, F.noName]; rfl
  refine codeAny_builtinAt F.entry ?_
  unfold Builtin.«BaseException.__new__»
  refine wpAt_bind ?_
  show wpAt _ _ _ (stack >>= _) _ _ _
  refine wpAt_bind (wpAt_stack fun p below => wpAt_of_wpAny ?_)
  wp_walk
  refine wpAt_of_wpAny ?_
  rw [F.owner]
  repeat (first | with_reducible refine wpAny_madeHere_exc F.canon hC ?_ | with_reducible refine wpAny_loadPart_at hC ?_ | (with_reducible refine wpAny_isSubtype_exc hC ?_; first | rw [hcB] | rw [hcA] | rw [hcN]) | wp_step)
  show R _ _
  rw [Heap.size_push]
  exact hq
theorem type_call_ownK (F : ExcBaseFacts B newId initId bmB) (hT : ∀ X : String, bm.contains (.type X) = bmB.contains (.type X)) {kw : List (Str × Value)} {fI : Addr} {Q : Fin → Shared → Prop}
    (hC : h.get? C = some (excClassObj nm q C N bs bm hdct sn sub ab col dd k0 k1 k2 k3 k5 newId))
    (hi : W.Looks (model prog w) h (typeLookup (.ref C) "__init__") (some (.ref fI))) (hb : ∀ self, W.Looks (model prog w) h (bindSpecial (.ref fI) self) (.ref fI, [self]))
    (hq : codeAny (model prog w) A (.call (.ref fI) ⟨[.ref (h.objs.size + 1)], kw⟩)
      (fun r s' => match r with | .ok (.ret v) => v = .none ∧ Q (.done (.ret (.ref (h.objs.size + 1)))) s' | .ok _ => False | .error e => E e s')
      ⟨(h.push (W.kdv_tup [])).push (excO C h.objs.size), g, d, t, os⟩) :
    wpAny (model prog w) A (Builtin.«type.__call__» ⟨[.ref C], kw⟩) Q E ⟨h, g, d, t, os⟩ := by
  repeat (first | with_reducible refine wpAny_loadPart_at hC ?_ | with_reducible refine wpAny_madeBy_exc hC ?_ | wp_step)
  refine codeAny_call_builtin_code (Code.quiet_builtin _ F.quiet) (check_new_ownK F hT hC ?_)
  refine new_ownK F hT hC ?_
  show wpAny _ _ _ _ _ _
  have k : ∀ b o, h.get? b = some o → ((h.push (W.kdv_tup [])).push (excO C h.objs.size)).get? b = some o := fun b o e => Heap.get?_push_of_some _ (Heap.get?_push_of_some _ e)
  have hC₁ := k _ _ hC
  have hget : ((h.push (W.kdv_tup [])).push (excO C h.objs.size)).get? (h.objs.size + 1) = some (excO C h.objs.size) := by heap_get
  have hcC : (Value.ref C :: bm).contains (.ref C) = true := by simp
  have i1 := hi.keeps k
  have b1 := (hb (.ref (h.objs.size + 1))).keeps k
  unfold isInstance
  repeat (first | with_reducible refine wpAny_loadPart_at hget ?_ | (with_reducible refine wpAny_isSubtype_exc hC₁ ?_; rw [hcC]) | wp_step)
  show wpAny _ _ (typeLookup (.ref C) _) _ _ _
  refine i1.at ?_
  refine wpAny_holding (wpAny_bind (b1.at ?_))
  refine wpAny_bind (wpAny_call (codeAny_mono hq fun r s' z => ?_))
  rcases r with e | (v | _ | _ | _) <;> first | exact z | exact z.elim | skip
  obtain ⟨rfl, z⟩ := z
  first
    | exact wpAny_pure (wpAny_pure z)
    | (wp_walk; exact z)
theorem call_ownK (F : ExcBaseFacts B newId initId bmB) (hT : ∀ X : String, bm.contains (.type X) = bmB.contains (.type X)) {kw : List (Str × Value)} {fI : Addr}
    (hC : h.get? C = some (excClassObj nm q C N bs bm hdct sn sub ab col dd k0 k1 k2 k3 k5 newId))
    (hi : W.Looks (model prog w) h (typeLookup (.ref C) "__init__") (some (.ref fI))) (hb : ∀ self, W.Looks (model prog w) h (bindSpecial (.ref fI) self) (.ref fI, [self]))
    (hq : codeAny (model prog w) (A.under (.builtin "type.__call__" ⟨[.ref C], kw⟩)) (.call (.ref fI) ⟨[.ref (h.objs.size + 1)], kw⟩) (W.InitBack (h.objs.size + 1) R)
      ⟨(h.push (W.kdv_tup [])).push (excO C h.objs.size), g, d, t, os⟩) :
    codeAny (model prog w) A (.call (.ref C) ⟨[], kw⟩) R ⟨h, g, d, t, os⟩ := by
  have f1 := tc_lookup
  have f2 := tc_bind (.ref C)
  have hTy : (⟨h, g, d, t, os⟩ : Shared).TypeIs (.ref C) "type" := ⟨_, hC, rfl⟩
  refine codeAny_of_tree ?_
  show wpAny _ _ (callAny (.ref C) _) _ _ _
  repeat (any_goals (first | assumption | with_reducible refine wpAny_loadPart_at hC ?_ | wp_step))
  refine ⟨rfl, ?_⟩
  refine codeAny_call_builtin_at (Code.quiet_builtin _ (by decide +kernel)) entry_typeCall (wpAny_check_type_call_sub hC (type_call_ownK F hT hC hi hb ?_))
  refine codeAny_mono hq fun r s' z => ?_
  rcases r with e | (v | _ | _ | _) <;> exact z
end
end HandSPX
end PySem
end
section
set_option Elab.async false
set_option linter.all false
set_option autoImplicit false
set_option maxRecDepth 100000
set_option maxHeartbeats 2000000
namespace IL
open PySem
/-- C(..), an own error as a value: its fields fs from the arguments is -/
def eErr (C : Str) (fs : List Str) (js : List Nat) (a : A) : Ex := fun ρ => match a ρ with
  | .ok ds _ ρ' => if ds.length = js.length then .ok (.err C fs (frzs (pick js ds))) none false ρ' else .bad
  | .exc C fs st => .exc C fs st
  | .bad => .bad
def eErr0 (C : Str) : Ex := fun ρ => .ok (.err C [] []) none false ρ
end IL
/-! IS, part 79: own errors as values. -/
namespace IS
open PySem PySem.Spec PySem.W PyProof.Rows L2 IL LamX
/-- the promise of an __init__ that keeps its arguments as fs (their order in the dict; js: which argument) -/
def spN (C : Addr) (fs : List Str) (js : List Nat) (n : Nat) : Sp := fun vs H Q E => ∃ (a : Addr) (xs : List V), vs = .ref a :: xs ∧ xs.length = n ∧ H a = some (exo a C none) ∧ ∀ (d : Addr) (H' : Hp), H d = none → d ≠ a → H' a = some (exo a C (some d)) → H' d = some (exd d (fs.zip (pick js xs))) → (∀ b, b ≠ a → b ≠ d → H' b = H b) → Q .non H'
section
variable {P : Program} {w : World} {K : PySem.W.Frag} {mg : Str → Option Value} {base : Heap} {qual x f x2 f2 : Str} {params : Arguments} {scope : Scope} {fI C : Addr} {fd : FuncData} {CX : CXT} {p1 p2 p3 pos p4 p5 p6 pos2 : Pos}
theorem fnok_N1 (Fd : FunD K "__init__" qual params [.Assign [.Attribute (.Name "self" p1) f p2] (.Name x p3) pos] scope [] [] fI fd) (Sc : FnScope ["self", x] ["self", x] scope) (T : OexC K C) (hno : PySem.W.findIn K (.ref C) f = some none)
    (v1 : Vis scope "self") (v2 : Vis scope x) (hd : (x == ("__debug__" : Str)) = false) (hcd : (x == ("__classdict__" : Str)) = false) : FnOk P w K mg base CX 1 fI fd ["self", x] (spN C [f] [0] 1) := by
  refine (fnok_I Fd Sc T hno v1 v2 hd hcd).imp fun vs H Q E h => ?_
  obtain ⟨a, xs, rfl, hl, ea, q⟩ := h
  match xs, hl with
  | [y], _ =>
    refine ⟨a, y, rfl, ea, fun d hd0 hne => q d _ hd0 hne upd_same ?_ ?_⟩
    · rw [upd_ne hne, upd_same]; rfl
    · intro b h1 h2
      rw [upd_ne h1, upd_ne h2]
theorem fnok_N2 (Fd : FunD K "__init__" qual params [.Assign [.Attribute (.Name "self" p1) f p2] (.Name x p3) pos, .Assign [.Attribute (.Name "self" p4) f2 p5] (.Name x2 p6) pos2] scope [] [] fI fd) (Sc : FnScope ["self", x, x2] ["self", x, x2] scope) (T : OexC K C) (hno : PySem.W.findIn K (.ref C) f = some none) (hno2 : PySem.W.findIn K (.ref C) f2 = some none)
    (v1 : Vis scope "self") (v2 : Vis scope x) (v3 : Vis scope x2) (hd : (x == ("__debug__" : Str)) = false) (hcd : (x == ("__classdict__" : Str)) = false) (hd2 : (x2 == ("__debug__" : Str)) = false) (hcd2 : (x2 == ("__classdict__" : Str)) = false) : FnOk P w K mg base CX 1 fI fd ["self", x, x2] (spN C [f2, f] [1, 0] 2) := by
  refine Fd.ok Sc (fun vs H Q E h => ?_) (fun cdv A outer s H vs Q E hr h => ⟨_, pss_cons (ps_ost (pe_var (i := 0) rfl v1 (by decide) (by decide)) (pe_var (i := 1) rfl v2 hd hcd)) (pss_one (ps_ost (pe_var (i := 0) rfl v1 (by decide) (by decide)) (pe_var (i := 2) rfl v3 hd2 hcd2))), ?_⟩)
  · obtain ⟨a, xs, rfl, hl, _⟩ := h
    simp [hl]
  · obtain ⟨a, xs, rfl, hl, ea, q⟩ := h
    match xs, hl with
    | [y, z], _ =>
      refine ⟨y, rfl, .ref a, rfl, a, C, rfl, T, hno, .inl ⟨ea, fun dx n ne => ?_⟩⟩
      refine ⟨z, rfl, .ref a, rfl, a, C, rfl, T, hno2, .inr ⟨dx, [(f, y)], upd_same, by rw [upd_ne ne, upd_same], by simp, ?_⟩⟩
      refine q dx _ n ne ?_ upd_same fun b h1 h2 => ?_
      · rw [upd_ne (Ne.symm ne), upd_same]
      · rw [upd_ne h2, upd_ne h1, upd_ne h2]
end
/-! ### the object is made -/
section
variable {X : Cx} {CX : CXT} {x : Str} {C fI : Addr} {k : Nat} {fd : FuncData} {ps ks : List Str} {sp : Sp} {ta : TA} {e : Expr} {es : List Expr} {p pos : Pos} {kws : List Keyword} {js : List Nat}
theorem oex_call {pins : List (Addr × Obj)} {σ : L2.St} {s : Shared} {Q : VK} {us : List Value} {kw : List (Str × Value)} {ub : List Value} {vb : List V} {H1 : Hp} (T : OexC X.K C) (iC : PySem.W.findIn X.K (.ref C) "__init__" = some (some (.ref fI))) (tI : PySem.W.typeIn X.K (.ref fI) = some (.type "function"))
    (F1 : FnOk X.prog X.w X.K X.mg X.base CX k fI fd ps sp) (hr : Room (k + 1) X.A) (hx : Passes CX X (fun _ _ _ => False)) (I1 : Inv X pins σ H1 s) (r1 : Vals vb ub) (hus : us.length ≤ sizeLine) (hkw : us = [] ∨ kw = [])
    (hb : ∀ (s' : Shared) (a : Addr), X.K.In s'.heap → BindsTo s' fd ⟨.ref a :: us, kw⟩ (ps.zip (.ref a :: ub)))
    (q1 : ∀ a, H1 a = none → sp (.ref a :: vb) (upd H1 a (exo a C none)) (fun v H2 => v = .non ∧ Q (.ref a) H2) (fun _ _ _ => False)) :
    wpAny (model X.prog X.w) X.A (call (.ref C) us kw) (EP X pins σ Q) X.xe s := by
  obtain ⟨nm, q, N, bs, bm, sn, sub, ab, col, dd, k0, k1, k2, k3, k5, hC, hbm⟩ := T.cls
  obtain ⟨hp, g, dr, tk, os⟩ := s
  have hsz : hp.objs.size ≤ hp.objs.size + 1 := Nat.le_succ _
  have hn : H1 (hp.objs.size + 1) = none := I1.hok.fresh hsz
  have hq := q1 (hp.objs.size + 1) hn
  have kk : ∀ b o, hp.get? b = some o → ((hp.push (PySem.W.kdv_tup us)).push (PySem.HandSPX.excO C hp.objs.size)).get? b = some o := fun b o e => Heap.get?_push_of_some _ (Heap.get?_push_of_some _ e)
  have hget : ((hp.push (PySem.W.kdv_tup us)).push (PySem.HandSPX.excO C hp.objs.size)).get? (hp.objs.size + 1) = some (PySem.HandSPX.excO C hp.objs.size) := by heap_get
  have I2 : Inv X pins σ (upd H1 (hp.objs.size + 1) (exo (hp.objs.size + 1) C none)) ⟨(hp.push (PySem.W.kdv_tup us)).push (PySem.HandSPX.excO C hp.objs.size), g, dr, tk, os⟩ :=
    I1.laid (t' := tk) (a := hp.objs.size + 1) (o := exo (hp.objs.size + 1) C none) (h' := (hp.push (PySem.W.kdv_tup us)).push (PySem.HandSPX.excO C hp.objs.size)) kk hsz (exo_ok hget)
  have r2 : Vals (V.ref (hp.objs.size + 1) :: vb) (Value.ref (hp.objs.size + 1) :: ub) := .cons rfl r1
  have fin : ∀ (r : Result) (s' : Shared), CR CX X.stack X.prog X.w (upd H1 (hp.objs.size + 1) (exo (hp.objs.size + 1) C none)) ⟨(hp.push (PySem.W.kdv_tup us)).push (PySem.HandSPX.excO C hp.objs.size), g, dr, tk, os⟩ (fun v H2 => v = .non ∧ Q (.ref (hp.objs.size + 1)) H2) (fun _ _ _ => False) r s' → PySem.W.InitBack (hp.objs.size + 1) (fun r s' => match r with | .ok (.ret v) => EP X pins σ Q v s' | .ok _ => False | .error er => X.xe er s') r s' := by
    intro r s' hq'
    cases r with
    | error er => exact hx pins σ _ _ er s' I2 hq'
    | ok fl =>
      cases fl with
      | ret u =>
        have := I2.after (Q := fun v H2 => v = .non ∧ Q (.ref (hp.objs.size + 1)) H2) hq'
        obtain ⟨v, H2, J, rv, ev, q2⟩ := this
        subst ev
        exact ⟨rv, .ref (hp.objs.size + 1), H2, J, rfl, q2⟩
      | next => exact False.elim hq'
      | brk => exact False.elim hq'
      | cont => exact False.elim hq'
  rcases hkw with hkw | hkw
  · subst hkw
    refine wpAny_call (codeAny_mono (PySem.HandSPX.call_ownK (R := fun r s' => match r with | .ok (.ret v) => EP X pins σ Q v s' | .ok _ => False | .error er => X.xe er s') F.excBase_ValueError (fun Y => PySem.HandSPX.refsVE_contains Y bm hbm) (I1.kIn _ _ hC) (PySem.W.looks_findIn I1.kIn iC) (fun self => PySem.W.bind_fn I1.kIn self tI)
      (codeAny_mono (F1.run _ X.stack _ _ ⟨[Value.ref (hp.objs.size + 1)], kw⟩ (Value.ref (hp.objs.size + 1) :: ub) _ _ (fun _ _ _ => False) (hr.make C [] kw) (I2.env0.make C [] kw) (hb _ _ I2.kIn) r2 hq) fun r s' hq' => fin r s' hq')) fun r s' z => ?_)
    rcases r with e | (v | _ | _ | _) <;> exact z
  · subst hkw
    refine wpAny_call (codeAny_mono (PySem.HandSPX.call_own (R := fun r s' => match r with | .ok (.ret v) => EP X pins σ Q v s' | .ok _ => False | .error er => X.xe er s') F.excBase_ValueError (fun Y => PySem.HandSPX.refsVE_contains Y bm hbm) (I1.kIn _ _ hC) (PySem.W.looks_findIn I1.kIn iC) (fun self => PySem.W.bind_fn I1.kIn self tI) hus
      (codeAny_mono (F1.run _ X.stack _ _ ⟨Value.ref (hp.objs.size + 1) :: us, []⟩ (Value.ref (hp.objs.size + 1) :: ub) _ _ (fun _ _ _ => False) (hr.make C us []) (I2.env0.make C us []) (hb _ _ I2.kIn) r2 hq) fun r s' hq' => fin r s' hq')) fun r s' z => ?_)
    rcases r with e | (v | _ | _ | _) <;> exact z
end
end IS
end
section
set_option Elab.async false
set_option linter.all false
set_option autoImplicit false
set_option maxRecDepth 100000
set_option maxHeartbeats 2000000
/-! IS, part 80: own errors as values: C(e, ..), C(k = e, ..). -/
namespace IS
open PySem PySem.Spec PySem.W PyProof.Rows L2 IL LamX
section
variable {X : Cx} {T : Tb} {W : WK} {CX : CXT} {C : Str} {fI : Addr} {k n : Nat} {fd : FuncData} {ps ks fs : List Str} {e : Expr} {es : List Expr} {ar : A} {p pos kpos : Pos} {kws : List Keyword} {js : List Nat} {nm : Option Str} {m : Ex}
theorem ka_nil' : PK X [] (tA X.K T W aNil) := ⟨fun pos pins s σ H Q I ⟨F, ρ, fps, ok, q⟩ => pk_nil.run pos pins s σ H Q I (q [] F H fps [] ⟨ok, .nil, by simpa using ok.nd, nomem'⟩ (by simpa using Evo.refl) Stb.refl)⟩
theorem ka_cons' (ha : PE X e (tE X.K T W m)) (hr : PK X kws (tA X.K T W ar)) : PK X (⟨nm, e, kpos⟩ :: kws) (tA X.K T W (aCons m ar)) := by
  refine ⟨fun pos pins s σ H Q I ⟨F, ρ, fps, ok, q⟩ => (pk_cons (pe_own ha) hr).run pos pins s σ H Q I ⟨F, ρ, fps, ok, ?_⟩⟩
  unfold aCons at q
  show tR X.K T W (m ρ).own F ρ fps σ H _
  cases hr : (m ρ).own with
  | bad => rw [hr] at q; exact q
  | exc C fs st => rw [hr] at q; exact q
  | ok d l s1 ρ1 =>
    rw [hr] at q
    have := own_ok (K := X.K) hr
    subst this
    intro v F1 H1 fps1 fd1 vo ev sb
    refine ⟨F1, ρ1, fps1, vo.ok, ?_⟩
    simp only at q
    cases h2 : ar ρ1 with
    | bad => rw [h2] at q; exact q
    | exc C fs st =>
      rw [h2] at q
      exact ExcW.after (K := X.K) q ev sb (own_st vo.ok).1 (own_st vo.ok).2
    | ok ds s2 ρ2 =>
      rw [h2] at q
      intro vs F2 H2 fps2 fd2 v2 ev2 sb2
      obtain ⟨⟨r, nd, nf⟩, e3⟩ := vo.aok.trans v2 ev2
      refine q (v :: vs) F2 H2 fps2 (fd1 ++ fd2) ⟨v2.ok, Reps.app r v2.rep, nd, nf⟩ ?_ (sb.trans sb2 ev2.fr)
      exact ev.trans e3
/-- the reading: the arguments, then the made object -/
def tMkE (K : PySem.W.Frag) (C : Addr) (fs : List Str) (js : List Nat) (n : Nat) (ta : TA) : TE := fun σ H Q => ta σ H fun vs H1 => vs.length = js.length ∧ ∀ a d, H1 a = none → H1 d = none → d ≠ a → Q (.ref a) (upd (upd H1 a (exo a C (some d))) d (exd d (fs.zip (pick js vs))))
theorem tMkE_of {σ : L2.St} {H : Hp} {Q : VK} (hlf : fs.length = js.length) (hj : ∀ j ∈ js, j < js.length) (h : tE X.K T W (eErr C fs js ar) σ H Q) : tMkE X.K (ga X.K C) fs js n (tA X.K T W ar) σ H Q := by
  obtain ⟨F, ρ, fps, ok, q⟩ := h
  refine ⟨F, ρ, fps, ok, ?_⟩
  unfold eErr at q
  cases h1 : ar ρ with
  | bad => rw [h1] at q; exact q
  | exc C fs st => rw [h1] at q; exact q
  | ok ds st ρ2 =>
    rw [h1] at q
    simp only at q
    intro vs F2 H2 fps2 fd2 ao ev2 sb2
    by_cases hl : ds.length = js.length
    case neg =>
      rw [if_neg hl] at q
      exact q.elim
    rw [if_pos hl] at q
    have hvl : vs.length = js.length := by rw [reps_len ao.rep]; exact hl
    refine ⟨hvl, fun a d ha hd hne => ?_⟩
    have hF : ∀ b, F2 b → (F2 b ∨ b ∈ fd2) := fun b z => .inl z
    have dis : ∀ b ∈ fps2, b ∉ fd2 := fun b z w => by
      have nd := ao.nd
      simp only [List.nodup_append] at nd
      exact nd.2.2 b z b w rfl
    have okF : Ok X.K T (fun b => F2 b ∨ b ∈ fd2) H2 σ ρ2 fps2 := by
      refine ⟨?_, ao.ok.nd, fun b z w => w.elim (ao.ok.nf b z) (dis b z), fun b z => z.elim (ao.ok.lv b) fun z => live_of (ao.rep.mutk b z), ao.ok.tb⟩
      exact renv_map (S := fps2) (fun {v d f} r hf => r.keep (S := []) ⟨fun _ _ _ e _ => .inl e, hF⟩ nomem' nomem' fun b z => ⟨List.not_mem_nil, fun w => w.elim (ao.ok.nf b (hf b z)) (dis b (hf b z))⟩) ao.ok.env fun b z => z
    have rs : Reps X.K (fun b => F2 b ∨ b ∈ fd2) H2 vs (frzs ds) [] := ao.rep.frz hF fun b z => .inr z
    have hd1 : (upd H2 a (exo a (ga X.K C) (some d))) d = none := by rw [upd_ne hne]; exact hd
    have rs1 := Reps.laid (o := exo a (ga X.K C) (some d)) ha rs nomem'
    have rs2 := Reps.laid (o := exd d (fs.zip (pick js vs))) hd1 rs1 nomem'
    have ok3 := Ok.laid (o := exo a (ga X.K C) (some d)) okF ha
    have ok4 := Ok.laid (o := exd d (fs.zip (pick js vs))) ok3 hd1
    have e0 : Evo F2 H2 (fps2 ++ fd2) (fun b => F2 b ∨ b ∈ fd2) H2 fps2 := ⟨fun _ _ _ e _ => .inl e, fun b z => .inl (List.mem_append_left _ z), fun b z => .inl z, fun b z => z.elim .inl fun z => .inr (.inl (List.mem_append_right _ z))⟩
    have e1 : Evo (fun b => F2 b ∨ b ∈ fd2) H2 fps2 (fun b => F2 b ∨ b ∈ fd2) (upd H2 a (exo a (ga X.K C) (some d))) fps2 := (evo_laid ha).sub fun b z => List.mem_append_left _ z
    have e2 : Evo (fun b => F2 b ∨ b ∈ fd2) (upd H2 a (exo a (ga X.K C) (some d))) fps2 (fun b => F2 b ∨ b ∈ fd2) (upd (upd H2 a (exo a (ga X.K C) (some d))) d (exd d (fs.zip (pick js vs)))) fps2 := (evo_laid hd1).sub fun b z => List.mem_append_left _ z
    have epk : frzs (pick js ds) = pick js (frzs ds) := by
      rw [frzs_map, frzs_map]
      unfold pick
      rw [List.map_filterMap]
      congr 1
      funext j
      rw [List.getElem?_map]
    have rp := reps_pick rs2 js
    refine q (.ref a) _ _ fps2 [] ⟨ok4, .err (dx := d) ?_ upd_same ?_ (by rw [epk]; exact rp), by simpa using ok4.nd, nomem'⟩ ?_ Stb.no
    · rw [upd_ne (Ne.symm hne), upd_same]
    · rw [pick_len (fun j z => by rw [hvl]; exact hj j z)]; exact hlf
    · rw [List.append_nil]
      exact (ev2.trans e0).trans (e1.trans e2)
theorem spN_of {a : Addr} {vs : List V} {H1 : Hp} {Q : VK} {c : Addr} (ha : H1 a = none) (hl : vs.length = n) (h : ∀ a d, H1 a = none → H1 d = none → d ≠ a → Q (.ref a) (upd (upd H1 a (exo a c (some d))) d (exd d (fs.zip (pick js vs))))) : spN c fs js n (.ref a :: vs) (upd H1 a (exo a c none)) (fun v H2 => v = .non ∧ Q (.ref a) H2) (fun _ _ _ => False) := by
  refine ⟨a, vs, rfl, hl, upd_same, fun d H' hd hne e1 e2 eb => ⟨rfl, ?_⟩⟩
  rw [upd_ne hne] at hd
  have : H' = upd (upd H1 a (exo a c (some d))) d (exd d (fs.zip (pick js vs))) := funext fun b => by
    by_cases h1 : b = d
    · subst h1; rw [upd_same]; exact e2
    · rw [upd_ne h1]
      by_cases h2 : b = a
      · subst h2; rw [upd_same]; exact e1
      · rw [upd_ne h2, eb b h2 h1, upd_ne h2]
  rw [this]
  exact h a d ha hd hne
/-- C(e, ..) -/
theorem pe_errP (O : OexC X.K (ga X.K C)) (iC : PySem.W.findIn X.K (.ref (ga X.K C)) "__init__" = some (some (.ref fI))) (tI : PySem.W.typeIn X.K (.ref fI) = some (.type "function"))
    (F1 : FnOk X.prog X.w X.K X.mg X.base CX k fI fd ps (spN (ga X.K C) fs js n)) (hr : Room (k + 1) X.A) (hb : Binds X.K fd ps []) (hx : Passes CX X (fun _ _ _ => False)) (hg : Gl X C) (hm : X.mg C = some (.ref (ga X.K C))) (ha : PA X (e :: es) (tA X.K T W ar))
    (hlf : fs.length = js.length := by rfl) (hj : ∀ j ∈ js, j < js.length := by decide) (hn : js.length = n := by rfl) (h1000 : n ≤ 1000 := by decide)
    (hdb : (C == ("__debug__" : Str)) = false := by decide) (he : starEach (e :: es) X.env = (false, eval e X.env) :: starEach es X.env := by rfl) (hpl : (backTo pos (starEach es X.env)).any (·.1) = false := by rfl) :
    PE X (.Call (.Name C p) (e :: es) [] pos) (tE X.K T W (eErr C fs js ar)) := by
  refine pe_weak (t := tMkE X.K (ga X.K C) fs js n (tA X.K T W ar)) ⟨fun pins s σ H Q I h => ?_⟩ fun σ H Q q => tMkE_of hlf hj q
  refine wpAny_Call_Name_kw (ld_glob I hg hm ?_ hdb)
  refine PySem.W.callWith_K (h₀ := X.base) I.ok.mod.kin O.kC (thn (ha.run pos pins s σ H _ I h) fun us s1 ⟨vs, H1, I1, r1, hl, q1⟩ => ⟨I1.kIn, ?_⟩) he hpl
  have hul : us.length = n := by rw [← r1.length, hl, hn]
  have hq : ∀ a, H1 a = none → spN (ga X.K C) fs js n (.ref a :: vs) (upd H1 a (exo a (ga X.K C) none)) (fun v H2 => v = .non ∧ Q (.ref a) H2) (fun _ _ _ => False) := fun a ha => spN_of ha (by rw [hl, hn]) q1
  rw [List.nil_append]
  refine oex_call O iC tI F1 hr hx I1 r1 (by rw [sizeLine_eq]; omega) (.inr rfl) (fun s' a K' => ?_) hq
  have hlen : (Value.ref a :: us).length = ps.length := by
    have h0 : H1 s1.heap.objs.size = none := I1.hok.fresh (Nat.le_refl _)
    have := F1.len _ _ _ _ (hq _ h0)
    simp only [List.length_cons] at this ⊢
    rw [← r1.length]
    exact this
  have := hb s' (Value.ref a :: us) K' (by simpa using hlen)
  simpa using this
/-- C(k = e, ..) -/
theorem pe_errK {is : List Nat} (O : OexC X.K (ga X.K C)) (iC : PySem.W.findIn X.K (.ref (ga X.K C)) "__init__" = some (some (.ref fI))) (tI : PySem.W.typeIn X.K (.ref fI) = some (.type "function"))
    (F1 : FnOk X.prog X.w X.K X.mg X.base CX k fI fd ps (spN (ga X.K C) fs js n)) (hr : Room (k + 1) X.A)
    (hb : ∀ (s : Shared) (a : Addr) (ws : List Value), X.K.In s.heap → ws.length = ks.length → BindsTo s fd ⟨[.ref a], ks.zip ws⟩ (ps.zip (.ref a :: pick is ws))) (hx : Passes CX X (fun _ _ _ => False)) (hg : Gl X C) (hm : X.mg C = some (.ref (ga X.K C))) (hkw : PK X kws (tA X.K T W ar))
    (hks : (backToKw pos (keywordEach kws X.env)).filterMap (·.1) = ks := by rfl) (hlf : fs.length = js.length := by rfl) (hj : ∀ j ∈ js, j < js.length := by decide) (hn : js.length = n := by rfl) (hi : ∀ i ∈ is, i < ks.length := by decide) (hil : is.length = n := by rfl) (hkl : ks.length = n := by rfl)
    (hall : (backToKw pos (keywordEach kws X.env)).all (·.1.isSome) = true := by rfl)
    (hdb : (C == ("__debug__" : Str)) = false := by decide)
    (hpl : ((backTo pos (starEach [] X.env)).any (·.1) || (backToKw pos (keywordEach kws X.env)).any (·.1.isNone)) = false := by rfl) :
    PE X (.Call (.Name C p) [] kws pos) (tE X.K T W (eErr C fs (pick js is) ar)) := by
  have hjl : (pick js is).length = n := by rw [pick_len (fun j z => by rw [hil, ← hn]; exact hj j z)]; exact hn
  have hpk : ∀ {α : Type} (zs : List α), zs.length = n → pick js (pick is zs) = pick (pick js is) zs := fun zs hz => by
    unfold pick
    rw [List.filterMap_filterMap]
    congr 1
    funext j
    rw [show is.filterMap (fun i => zs[i]?) = is.filterMap fun i => zs[i]? from rfl]
    have key : ∀ (l : List Nat) (j : Nat), (∀ i ∈ l, i < zs.length) → (l.filterMap fun i => zs[i]?)[j]? = (l[j]?).bind fun i => zs[i]? := by
      intro l
      induction l with
      | nil => intro j _; rfl
      | cons i l ih =>
        intro j hh
        rw [List.filterMap_cons, List.getElem?_eq_getElem (hh i (List.mem_cons_self ..))]
        cases j with
        | zero => simp [hh i (List.mem_cons_self ..)]
        | succ j => simpa using ih j fun i z => hh i (List.mem_cons_of_mem _ z)
    exact key is j fun i z => by rw [hz, ← hkl]; exact hi i z
  refine pe_weak (t := tMkE X.K (ga X.K C) fs (pick js is) n (tA X.K T W ar)) ⟨fun pins s σ H Q I h => ?_⟩ fun σ H Q q => tMkE_of (by rw [hjl, hlf, hn]) (fun j z => by
    rw [hjl, ← hkl]
    unfold pick at z
    obtain ⟨i, _, h2⟩ := List.mem_filterMap.mp z
    exact hi j (List.mem_of_getElem? h2)) q
  refine wpAny_Call_Name_kw (ld_glob I hg hm ?_ hdb)
  refine PySem.W.callWith_KW0 (h₀ := X.base) I.ok.mod.kin O.kC hall ?_ hpl
  refine thn (hkw.run pos pins _ σ H _ I h) fun ws s2 ⟨zs, H2, I2, rz, hl, q2⟩ => ⟨I2.kIn, ?_⟩
  rw [hks]
  have hzl : zs.length = n := by rw [hl, hjl]
  have hwl : ws.length = n := by rw [← rz.length]; exact hzl
  rw [List.append_nil]
  refine oex_call (vb := pick is zs) (ub := pick is ws) (us := []) O iC tI F1 hr hx I2 (vals_pick rz is) (by simp) (.inl rfl) (fun s' a K' => hb s' a ws K' (by rw [hwl, hkl])) fun a ha => ?_
  refine spN_of ha (by rw [pick_len (fun i z => by rw [hzl, ← hkl]; exact hi i z)]; exact hil) fun a d h1 h2 h3 => ?_
  rw [hpk zs hzl]
  exact q2 a d h1 h2 h3
end
end IS
end
section
set_option Elab.async false
set_option linter.all false
set_option autoImplicit false
set_option maxRecDepth 100000
set_option maxHeartbeats 2000000
namespace PySem.W
open PySem PySem.Spec PySem.Calls PyProof.Rows
section
variable {prog : Program} {w : World} {A : Around} {E : Value → Shared → Prop} {s : Shared} {K : Frag} {x D : Addr} {ox : Obj} {ob : Option Obj}
theorem findObj_dataM {C : Addr} {name : Str} {a g : Value} (hc : (clsIn K C).isSome = true) (ha : findIn K (.ref C) name = some (some a)) (hg : specialIn K a "__get__" = some (some g)) (ht : takesIn K a = some true) : findObj K C ob name = some (.bind g a) := by
  obtain ⟨cd, hc⟩ := Option.isSome_iff_exists.mp hc
  unfold findObj
  rw [hc, Option.bind_some, ha, Option.bind_some]
  simp [hg, ht]
theorem kin_classM {Q : Option Value → Shared → Prop} (hga : findIn K (.ref D) "__getattribute__" = some (some (.builtin "BaseException.__getattribute__"))) (hgt : findIn K (.ref D) "__getattr__" = some none) (hsub : subIn K (.ref D) (.type "BaseException") = some true)
    (hdct : hasDictIn K D = true) (ha : findIn K (.ref D) "__class__" = some (some (.builtin "object.__class__")))
    (hn : specialIn K (.builtin "object.__class__") "__get__" = some (some (.builtin "getset_descriptor.__get__"))) (htk : takesIn K (.builtin "object.__class__") = some true) (hm : mroIn K D (.type "object") = some true)
    (X : K.In s.heap) (I : InstAt s.heap x ox D ob) (h : Q (some (.ref D)) { s with toks := s.toks + 1 }) : wpAny (model prog w) A (getAttr? (.ref x) "__class__") Q E s := by
  have hf : findObj K D ob "__class__" = some (.bind (.builtin "getset_descriptor.__get__") (.builtin "object.__class__")) := findObj_dataM (by obtain ⟨cd, hc, _⟩ := any_some hdct; rw [hc]; rfl) ha hn htk
  obtain ⟨hp, g, d, t, os⟩ := s
  have L0 := I.type (M := model prog w)
  have L1 := looks_findIn (M := model prog w) X hga
  have L2 := looks_findIn (M := model prog w) X hgt
  have L3 := looks_find (M := model prog w) X I hf
  have sub : Looks (model prog w) hp (isInstance (.ref x) (.type "BaseException")) true := L0.andThen (looks_subIn X hsub)
  have hx0 : (false && onTheHeap (Value.builtin "BaseException.__getattribute__")) = false := rfl
  have hx2 : (Value.builtin "BaseException.__getattribute__" == Value.builtin "object.__getattribute__") = false := by decide +kernel
  have hx1 : (onTheHeap (Value.ref D) && Value.builtin "BaseException.__getattribute__" == Value.builtin "object.__getattribute__") = false := by rw [hx2]; rfl
  unfold getAttr? getAttrBy? getAttrBy
  refine wpAny_bind (wpAny_mkText (wpAny_bind (wpAny_attempt (wpAny_holding (wpAny_bind (L0.at (wpAny_bind (L1.at ?_))))))))
  show wpAny _ _ (if (onTheHeap (Value.ref D) && Value.builtin "BaseException.__getattribute__" == Value.builtin "object.__getattribute__") = true then _ else _) _ _ _
  rw [hx1, if_neg Bool.false_ne_true]
  unfold getAttrByItsOwn hookBefore
  refine wpAny_bind ?_
  rw [if_pos (show onTheHeap (Value.ref D) = true from rfl)]
  refine L2.at ?_
  refine wpAny_bind (wpAny_attempt (wpAny_holding ?_))
  unfold callGetattribute
  rw [hx0, if_neg Bool.false_ne_true]
  unfold boundAndCalled
  rw [PySem.F.excAttr_ValueError.ga.bind (.ref x)]
  refine wpAny_bind (wpAny_pure ?_)
  show wpAny _ _ (call (.builtin "BaseException.__getattribute__") [.ref x, .str "__class__" t]) _ _ _
  refine wpAny_call (codeAny_call_builtin PySem.F.excAttr_ValueError.ga.plain PySem.F.entry_bexc_ga ?_)
  refine @check_slot (model prog w) _ _ ⟨hp, g, d, t + 1, os⟩ "BaseException.__getattribute__" "BaseException" "__getattribute__" (.ref x) [.str "__class__" t] [] _ (by decide +kernel) (by decide +kernel) sub (PySem.F.args_bexc_ga (.ref x) (.str "__class__" t)) ?_
  unfold Builtin.«object.__getattribute__»
  refine wpAny_bind (wpAny_of_eq (a := ((Value.ref x : Value), [Value.str "__class__" t])) (by first | rfl | (simp only [slotArgs]; rfl)) ?_)
  refine wpAny_bind (wpAny_pure (wpAny_bind (L0.at (wpAny_bind (L3.at ?_)))))
  show wpAny _ _ (holding [Value.builtin "object.__class__"] (call (.builtin "getset_descriptor.__get__") [.builtin "object.__class__", .ref x, .ref D]) >>= ret) _ _ _
  refine wpAny_bind (wpAny_holding (wpAny_call (class_get (s := ⟨hp, g, d, t + 1, os⟩) (ox := ox) (od := ob) X I hm ?_)))
  refine wpAny_pure ?_
  show wpAny _ _ (handedOut (.ref D)) _ _ _
  rw [handedOut_of (v := .ref D) rfl]
  first
    | exact wpAny_pure (wpAny_pure h)
    | exact wpAny_pure h
    | exact wpAny_pure (wpAny_bind (wpAny_pure (wpAny_pure h)))
theorem kitx_excM (hga : findIn K (.ref D) "__getattribute__" = some (some (.builtin "BaseException.__getattribute__"))) (hgt : findIn K (.ref D) "__getattr__" = some none) (hsub : subIn K (.ref D) (.type "BaseException") = some true) (hdct : hasDictIn K D = true) (ha : findIn K (.ref D) "__class__" = some (some (.builtin "object.__class__")))
    (hn : specialIn K (.builtin "object.__class__") "__get__" = some (some (.builtin "getset_descriptor.__get__"))) (htk : takesIn K (.builtin "object.__class__") = some true) (hm : mroIn K D (.type "object") = some true) :
    KitX K (.ref x) (.ref D) (fun h => InstAt h x ox D ob) where
  ty := fun _ _ _ I => I.type
  it := fun _ _ X _ => by
    obtain ⟨cdD, hcD, _⟩ := any_some hdct
    unfold clsIn at hcD
    split at hcD
    · rename_i c' d' cd' sl' ho
      intro A' Q' E' s' k q
      unfold isType loadHead
      exact wpAny_bind (wpAny_loadPart (k _ _ (X _ _ ho)) (wpAny_pure q))
    · cases hcD
  ne := fun h tp dd its n sl X htp => by
    obtain ⟨cdD, hcD, _⟩ := any_some hdct
    refine Bool.eq_false_iff.mpr fun q => ?_
    have e : D = tp := Value.ref.inj (beq_iff_eq.mp q)
    subst e
    unfold clsIn at hcD
    split at hcD
    · rename_i c' d' cd' sl' ho
      have z := (X _ _ ho).symm.trans htp
      cases z
    · cases hcD
  ca := fun X I k => kin_classM hga hgt hsub hdct ha hn htk hm X I k
end
end PySem.W
namespace IL
open PySem
/-- isinstance(x, c), x an own error (all of them stand beneath root alone, root beneath ValueError) -/
def fIsiE (er : List Str) (root : Str) (x c : D) : Option D := match x, c with
  | .err C _ _, .glo C' => if C ∈ er ∧ C' ∈ er then some (.bl (decide (C = C') || decide (C' = root))) else none
  | .err C _ _, .ty n => if C ∈ er then (if n = "ValueError" then some (.bl true) else if n ∈ ["LookupError", "ArithmeticError", "TypeError"] then some (.bl false) else none) else none
  | _, _ => none
/-- e.f, e an own error -/
def eErrF (er : List Str) (f : Str) (m : Ex) : Ex := fun ρ => match (m ρ).own with
  | .ok (.err C fs vs) _ st ρ1 => if C ∈ er then (match lkk fs vs f with
    | some c => .ok c none false ρ1
    | none => .bad) else .bad
  | .ok _ _ _ _ => .bad
  | .exc C fs st => .exc C fs st
  | .bad => .bad
end IL
/-! IS, part 81: own errors as values: their kind, their fields; C(). -/
namespace IS
open PySem PySem.Spec PySem.W PyProof.Rows L2 IL LamX
/-- what the classes of er must say -/
structure EIs (K : PySem.W.Frag) (er : List Str) (root : Str) : Prop where
  ex : ∀ C ∈ er, ExcC K (ga K C)
  own : ∀ C ∈ er, ∀ C' ∈ er, PySem.W.kitOne K (.ref (ga K C)) (.ref (ga K C')) = some (decide (C = C') || decide (C' = root))
  ve : ∀ C ∈ er, PySem.W.kitOne K (.ref (ga K C)) (.type "ValueError") = some true
  no : ∀ C ∈ er, ∀ n ∈ ["LookupError", "ArithmeticError", "TypeError"], PySem.W.kitOne K (.ref (ga K C)) (.type n) = some false
  xf : ∀ C ∈ er, XfC K (ga K C)
section
variable {X : Cx} {T : Tb} {W : WK} {K : PySem.W.Frag} {F : Addr → Prop} {H : Hp} {er : List Str} {root : Str}
theorem err_obj {pins : List (Addr × Obj)} {σ : L2.St} {s : Shared} {v : V} {u : Value} {C : Str} {fs : List Str} {vs : List D} (I : Inv X pins σ H s) (rv : RelV v u) (r : Rep X.K F H v (.err C fs vs) []) : ∃ (a : Addr) (ox : Obj) (ob : Option Obj), v = .ref a ∧ u = .ref a ∧ PySem.W.InstAt s.heap a ox (ga X.K C) ob := by
  cases r with
  | err e1 e2 l q =>
    cases (show u = Value.ref _ from rv)
    obtain ⟨t1, he⟩ := exo_at I.hok e1
    obtain ⟨mA, hns, hr⟩ := exd_at I.hok e2
    obtain ⟨od, ho2, hl⟩ := lookIn_ns hns
    exact ⟨_, _, some od, rfl, rfl, ⟨he, rfl, rfl, ho2⟩⟩
  | err0 e1 =>
    cases (show u = Value.ref _ from rv)
    obtain ⟨t1, he⟩ := exo_at I.hok e1
    exact ⟨_, _, none, rfl, rfl, ⟨he, rfl, rfl, trivial⟩⟩
theorem fIsiE_ok (E : EIs X.K er root) : CallR X (.builtin "isinstance") (rL X.K T (g2 (fIsiE er root))) := by
  intro pins s σ H xs us Q I r h
  obtain ⟨F, x, y, a, b, z, rfl, ra, rb, st, hf, q⟩ := rL2_out h
  obtain ⟨u1, u2, rfl, r1, r2⟩ := vals2 r
  cases a with
  | err C fs vs =>
    obtain ⟨ad, ox, ob, rfl, rfl, J⟩ := err_obj I r1 ra
    have fin : ∀ (cv : Value) (k : Bool), u2 = cv → C ∈ er → PySem.W.kitOne X.K (.ref (ga X.K C)) cv = some k → z = .bl k → wpAny (model X.prog X.w) X.A (call (Value.builtin "isinstance") [.ref ad, u2]) (EP X pins σ Q) X.xe s := by
      intro cv k e hC hk hz
      subst e hz
      have Y := E.ex C hC
      exact PySem.W.kia_one (PySem.W.kitx_excM Y.hg Y.hk Y.hs Y.hd Y.ha Y.hn Y.ht Y.hm) I.kIn J hk (fun z => nomatch z) fun tk => ⟨.bl k, H, I.kept (t' := tk) fun _ _ z => z, rfl, q.same st (.bl k)⟩
    cases b with
    | glo C' =>
      simp only [fIsiE] at hf
      split at hf
      · rename_i hc
        cases hf
        have : y = .ref (ga X.K C') := by cases rb; rfl
        subst this
        exact fin _ _ r2 hc.1 (E.own C hc.1 C' hc.2) rfl
      · cases hf
    | ty n =>
      simp only [fIsiE] at hf
      split at hf
      · rename_i hc
        have : y = .ty n := by cases rb; rfl
        subst this
        split at hf
        · rename_i hn
          cases hf
          subst hn
          exact fin _ _ r2 hc (E.ve C hc) rfl
        · split at hf
          · rename_i hn
            cases hf
            exact fin _ _ r2 hc (E.no C hc n hn) rfl
          · cases hf
      · cases hf
    | _ => cases hf
  | _ => cases b <;> cases hf
end
section
variable {X : Cx} {T : Tb} {W : WK} {er : List Str} {root f C : Str} {e : Expr} {m : Ex} {pos p : Pos}
theorem exd_get {K : PySem.W.Frag} {F : Addr → Prop} {H : Hp} {fs : List Str} {vs : List V} {ds : List D} {c : D} (r : Reps K F H vs ds []) (h : lkk fs ds f = some c) : ∃ w, (fs.zip vs).lookup f = some w ∧ Rep K F H w c [] := by
  obtain ⟨w, fc, e', r', s'⟩ := lkk_get r h
  have e0 : fc = [] := List.sublist_nil.mp s'
  subst e0
  exact ⟨w, zip_lkV e', r'⟩
theorem pe_errF (E : EIs X.K er root) (her : ∀ C ∈ er, PySem.W.findIn X.K (.ref (ga X.K C)) f = some none) (he : PE X e (tE X.K T W m)) (hb : attributeBase e f X.env (eval e X.env) = eval e X.env := by rfl) : PE X (.Attribute e f pos) (tE X.K T W (eErrF er f m)) := by
  refine ⟨fun pins s σ H Q I h => ?_⟩
  have h2 : tE X.K T W m σ H fun v H1 => ∃ (C : Str) (a dx : Addr) (kvs : List (Str × V)) (w : V), C ∈ er ∧ v = .ref a ∧ H1 a = some (exo a (ga X.K C) (some dx)) ∧ H1 dx = some (exd dx kvs) ∧ kvs.lookup f = some w ∧ Q w H1 := by
    obtain ⟨F, ρ, fps, ok, q⟩ := h
    refine tE_own ⟨F, ρ, fps, ok, ?_⟩
    show tR X.K T W (m ρ).own F ρ fps σ H _
    unfold eErrF at q
    cases h1 : (m ρ).own with
    | bad => rw [h1] at q; exact q
    | exc C fs st => rw [h1] at q; exact q
    | ok d l st ρ1 =>
      rw [h1] at q
      have := own_ok (K := X.K) h1
      subst this
      cases d with
      | err C fs vs =>
        simp only at q
        by_cases hC : C ∈ er
        case neg =>
          rw [if_neg hC] at q
          exact q.elim
        rw [if_pos hC] at q
        cases hl : lkk fs vs f with
        | none => rw [hl] at q; exact q.elim
        | some c =>
          rw [hl] at q
          intro v F1 H1 fps1 fd vo ev sb
          have hrep := vo.rep
          cases hrep with
          | err e1 e2 l0 q0 =>
            obtain ⟨w, g1, g2⟩ := exd_get q0 hl
            exact ⟨C, _, _, _, w, hC, rfl, e1, e2, g1, q w F1 H1 fps1 [] ⟨vo.ok, g2, by simpa using vo.ok.nd, nomem'⟩ (ev.sub fun b z => by simpa using z) Stb.no⟩
          | err0 e1 => cases hl
      | _ => exact q.elim
  refine attr_of hb (thn (he.run pins s σ H _ I h2) fun u s1 hh => ?_)
  obtain ⟨x, H1, I1, rx, C, a, dx, kvs, w, hC, rfl, e1, e2, g1, q⟩ := hh
  obtain rfl : u = Value.ref a := rx
  obtain ⟨t1, ho⟩ := exo_at I1.hok e1
  obtain ⟨mA, hns, hr⟩ := exd_at I1.hok e2
  obtain ⟨od, ho2, hl⟩ := lookIn_ns hns
  obtain ⟨u, hu, ru⟩ := RelO.some_of (v := w) (o := mA f) (by rw [← g1]; exact hr f)
  have J : PySem.W.InstAt s1.heap a _ (ga X.K C) (some od) := ⟨ho, rfl, rfl, ho2⟩
  have Y := E.xf C hC
  exact HandSPX.exc_get I1.kIn J Y.ga Y.gg Y.exC (PySem.W.findObj_own Y.hdC (her C hC) rfl (by rw [hl, hu])) (handed_of ru) ⟨w, H1, I1.tok _, ru, q⟩
/-- C(), an own error class without __init__ of its own -/
theorem pe_err0 {bmB : List Value} {B newId initId : String} (F0 : ExcBaseFacts B newId initId bmB) (q0 : PySem.W.excIn X.K (ga X.K C) bmB newId = true) (gC : X.mg C = some (.ref (ga X.K C))) (kC : PySem.W.keepIn X.K (.ref (ga X.K C)) = true) (hg : Gl X C)
    (hdb : (C == ("__debug__" : Str)) = false := by decide) : PE X (.Call (.Name C p) [] [] pos) (tE X.K T W (eErr0 C)) := by
  refine ⟨fun pins s σ H Q I ⟨F, ρ, fps, ok, q⟩ => ?_⟩
  refine wpAny_Call_Name_kw (ld_glob I hg gC ?_ hdb)
  refine PySem.W.callWith_K0 (first := []) I.kIn kC ?_
  show wpAny _ _ (call (.ref (ga X.K C)) []) _ _ _
  obtain ⟨bm, N, nm, qn, bs, hdct, sn, sub, ab, col, dd, k0, k1, k2, k3, k5, mN, hC, hN, hni, T'⟩ := exc_obj I.kIn q0
  refine wpAny_call_exc_subT F0 T' hC hN hni (fun h' a hm => ?_) (by show 0 ≤ sizeLine; omega)
  have hn : H a = none := I.hok.gone hm.new
  obtain ⟨t, ht, _, _⟩ := hm.there
  refine ⟨.ref a, upd H a (exo a (ga X.K C) none), I.laidN hm.keeps hm.new hn (exo_ok ht), rfl, ?_⟩
  exact q (.ref a) F _ fps [] ⟨ok.laid hn, .err0 upd_same, by simpa using ok.nd, nomem'⟩ ((evo_laid hn).sub fun b z => by simp at z ⊢; exact .inl z) Stb.no
end
end IS
end
section
set_option Elab.async false
set_option linter.all false
set_option autoImplicit false
set_option maxRecDepth 100000
set_option maxHeartbeats 2000000
namespace IL
open PySem
/-- {k: v} -/
def eDsp1 (mk mv : Ex) : Ex := fun ρ => match (mk ρ).own with
  | .ok k _ _ ρ1 => (match (mv ρ1).own with
    | .ok v _ _ ρ2 => (match k.key0 with
      | some j => .ok (.dct true false [.k j] [v]) none false ρ2
      | none => .bad)
    | .exc C fs _ => .exc C fs false
    | .bad => .bad)
  | .exc C fs _ => .exc C fs false
  | .bad => .bad
end IL
/-! IS, part 82: a display of one pair. -/
namespace IS
open PySem PySem.Spec PySem.W PyProof.Rows L2 IL LamX
section
variable {X : Cx} {T : Tb} {W : WK} {ek ev : Expr} {mk mv : Ex} {pos : Pos} {K : PySem.W.Frag} {F : Addr → Prop} {H : Hp}
theorem key0_v {v : V} {d : D} {f : List Addr} {j : L2.Key} (r : Rep K F H v d f) (h : d.key0 = some j) : v = kV j ∧ KOk j ∧ f = [] := by
  cases r with
  | int i => cases h; exact ⟨rfl, trivial, rfl⟩
  | str x l => cases h; exact ⟨rfl, l, rfl⟩
  | _ => cases h
theorem pe_dsp1 (hk : PE X ek (tE X.K T W mk)) (hv : PE X ev (tE X.K T W mv)) : PE X (.Dict [some ek] [ev] pos) (tE X.K T W (eDsp1 mk mv)) := by
  refine pe_weak (pe_disp (trs := [(tE X.K T W mk, tE X.K T W mv)]) (pps_cons hk hv pps_nil) rfl rfl (by simp) (by simp)) fun σ H Q ⟨F, ρ, fps, ok, q⟩ p hp => ?_
  have ok1 := Ok.laid (o := .dK []) ok hp
  have e1 : Evo F H fps F (upd H p (.dK [])) fps := (evo_laid hp).sub fun a z => List.mem_append_left _ z
  have npf : p ∉ fps := fun z => live_none hp ((own_st ok).2 _ z)
  have npF : ¬ F p := fun z => live_none hp (ok.lv _ z)
  unfold eDsp1 at q
  refine tE_own ⟨F, ρ, fps, ok1, ?_⟩
  show tR X.K T W (mk ρ).own F ρ fps σ _ _
  cases h1 : (mk ρ).own with
  | bad => rw [h1] at q; exact q
  | exc C fs st =>
    rw [h1] at q
    exact ExcW.any (k := st) fun cls dx F' H' a b c d => q cls dx F' H' a b c (e1.trans d)
  | ok k l s1 ρ1 =>
    rw [h1] at q
    have := own_ok (K := X.K) h1
    subst this
    simp only at q
    intro v F1 H1 fps1 fd1 vo1 ev1 sb1
    refine tE_own ⟨F1, ρ1, fps1, vo1.ok, ?_⟩
    show tR X.K T W (mv ρ1).own F1 ρ1 fps1 σ _ _
    have ev1' : Evo F (upd H p (.dK [])) fps F1 H1 fps1 := ev1.sub fun a z => List.mem_append_left _ z
    cases h2 : (mv ρ1).own with
    | bad => rw [h2] at q; exact q
    | exc C fs st =>
      rw [h2] at q
      exact ExcW.any (k := st) fun cls dx F' H' a b c d => q cls dx F' H' a b c ((e1.trans ev1').trans d)
    | ok w l s2 ρ2 =>
      rw [h2] at q
      have := own_ok (K := X.K) h2
      subst this
      simp only at q
      intro u F2 H2 fps2 fd2 vo2 ev2 sb2
      cases hj : k.key0 with
      | none => rw [hj] at q; exact q.elim
      | some j =>
        rw [hj] at q
        simp only at q
        obtain ⟨rfl, ko, rfl⟩ := key0_v vo1.rep hj
        have evA := ev1'.trans ev2
        have lvp : Live (upd H p (.dK [])) p := ⟨_, upd_same, fun ps z => nomatch z⟩
        have Fp : ¬ F2 p := fun z => (evA.fn p z).elim npF fun y => y.elim npf fun y => y lvp
        have np2 : p ∉ fps2 ++ fd2 := fun z => (evA.new p z).elim npf fun y => y lvp
        have Hp2 : H2 p = some (.dK []) := (evA.keep p _ npf upd_same (fun ps z => nomatch z)).ex (.inl Fp)
        refine ⟨Hp2, [(j, u)], rfl, by simp, ?_⟩
        have em : mergeK [] [(j, u)] = [(j, u)] := rfl
        rw [em]
        have nd2 := vo2.nd
        have env2 : REnv X.K F2 (upd H2 p (.dK [(j, u)])) σ ρ2 fps2 := renv_map (S := fps2) (fun {v d f} r hf => r.updR Hp2 trivial Fp (fun z => np2 (List.mem_append_left _ (hf _ z))) fun b z => vo2.ok.nf b (hf b z)) vo2.ok.env fun b z => z
        have rw2 := vo2.rep.updR (o := .dK [(j, u)]) Hp2 trivial Fp (fun z => np2 (List.mem_append_right _ z)) vo2.nf
        refine q (.ref p) F2 _ fps2 (p :: (fd2 ++ [])) ⟨⟨env2, vo2.ok.nd, vo2.ok.nf, fun b z => ?_, ?_⟩, .dctO upd_same (.k [(j, u)] (fun x hx => ?_) (by simp)) (by rw [sl_sz]; show 1 ≤ sz; decide) (.cons rw2 .nil), ?_, fun b z => ?_⟩ ?_ Stb.no
        · obtain ⟨o, eo, no⟩ := vo2.ok.lv b z
          exact ⟨o, by rw [upd_ne (fun y => Fp (by rw [← y]; exact z))]; exact eo, no⟩
        · refine Tabs.same vo2.ok.tb fun b w e hnf => ?_
          by_cases hb : b = p
          · subst hb
            rw [Hp2] at e
            cases e
            exact .inr trivial
          · exact .inl (by rw [upd_ne hb]; exact e)
        · rw [List.mem_singleton.mp hx]; exact ko
        · rw [List.append_nil]
          simp only [List.nodup_append, List.mem_append, not_or, List.nodup_cons, List.mem_cons] at nd2 np2 ⊢
          grind
        · simp only [List.append_nil, List.mem_cons] at z
          rcases z with z | z
          · rw [z]; exact Fp
          · exact vo2.nf b z
        · have evB := e1.trans evA
          refine ⟨fun b o hb eb nb => ?_, fun b z => ?_, evB.fr, evB.fn⟩
          · have hbp : b ≠ p := fun y => by rw [y, hp] at eb; cases eb
            rcases evB.keep b o hb eb nb with y | ⟨y1, y2, o', y3⟩
            · exact .inl (by rw [upd_ne hbp]; exact y)
            · exact .inr ⟨y1, y2, o', by rw [upd_ne hbp]; exact y3⟩
          · simp only [List.append_nil, List.mem_append, List.mem_cons] at z
            rcases z with z | z | z
            · exact evB.new b (List.mem_append_left _ z)
            · subst z; exact .inr (live_none hp)
            · exact evB.new b (List.mem_append_right _ z)
end
end IS
end
section
set_option Elab.async false
set_option linter.all false
set_option autoImplicit false
set_option maxRecDepth 100000
set_option maxHeartbeats 2000000
/-! IS, part 83: own errors as values, as the printer wants them. -/
namespace IS
open PySem PySem.Spec PySem.W PyProof.Rows L2 IL LamX
/-- C keeps fs; by keywords ks, is -/
structure Ez (P : Program) (w : World) (K : PySem.W.Frag) (mg : Str → Option Value) (base : Heap) (C : Str) (fs : List Str) (js : List Nat) (ks : List Str) (is : List Nat) : Prop where
  ex : ∃ (fd : FuncData) (ps : List Str), FnOk P w K mg base (L2.CX P w) 1 (He.ma K (ga K C) "__init__") fd ps (spN (ga K C) fs js js.length) ∧ L2.Binds K fd ps [] ∧ ∀ (s : Shared) (a : Addr) (ws : List Value), K.In s.heap → ws.length = ks.length → BindsTo s fd ⟨[.ref a], ks.zip ws⟩ (ps.zip (.ref a :: pick is ws))
  oex : OexC K (ga K C)
  ini : PySem.W.findIn K (.ref (ga K C)) "__init__" = some (some (.ref (He.ma K (ga K C) "__init__")))
  fn : PySem.W.typeIn K (.ref (He.ma K (ga K C) "__init__")) = some (.type "function")
  m : mg C = some (.ref (ga K C))
/-- C() -/
structure Ez0 (K : PySem.W.Frag) (mg : Str → Option Value) (C : Str) : Prop where
  q : PySem.W.excIn K (ga K C) PySem.HandSPX.veTail "ValueError.__new__" = true
  k : PySem.W.keepIn K (.ref (ga K C)) = true
  m : mg C = some (.ref (ga K C))
section
variable {X : Cx} {T : Tb} {W : WK} {C : Str} {fs ks : List Str} {js is : List Nat} {e : Expr} {es : List Expr} {ar : A} {p pos : Pos} {kws : List Keyword} {j : Nat} {mx mc : Ex} {ex ec : Expr} {er : List Str} {root : Str} {y : Str}
theorem pe_ez (z : Ez X.prog X.w X.K X.mg X.base C fs js ks is) (hr : Room j X.A) (ha : PA X (e :: es) (tA X.K T W ar)) (h2 : 2 ≤ j := by omega) (hg : Gl X C := by rfl)
    (hlf : fs.length = js.length := by rfl) (hj : ∀ j ∈ js, j < js.length := by decide) (h1000 : js.length ≤ 1000 := by decide)
    (hdb : (C == ("__debug__" : Str)) = false := by decide) (he : starEach (e :: es) X.env = (false, eval e X.env) :: starEach es X.env := by rfl) (hpl : (backTo pos (starEach es X.env)).any (·.1) = false := by rfl) :
    PE X (.Call (.Name C p) (e :: es) [] pos) (tE X.K T W (eErr C fs js ar)) := by
  obtain ⟨fd, ps, F, b, _⟩ := z.ex
  exact pe_errP z.oex z.ini z.fn F (hr.mono h2) b (passes_call L2.takes0 fun _ _ _ _ z => z) hg z.m ha hlf hj rfl h1000 hdb he hpl
theorem pe_ezK (z : Ez X.prog X.w X.K X.mg X.base C fs js ks is) (hr : Room j X.A) (hkw : PK X kws (tA X.K T W ar)) (h2 : 2 ≤ j := by omega) (hg : Gl X C := by rfl)
    (hks : (backToKw pos (keywordEach kws X.env)).filterMap (·.1) = ks := by rfl) (hlf : fs.length = js.length := by rfl) (hj : ∀ j ∈ js, j < js.length := by decide) (hi : ∀ i ∈ is, i < ks.length := by decide) (hil : is.length = js.length := by rfl) (hkl : ks.length = js.length := by rfl)
    (hall : (backToKw pos (keywordEach kws X.env)).all (·.1.isSome) = true := by rfl)
    (hdb : (C == ("__debug__" : Str)) = false := by decide)
    (hpl : ((backTo pos (starEach [] X.env)).any (·.1) || (backToKw pos (keywordEach kws X.env)).any (·.1.isNone)) = false := by rfl) :
    PE X (.Call (.Name C p) [] kws pos) (tE X.K T W (eErr C fs (pick js is) ar)) := by
  obtain ⟨fd, ps, F, _, b⟩ := z.ex
  exact pe_errK z.oex z.ini z.fn F (hr.mono h2) b (passes_call L2.takes0 fun _ _ _ _ z => z) hg z.m hkw hks hlf hj rfl hi hil hkl hall hdb hpl
theorem pe_ez0 (z : Ez0 X.K X.mg C) (hg : Gl X C := by rfl) (hdb : (C == ("__debug__" : Str)) = false := by decide) : PE X (.Call (.Name C p) [] [] pos) (tE X.K T W (eErr0 C)) :=
  pe_err0 F.excBase_ValueError z.q z.m z.k hg hdb
end
/-! ### what the head looks at -/
structure EzC (K : PySem.W.Frag) (C : Str) (fs : List Str) : Prop where
  oex : OexC K (ga K C)
  no : ∀ f ∈ fs, PySem.W.findIn K (.ref (ga K C)) f = some none
  ini : PySem.W.findIn K (.ref (ga K C)) "__init__" = some (some (.ref (He.ma K (ga K C) "__init__")))
  fn : PySem.W.typeIn K (.ref (He.ma K (ga K C) "__init__")) = some (.type "function")
theorem ezB_ok {K : PySem.W.Frag} {C : Str} {fs : List Str} (h : ezB K C fs = true) : EzC K C fs := by
  unfold ezB at h
  simp only [Bool.and_eq_true, decide_eq_true_eq, List.all_eq_true] at h
  obtain ⟨h1, h2, h3, h4⟩ := h
  exact ⟨oexB_ok h1, h2, h3, h4⟩
theorem ez0B_ok {K : PySem.W.Frag} {mg : Str → Option Value} {C : Str} (h : ez0B K C = true) (m : mg C = some (.ref (ga K C))) : Ez0 K mg C := by
  unfold ez0B at h
  simp only [Bool.and_eq_true] at h
  exact ⟨h.1, h.2, m⟩
theorem exC1B_ok {K : PySem.W.Frag} {D : Addr} (h : exC1B K D = true) : ExcC K D := by
  unfold exC1B at h
  simp only [Bool.and_eq_true, decide_eq_true_eq] at h
  obtain ⟨h1, h2, h3, h4, h5, h6, h7, h8⟩ := h
  exact ⟨h1, h2, h3, h4, h5, h6, h7, h8⟩
theorem eiB_ok {K : PySem.W.Frag} {er : List Str} {root : Str} (h : eiB K er root = true) : EIs K er root := by
  have h' : ∀ C ∈ er, _ := List.all_eq_true.mp h
  simp only [Bool.and_eq_true, decide_eq_true_eq, List.all_eq_true] at h'
  exact ⟨fun C hC => exC1B_ok (h' C hC).1, fun C hC C' hC' => (h' C hC).2.2.1 C' hC', fun C hC => (h' C hC).2.2.2.1, fun C hC n hn => (h' C hC).2.2.2.2 n hn, fun C hC => xfB_ok (h' C hC).2.1⟩
end IS
namespace IS
open PySem PySem.Spec PySem.W PyProof.Rows L2 IL LamX
/-- keywords for a maker's parameters -/
theorem kb1 {K : PySem.W.Frag} {x qual : Str} {params : Arguments} {body : List Stmt} {scope : Scope} {kws : List (Str × V)} {f : Addr} {fd : FuncData} {ps ks : List Str} {is : List Nat} (F : FunD K x qual params body scope [] kws f fd)
    (h : ∀ (kV doc pm : Value) (an : Option Addr) (cdv ct : Value) (u : Addr) (ws : List Value), ws.length = ks.length → bindArgs (PySem.W.fnOf x qual params body scope .none kV doc pm an cdv ct) ⟨[.ref u], ks.zip ws⟩ = pure (ps.zip (.ref u :: pick is ws))) :
    ∀ (s : Shared) (a : Addr) (ws : List Value), K.In s.heap → ws.length = ks.length → BindsTo s fd ⟨[.ref a], ks.zip ws⟩ (ps.zip (.ref a :: pick is ws)) := by
  obtain ⟨oc, od, dV, kV, doc, pm, an, cdv, ct, osl, rfl, lk, hcd, hD, hK⟩ := F.ex
  rcases hD with ⟨_, rfl⟩ | ⟨e, _⟩
  · exact fun s a ws X hl => .of_eq (h kV doc pm an cdv ct a ws hl)
  · exact absurd rfl e
end IS
namespace IS
open PySem PySem.Spec PySem.W PyProof.Rows L2 IL LamX
section
variable {X : Cx} {T : Tb} {W : WK} {er : List Str} {root f : Str} {e : Expr} {m : Ex} {pos : Pos}
theorem pe_errFs (he : PE X e (tE X.K T W m)) (E : EIs X.K er root) (her : ∀ C ∈ er, PySem.W.findIn X.K (.ref (ga X.K C)) f = some none) 
    (hb : attributeBase e f X.env (eval e X.env) = eval e X.env := by rfl) : PE X (.Attribute e f pos) (tE X.K T W (eErrF er f m)) := pe_errF E her he hb
end
end IS
end
section
set_option Elab.async false
set_option linter.all false
set_option autoImplicit false
set_option maxRecDepth 100000
set_option maxHeartbeats 1000000
/-! HookY: the facts at the head's end, read off levels of names (no sieve of doubles). -/
namespace HookY
open PySem PySem.W He
theorem obsY_eq {fa : List Fa} {fn : List DefD} {tf : List Defn} {ex : PySem.W.Frag → Bool} {g : Addr → Option Obj} {s : Shared} (h : ∀ a, g a = s.heap.get? a) : obsY fa fn tf ex g = (hookY fa fn tf ex).obs s := by
  have e : g = s.heap.get? := funext h
  rw [e] <;> rfl
end HookY
end
section
set_option linter.all false
set_option autoImplicit false
set_option maxRecDepth 100000
set_option maxHeartbeats 2000000
noncomputable section
namespace K00
open PySem PySem.W L2 IL IS
/-- _law_start(script): slots 0 script -/
def s_law_start : S :=
 (sRet (eLst (aCons (eOp1 fList (eVar 0)) (aCons (eC (.int 0)) (aCons (eC (.int 0)) (aCons (eC (.int 11)) aNil))))))
def F_law_start : Fp := fnP 0 s_law_start
def lr_law_made_c0 : LamR := lamAt ("_law_made_c" ++ ".<locals>." ++ "<lambda>") (defBody (top 73)) 0
def F_law_made_c0 : Fp := fnE (eLst (aCons (eErrF erl "thing" (eVar 0)) aNil))
def lr_law_made_c1 : LamR := lamAt ("_law_made_c" ++ ".<locals>." ++ "<lambda>") (defBody (top 73)) 1
def F_law_made_c1 : Fp := fnE (eLst (aCons (eErrF erl "thing" (eVar 0)) aNil))
def lr_law_made_c2 : LamR := lamAt ("_law_made_c" ++ ".<locals>." ++ "<lambda>") (defBody (top 73)) 2
def F_law_made_c2 : Fp := fnE (eLst (aCons (eErrF erl "line" (eVar 0)) (aCons (eErrF erl "sign" (eVar 0)) aNil)))
def lr_law_made_c3 : LamR := lamAt ("_law_made_c" ++ ".<locals>." ++ "<lambda>") (defBody (top 73)) 3
def F_law_made_c3 : Fp := fnE (eLst (aCons (eErrF erl "index" (eVar 0)) aNil))
def lr_law_made_c4 : LamR := lamAt ("_law_made_c" ++ ".<locals>." ++ "<lambda>") (defBody (top 73)) 4
def F_law_made_c4 : Fp := fnE (eLst (aCons (eErrF erl "index" (eVar 0)) aNil))
def lr_law_made_c5 : LamR := lamAt ("_law_made_c" ++ ".<locals>." ++ "<lambda>") (defBody (top 73)) 5
def F_law_made_c5 : Fp := fnE (eLst (aCons (eErrF erl "thing" (eVar 0)) aNil))
def lr_law_made_c6 : LamR := lamAt ("_law_made_c" ++ ".<locals>." ++ "<lambda>") (defBody (top 73)) 6
def F_law_made_c6 : Fp := fnE (eLst (aCons (eErrF erl "thing" (eVar 0)) aNil))
def lr_law_made_c7 : LamR := lamAt ("_law_made_c" ++ ".<locals>." ++ "<lambda>") (defBody (top 73)) 7
def F_law_made_c7 : Fp := fnE (eLst (aCons (eErrF erl "index" (eVar 0)) aNil))
def lr_law_made_c8 : LamR := lamAt ("_law_made_c" ++ ".<locals>." ++ "<lambda>") (defBody (top 73)) 8
def F_law_made_c8 : Fp := fnE (eLst (aCons (eErrF erl "thing" (eVar 0)) aNil))
def lr_law_made_c9 : LamR := lamAt ("_law_made_c" ++ ".<locals>." ++ "<lambda>") (defBody (top 73)) 9
def F_law_made_c9 : Fp := fnE (eLst (aCons (eErrF erl "thing" (eVar 0)) aNil))
def lr_law_made_c10 : LamR := lamAt ("_law_made_c" ++ ".<locals>." ++ "<lambda>") (defBody (top 73)) 10
def F_law_made_c10 : Fp := fnE (eLst (aCons (eErrF erl "lot" (eVar 0)) (aCons (eErrF erl "other" (eVar 0)) aNil)))
def lr_law_made_c11 : LamR := lamAt ("_law_made_c" ++ ".<locals>." ++ "<lambda>") (defBody (top 73)) 11
def F_law_made_c11 : Fp := fnE (eLst (aCons (eErrF erl "question" (eVar 0)) aNil))
def lr_law_made_c12 : LamR := lamAt ("_law_made_c" ++ ".<locals>." ++ "<lambda>") (defBody (top 73)) 12
def F_law_made_c12 : Fp := fnE (eLst (aCons (eErrF erl "lot" (eVar 0)) aNil))
def lr_law_made_c13 : LamR := lamAt ("_law_made_c" ++ ".<locals>." ++ "<lambda>") (defBody (top 73)) 13
def F_law_made_c13 : Fp := fnE (eLst (aCons (eErrF erl "question" (eVar 0)) aNil))
def lr_law_made_c14 : LamR := lamAt ("_law_made_c" ++ ".<locals>." ++ "<lambda>") (defBody (top 73)) 14
def F_law_made_c14 : Fp := fnE (eLst (aCons (eErrF erl "thing" (eVar 0)) aNil))
def lr_law_made_c15 : LamR := lamAt ("_law_made_c" ++ ".<locals>." ++ "<lambda>") (defBody (top 73)) 15
def F_law_made_c15 : Fp := fnE (eLst aNil)
def lr_law_made_c16 : LamR := lamAt ("_law_made_c" ++ ".<locals>." ++ "<lambda>") (defBody (top 73)) 16
def F_law_made_c16 : Fp := fnE (eLst (aCons (eErrF erl "thing" (eVar 0)) aNil))
def lr_law_made_c17 : LamR := lamAt ("_law_made_c" ++ ".<locals>." ++ "<lambda>") (defBody (top 73)) 17
def F_law_made_c17 : Fp := fnE (eLst (aCons (eErrF erl "lot" (eVar 0)) aNil))
def lt_law_made_c : LTab := [("law_made_c0", lr_law_made_c0, F_law_made_c0), ("law_made_c1", lr_law_made_c1, F_law_made_c1), ("law_made_c2", lr_law_made_c2, F_law_made_c2), ("law_made_c3", lr_law_made_c3, F_law_made_c3), ("law_made_c4", lr_law_made_c4, F_law_made_c4), ("law_made_c5", lr_law_made_c5, F_law_made_c5), ("law_made_c6", lr_law_made_c6, F_law_made_c6), ("law_made_c7", lr_law_made_c7, F_law_made_c7), ("law_made_c8", lr_law_made_c8, F_law_made_c8), ("law_made_c9", lr_law_made_c9, F_law_made_c9), ("law_made_c10", lr_law_made_c10, F_law_made_c10), ("law_made_c11", lr_law_made_c11, F_law_made_c11), ("law_made_c12", lr_law_made_c12, F_law_made_c12), ("law_made_c13", lr_law_made_c13, F_law_made_c13), ("law_made_c14", lr_law_made_c14, F_law_made_c14), ("law_made_c15", lr_law_made_c15, F_law_made_c15), ("law_made_c16", lr_law_made_c16, F_law_made_c16), ("law_made_c17", lr_law_made_c17, F_law_made_c17)]
/-- _law_made_c(x, y, z): slots 0 x, 1 y, 2 z, 3 found -/
def s_law_made_c : S :=
 (sSeq (sAsg (gSet 3) (eLst aNil))
 (sSeq (sExp (eMut mAppend (eKd kLst (eVar 3)) (aCons (eTup (aCons (eErr "BadSplit" ["thing"] [0] (aCons (eVar 0) aNil)) (aCons (eErr "BadSplit" ["thing"] (pick [0] [0]) (aCons (eVar 0) aNil)) (aCons (eLam "law_made_c0" lr_law_made_c0) (aCons (eLst (aCons (eVar 0) aNil)) aNil))))) aNil)))
 (sSeq (sExp (eMut mAppend (eKd kLst (eVar 3)) (aCons (eTup (aCons (eErr "BadTable" ["thing"] [0] (aCons (eVar 0) aNil)) (aCons (eErr "BadTable" ["thing"] (pick [0] [0]) (aCons (eVar 0) aNil)) (aCons (eLam "law_made_c1" lr_law_made_c1) (aCons (eLst (aCons (eVar 0) aNil)) aNil))))) aNil)))
 (sSeq (sExp (eMut mAppend (eKd kLst (eVar 3)) (aCons (eTup (aCons (eErr "BadText" ["sign", "line"] [1, 0] (aCons (eVar 0) (aCons (eVar 1) aNil))) (aCons (eErr "BadText" ["sign", "line"] (pick [1, 0] [1, 0]) (aCons (eVar 1) (aCons (eVar 0) aNil))) (aCons (eLam "law_made_c2" lr_law_made_c2) (aCons (eLst (aCons (eVar 0) (aCons (eVar 1) aNil))) aNil))))) aNil)))
 (sSeq (sExp (eMut mAppend (eKd kLst (eVar 3)) (aCons (eTup (aCons (eErr "BadTies" ["index"] [0] (aCons (eVar 0) aNil)) (aCons (eErr "BadTies" ["index"] (pick [0] [0]) (aCons (eVar 0) aNil)) (aCons (eLam "law_made_c3" lr_law_made_c3) (aCons (eLst (aCons (eVar 0) aNil)) aNil))))) aNil)))
 (sSeq (sExp (eMut mAppend (eKd kLst (eVar 3)) (aCons (eTup (aCons (eErr "BadTold" ["index"] [0] (aCons (eVar 0) aNil)) (aCons (eErr "BadTold" ["index"] (pick [0] [0]) (aCons (eVar 0) aNil)) (aCons (eLam "law_made_c4" lr_law_made_c4) (aCons (eLst (aCons (eVar 0) aNil)) aNil))))) aNil)))
 (sSeq (sExp (eMut mAppend (eKd kLst (eVar 3)) (aCons (eTup (aCons (eErr "BadTree" ["thing"] [0] (aCons (eVar 0) aNil)) (aCons (eErr "BadTree" ["thing"] (pick [0] [0]) (aCons (eVar 0) aNil)) (aCons (eLam "law_made_c5" lr_law_made_c5) (aCons (eLst (aCons (eVar 0) aNil)) aNil))))) aNil)))
 (sSeq (sExp (eMut mAppend (eKd kLst (eVar 3)) (aCons (eTup (aCons (eErr "BadTriple" ["thing"] [0] (aCons (eVar 0) aNil)) (aCons (eErr "BadTriple" ["thing"] (pick [0] [0]) (aCons (eVar 0) aNil)) (aCons (eLam "law_made_c6" lr_law_made_c6) (aCons (eLst (aCons (eVar 0) aNil)) aNil))))) aNil)))
 (sSeq (sExp (eMut mAppend (eKd kLst (eVar 3)) (aCons (eTup (aCons (eErr "BadTriples" ["index"] [0] (aCons (eVar 0) aNil)) (aCons (eErr "BadTriples" ["index"] (pick [0] [0]) (aCons (eVar 0) aNil)) (aCons (eLam "law_made_c7" lr_law_made_c7) (aCons (eLst (aCons (eVar 0) aNil)) aNil))))) aNil)))
 (sSeq (sExp (eMut mAppend (eKd kLst (eVar 3)) (aCons (eTup (aCons (eErr "BadTwice" ["thing"] [0] (aCons (eVar 0) aNil)) (aCons (eErr "BadTwice" ["thing"] (pick [0] [0]) (aCons (eVar 0) aNil)) (aCons (eLam "law_made_c8" lr_law_made_c8) (aCons (eLst (aCons (eVar 0) aNil)) aNil))))) aNil)))
 (sSeq (sExp (eMut mAppend (eKd kLst (eVar 3)) (aCons (eTup (aCons (eErr "BadWeb" ["thing"] [0] (aCons (eVar 0) aNil)) (aCons (eErr "BadWeb" ["thing"] (pick [0] [0]) (aCons (eVar 0) aNil)) (aCons (eLam "law_made_c9" lr_law_made_c9) (aCons (eLst (aCons (eVar 0) aNil)) aNil))))) aNil)))
 (sSeq (sExp (eMut mAppend (eKd kLst (eVar 3)) (aCons (eTup (aCons (eErr "Crossing" ["other", "lot"] [1, 0] (aCons (eVar 0) (aCons (eVar 1) aNil))) (aCons (eErr "Crossing" ["other", "lot"] (pick [1, 0] [1, 0]) (aCons (eVar 1) (aCons (eVar 0) aNil))) (aCons (eLam "law_made_c10" lr_law_made_c10) (aCons (eLst (aCons (eVar 0) (aCons (eVar 1) aNil))) aNil))))) aNil)))
 (sSeq (sExp (eMut mAppend (eKd kLst (eVar 3)) (aCons (eTup (aCons (eErr "InUse" ["question"] [0] (aCons (eVar 0) aNil)) (aCons (eErr "InUse" ["question"] (pick [0] [0]) (aCons (eVar 0) aNil)) (aCons (eLam "law_made_c11" lr_law_made_c11) (aCons (eLst (aCons (eVar 0) aNil)) aNil))))) aNil)))
 (sSeq (sExp (eMut mAppend (eKd kLst (eVar 3)) (aCons (eTup (aCons (eErr "IsThere" ["lot"] [0] (aCons (eVar 0) aNil)) (aCons (eErr "IsThere" ["lot"] (pick [0] [0]) (aCons (eVar 0) aNil)) (aCons (eLam "law_made_c12" lr_law_made_c12) (aCons (eLst (aCons (eVar 0) aNil)) aNil))))) aNil)))
 (sSeq (sExp (eMut mAppend (eKd kLst (eVar 3)) (aCons (eTup (aCons (eErr "IsWatched" ["question"] [0] (aCons (eVar 0) aNil)) (aCons (eErr "IsWatched" ["question"] (pick [0] [0]) (aCons (eVar 0) aNil)) (aCons (eLam "law_made_c13" lr_law_made_c13) (aCons (eLst (aCons (eVar 0) aNil)) aNil))))) aNil)))
 (sSeq (sExp (eMut mAppend (eKd kLst (eVar 3)) (aCons (eTup (aCons (eErr "NoCount" ["thing"] [0] (aCons (eVar 0) aNil)) (aCons (eErr "NoCount" ["thing"] (pick [0] [0]) (aCons (eVar 0) aNil)) (aCons (eLam "law_made_c14" lr_law_made_c14) (aCons (eLst (aCons (eVar 0) aNil)) aNil))))) aNil)))
 (sSeq (sExp (eMut mAppend (eKd kLst (eVar 3)) (aCons (eTup (aCons (eErr0 "NoFrame") (aCons (eErr0 "NoFrame") (aCons (eLam "law_made_c15" lr_law_made_c15) (aCons (eLst aNil) aNil))))) aNil)))
 (sSeq (sExp (eMut mAppend (eKd kLst (eVar 3)) (aCons (eTup (aCons (eErr "NoLot" ["thing"] [0] (aCons (eVar 0) aNil)) (aCons (eErr "NoLot" ["thing"] (pick [0] [0]) (aCons (eVar 0) aNil)) (aCons (eLam "law_made_c16" lr_law_made_c16) (aCons (eLst (aCons (eVar 0) aNil)) aNil))))) aNil)))
 (sSeq (sExp (eMut mAppend (eKd kLst (eVar 3)) (aCons (eTup (aCons (eErr "NoParts" ["lot"] [0] (aCons (eVar 0) aNil)) (aCons (eErr "NoParts" ["lot"] (pick [0] [0]) (aCons (eVar 0) aNil)) (aCons (eLam "law_made_c17" lr_law_made_c17) (aCons (eLst (aCons (eVar 0) aNil)) aNil))))) aNil)))
 (sRet (eMv 3)))))))))))))))))))))
def F_law_made_c : Fp := fnP 1 s_law_made_c
def lr_law_made_d0 : LamR := lamAt ("_law_made_d" ++ ".<locals>." ++ "<lambda>") (defBody (top 74)) 0
def F_law_made_d0 : Fp := fnE (eLst (aCons (eErrF erl "thing" (eVar 0)) aNil))
def lr_law_made_d1 : LamR := lamAt ("_law_made_d" ++ ".<locals>." ++ "<lambda>") (defBody (top 74)) 1
def F_law_made_d1 : Fp := fnE (eLst (aCons (eErrF erl "place" (eVar 0)) aNil))
def lr_law_made_d2 : LamR := lamAt ("_law_made_d" ++ ".<locals>." ++ "<lambda>") (defBody (top 74)) 2
def F_law_made_d2 : Fp := fnE (eLst (aCons (eErrF erl "one" (eVar 0)) (aCons (eErrF erl "other" (eVar 0)) aNil)))
def lr_law_made_d3 : LamR := lamAt ("_law_made_d" ++ ".<locals>." ++ "<lambda>") (defBody (top 74)) 3
def F_law_made_d3 : Fp := fnE (eLst aNil)
def lr_law_made_d4 : LamR := lamAt ("_law_made_d" ++ ".<locals>." ++ "<lambda>") (defBody (top 74)) 4
def F_law_made_d4 : Fp := fnE (eLst (aCons (eErrF erl "why" (eVar 0)) aNil))
def lr_law_made_d5 : LamR := lamAt ("_law_made_d" ++ ".<locals>." ++ "<lambda>") (defBody (top 74)) 5
def F_law_made_d5 : Fp := fnE (eLst (aCons (eErrF erl "lot" (eVar 0)) aNil))
def lr_law_made_d6 : LamR := lamAt ("_law_made_d" ++ ".<locals>." ++ "<lambda>") (defBody (top 74)) 6
def F_law_made_d6 : Fp := fnE (eLst (aCons (eErrF erl "question" (eVar 0)) aNil))
def lr_law_made_d7 : LamR := lamAt ("_law_made_d" ++ ".<locals>." ++ "<lambda>") (defBody (top 74)) 7
def F_law_made_d7 : Fp := fnE (eLst aNil)
def lr_law_made_d8 : LamR := lamAt ("_law_made_d" ++ ".<locals>." ++ "<lambda>") (defBody (top 74)) 8
def F_law_made_d8 : Fp := fnE (eLst (aCons (eErrF erl "thing" (eVar 0)) aNil))
def lr_law_made_d9 : LamR := lamAt ("_law_made_d" ++ ".<locals>." ++ "<lambda>") (defBody (top 74)) 9
def F_law_made_d9 : Fp := fnE (eLst (aCons (eErrF erl "lot" (eVar 0)) aNil))
def lr_law_made_d10 : LamR := lamAt ("_law_made_d" ++ ".<locals>." ++ "<lambda>") (defBody (top 74)) 10
def F_law_made_d10 : Fp := fnE (eLst (aCons (eErrF erl "question" (eVar 0)) (aCons (eErrF erl "why" (eVar 0)) aNil)))
def lt_law_made_d : LTab := [("law_made_d0", lr_law_made_d0, F_law_made_d0), ("law_made_d1", lr_law_made_d1, F_law_made_d1), ("law_made_d2", lr_law_made_d2, F_law_made_d2), ("law_made_d3", lr_law_made_d3, F_law_made_d3), ("law_made_d4", lr_law_made_d4, F_law_made_d4), ("law_made_d5", lr_law_made_d5, F_law_made_d5), ("law_made_d6", lr_law_made_d6, F_law_made_d6), ("law_made_d7", lr_law_made_d7, F_law_made_d7), ("law_made_d8", lr_law_made_d8, F_law_made_d8), ("law_made_d9", lr_law_made_d9, F_law_made_d9), ("law_made_d10", lr_law_made_d10, F_law_made_d10)]
/-- _law_made_d(x, y, z): slots 0 x, 1 y, 2 z, 3 found -/
def s_law_made_d : S :=
 (sSeq (sAsg (gSet 3) (eLst aNil))
 (sSeq (sExp (eMut mAppend (eKd kLst (eVar 3)) (aCons (eTup (aCons (eErr "NoPlace" ["thing"] [0] (aCons (eVar 0) aNil)) (aCons (eErr "NoPlace" ["thing"] (pick [0] [0]) (aCons (eVar 0) aNil)) (aCons (eLam "law_made_d0" lr_law_made_d0) (aCons (eLst (aCons (eVar 0) aNil)) aNil))))) aNil)))
 (sSeq (sExp (eMut mAppend (eKd kLst (eVar 3)) (aCons (eTup (aCons (eErr "NoRoot" ["place"] [0] (aCons (eVar 0) aNil)) (aCons (eErr "NoRoot" ["place"] (pick [0] [0]) (aCons (eVar 0) aNil)) (aCons (eLam "law_made_d1" lr_law_made_d1) (aCons (eLst (aCons (eVar 0) aNil)) aNil))))) aNil)))
 (sSeq (sExp (eMut mAppend (eKd kLst (eVar 3)) (aCons (eTup (aCons (eErr "NoTie" ["other", "one"] [1, 0] (aCons (eVar 0) (aCons (eVar 1) aNil))) (aCons (eErr "NoTie" ["other", "one"] (pick [1, 0] [1, 0]) (aCons (eVar 1) (aCons (eVar 0) aNil))) (aCons (eLam "law_made_d2" lr_law_made_d2) (aCons (eLst (aCons (eVar 0) (aCons (eVar 1) aNil))) aNil))))) aNil)))
 (sSeq (sExp (eMut mAppend (eKd kLst (eVar 3)) (aCons (eTup (aCons (eErr0 "NotFull") (aCons (eErr0 "NotFull") (aCons (eLam "law_made_d3" lr_law_made_d3) (aCons (eLst aNil) aNil))))) aNil)))
 (sSeq (sExp (eMut mAppend (eKd kLst (eVar 3)) (aCons (eTup (aCons (eErr "NotNow" ["why"] [0] (aCons (eVar 0) aNil)) (aCons (eErr "NotNow" ["why"] (pick [0] [0]) (aCons (eVar 0) aNil)) (aCons (eLam "law_made_d4" lr_law_made_d4) (aCons (eLst (aCons (eVar 0) aNil)) aNil))))) aNil)))
 (sSeq (sExp (eMut mAppend (eKd kLst (eVar 3)) (aCons (eTup (aCons (eErr "NotThere" ["lot"] [0] (aCons (eVar 0) aNil)) (aCons (eErr "NotThere" ["lot"] (pick [0] [0]) (aCons (eVar 0) aNil)) (aCons (eLam "law_made_d5" lr_law_made_d5) (aCons (eLst (aCons (eVar 0) aNil)) aNil))))) aNil)))
 (sSeq (sExp (eMut mAppend (eKd kLst (eVar 3)) (aCons (eTup (aCons (eErr "NotWatched" ["question"] [0] (aCons (eVar 0) aNil)) (aCons (eErr "NotWatched" ["question"] (pick [0] [0]) (aCons (eVar 0) aNil)) (aCons (eLam "law_made_d6" lr_law_made_d6) (aCons (eLst (aCons (eVar 0) aNil)) aNil))))) aNil)))
 (sSeq (sExp (eMut mAppend (eKd kLst (eVar 3)) (aCons (eTup (aCons (eErr0 "OtherPlaces") (aCons (eErr0 "OtherPlaces") (aCons (eLam "law_made_d7" lr_law_made_d7) (aCons (eLst aNil) aNil))))) aNil)))
 (sSeq (sExp (eMut mAppend (eKd kLst (eVar 3)) (aCons (eTup (aCons (eErr "SamePlace" ["thing"] [0] (aCons (eVar 0) aNil)) (aCons (eErr "SamePlace" ["thing"] (pick [0] [0]) (aCons (eVar 0) aNil)) (aCons (eLam "law_made_d8" lr_law_made_d8) (aCons (eLst (aCons (eVar 0) aNil)) aNil))))) aNil)))
 (sSeq (sExp (eMut mAppend (eKd kLst (eVar 3)) (aCons (eTup (aCons (eErr "SavesNothing" ["lot"] [0] (aCons (eVar 0) aNil)) (aCons (eErr "SavesNothing" ["lot"] (pick [0] [0]) (aCons (eVar 0) aNil)) (aCons (eLam "law_made_d9" lr_law_made_d9) (aCons (eLst (aCons (eVar 0) aNil)) aNil))))) aNil)))
 (sSeq (sExp (eMut mAppend (eKd kLst (eVar 3)) (aCons (eTup (aCons (eErr "WouldChange" ["why", "question"] [1, 0] (aCons (eVar 0) (aCons (eVar 1) aNil))) (aCons (eErr "WouldChange" ["why", "question"] (pick [1, 0] [1, 0]) (aCons (eVar 1) (aCons (eVar 0) aNil))) (aCons (eLam "law_made_d10" lr_law_made_d10) (aCons (eLst (aCons (eVar 0) (aCons (eVar 1) aNil))) aNil))))) aNil)))
 (sRet (eMv 3))))))))))))))
def F_law_made_d : Fp := fnP 1 s_law_made_d
def fb_law_draw_1 : S :=
 (sSeq (sAsg (gSet 2) (eFrz (eMut mPop (eKd kLst (eSub (eVar 0) (eC (.int 0)))) (aCons (eC (.int 0)) aNil))))
 (sSeq (sPut pSet (eVar 0) (eC (.int 3)) (eOp2 fMod (eOp1 fIntOf (eOp2 fAdd (eOp2 fAdd (eOp2 fMul (eSub (eVar 0) (eC (.int 3))) (eC (.int 8191))) (eVar 2)) (eC (.int 3)))) (eC (.int 2147483647))))
 (sPut pSet (eVar 0) (eC (.int 1)) (eIf (IL.tB (eOp2 fGe (eVar 2) (eOp2 fPow (eC (.int 10)) (eC (.int 18))))) (eVar 2) (eC (.int 0))))))
def fo_law_draw_1 : S :=
 (sWhile 70 (IL.tAnd (IL.tB (eOp2 fEq (eSub (eVar 0) (eC (.int 1))) (eC (.int 0)))) (IL.tB (eOp2 fNe (eSub (eVar 0) (eC (.int 0))) (eLst aNil)))) fb_law_draw_1)
/-- _law_draw(stream, many): slots 0 stream, 1 many, 2 cell, 3 digit, 4 mixed -/
def s_law_draw : S :=
 (sSeq (sPut pSet (eVar 0) (eC (.int 2)) (eOp2 fAdd (eSub (eVar 0) (eC (.int 2))) (eC (.int 1))))
 (sSeq fo_law_draw_1
 (sSeq (sIf (IL.tB (eOp2 fGt (eSub (eVar 0) (eC (.int 1))) (eC (.int 0)))) (sSeq (sAsg (gSet 3) (eFrz (eOp2 fMod (eOp1 fIntOf (eSub (eVar 0) (eC (.int 1)))) (eVar 1))))
 (sSeq (sPut pSet (eVar 0) (eC (.int 1)) (eOp2 fDiv (eSub (eVar 0) (eC (.int 1))) (eVar 1)))
 (sRet (eVar 3)))) sNx)
 (sSeq (sAsg (gSet 4) (eFrz (eOp2 fMod (eOp1 fIntOf (eOp2 fPow (eOp2 fAdd (eOp2 fAdd (eSub (eVar 0) (eC (.int 3))) (eOp2 fMul (eC (.int 7919)) (eSub (eVar 0) (eC (.int 2))))) (eC (.int 104729))) (eC (.int 5)))) (eC (.int 2147483629)))))
 (sRet (eOp2 fMod (eOp2 fMod (eOp1 fIntOf (eOp2 fPow (eOp2 fAdd (eOp2 fAdd (eOp2 fMul (eVar 4) (eC (.int 48271))) (eOp2 fMul (eC (.int 30011)) (eSub (eVar 0) (eC (.int 2))))) (eC (.int 29))) (eC (.int 3)))) (eC (.int 1000000007))) (eVar 1)))))))
def F_law_draw : Fm := fnM 3 s_law_draw
def lc_law_mixed_1 : Ex :=
 (eLC [3] (qA wRange1 (aCons (eOp1 fLen (eVar 2)) aNil)) (gSet 3) IL.tYes (eMut mPop (eKd kLst (eVar 2)) (aCons (eCallM F_law_draw (eVar 0) (pCons (eOp1 fLen (eVar 2)) pNil)) aNil)))
/-- _law_mixed(stream, some): slots 0 stream, 1 some, 2 left, 3 k -/
def s_law_mixed : S :=
 (sSeq (sAsg (gSet 2) (eOp1 fList (eVar 1)))
 (sRet lc_law_mixed_1))
def F_law_mixed : Fm := fnM 2 s_law_mixed
def lr_law_made_a0 : LamR := lamAt ("_law_made_a" ++ ".<locals>." ++ "<lambda>") (defBody (top 71)) 0
def F_law_made_a0 : Fp := fnE (eLst (aCons (eErrF erl "thing" (eVar 0)) aNil))
def lr_law_made_a1 : LamR := lamAt ("_law_made_a" ++ ".<locals>." ++ "<lambda>") (defBody (top 71)) 1
def F_law_made_a1 : Fp := fnE (eLst (aCons (eErrF erl "thing" (eVar 0)) aNil))
def lr_law_made_a2 : LamR := lamAt ("_law_made_a" ++ ".<locals>." ++ "<lambda>") (defBody (top 71)) 2
def F_law_made_a2 : Fp := fnE (eLst (aCons (eErrF erl "thing" (eVar 0)) aNil))
def lr_law_made_a3 : LamR := lamAt ("_law_made_a" ++ ".<locals>." ++ "<lambda>") (defBody (top 71)) 3
def F_law_made_a3 : Fp := fnE (eLst (aCons (eErrF erl "thing" (eVar 0)) aNil))
def lr_law_made_a4 : LamR := lamAt ("_law_made_a" ++ ".<locals>." ++ "<lambda>") (defBody (top 71)) 4
def F_law_made_a4 : Fp := fnE (eLst (aCons (eErrF erl "index" (eVar 0)) aNil))
def lr_law_made_a5 : LamR := lamAt ("_law_made_a" ++ ".<locals>." ++ "<lambda>") (defBody (top 71)) 5
def F_law_made_a5 : Fp := fnE (eLst (aCons (eErrF erl "thing" (eVar 0)) aNil))
def lr_law_made_a6 : LamR := lamAt ("_law_made_a" ++ ".<locals>." ++ "<lambda>") (defBody (top 71)) 6
def F_law_made_a6 : Fp := fnE (eLst (aCons (eErrF erl "thing" (eVar 0)) aNil))
def lr_law_made_a7 : LamR := lamAt ("_law_made_a" ++ ".<locals>." ++ "<lambda>") (defBody (top 71)) 7
def F_law_made_a7 : Fp := fnE (eLst (aCons (eErrF erl "thing" (eVar 0)) aNil))
def lr_law_made_a8 : LamR := lamAt ("_law_made_a" ++ ".<locals>." ++ "<lambda>") (defBody (top 71)) 8
def F_law_made_a8 : Fp := fnE (eLst (aCons (eErrF erl "thing" (eVar 0)) aNil))
def lr_law_made_a9 : LamR := lamAt ("_law_made_a" ++ ".<locals>." ++ "<lambda>") (defBody (top 71)) 9
def F_law_made_a9 : Fp := fnE (eLst (aCons (eErrF erl "thing" (eVar 0)) aNil))
def lr_law_made_a10 : LamR := lamAt ("_law_made_a" ++ ".<locals>." ++ "<lambda>") (defBody (top 71)) 10
def F_law_made_a10 : Fp := fnE (eLst (aCons (eErrF erl "thing" (eVar 0)) aNil))
def lr_law_made_a11 : LamR := lamAt ("_law_made_a" ++ ".<locals>." ++ "<lambda>") (defBody (top 71)) 11
def F_law_made_a11 : Fp := fnE (eLst (aCons (eErrF erl "thing" (eVar 0)) aNil))
def lr_law_made_a12 : LamR := lamAt ("_law_made_a" ++ ".<locals>." ++ "<lambda>") (defBody (top 71)) 12
def F_law_made_a12 : Fp := fnE (eLst (aCons (eErrF erl "fault" (eVar 0)) aNil))
def lr_law_made_a13 : LamR := lamAt ("_law_made_a" ++ ".<locals>." ++ "<lambda>") (defBody (top 71)) 13
def F_law_made_a13 : Fp := fnE (eLst (aCons (eErrF erl "index" (eVar 0)) aNil))
def lr_law_made_a14 : LamR := lamAt ("_law_made_a" ++ ".<locals>." ++ "<lambda>") (defBody (top 71)) 14
def F_law_made_a14 : Fp := fnE (eLst (aCons (eErrF erl "index" (eVar 0)) aNil))
def lr_law_made_a15 : LamR := lamAt ("_law_made_a" ++ ".<locals>." ++ "<lambda>") (defBody (top 71)) 15
def F_law_made_a15 : Fp := fnE (eLst (aCons (eErrF erl "thing" (eVar 0)) aNil))
def lr_law_made_a16 : LamR := lamAt ("_law_made_a" ++ ".<locals>." ++ "<lambda>") (defBody (top 71)) 16
def F_law_made_a16 : Fp := fnE (eLst (aCons (eErrF erl "thing" (eVar 0)) aNil))
def lr_law_made_a17 : LamR := lamAt ("_law_made_a" ++ ".<locals>." ++ "<lambda>") (defBody (top 71)) 17
def F_law_made_a17 : Fp := fnE (eLst (aCons (eErrF erl "thing" (eVar 0)) aNil))
def lt_law_made_a : LTab := [("law_made_a0", lr_law_made_a0, F_law_made_a0), ("law_made_a1", lr_law_made_a1, F_law_made_a1), ("law_made_a2", lr_law_made_a2, F_law_made_a2), ("law_made_a3", lr_law_made_a3, F_law_made_a3), ("law_made_a4", lr_law_made_a4, F_law_made_a4), ("law_made_a5", lr_law_made_a5, F_law_made_a5), ("law_made_a6", lr_law_made_a6, F_law_made_a6), ("law_made_a7", lr_law_made_a7, F_law_made_a7), ("law_made_a8", lr_law_made_a8, F_law_made_a8), ("law_made_a9", lr_law_made_a9, F_law_made_a9), ("law_made_a10", lr_law_made_a10, F_law_made_a10), ("law_made_a11", lr_law_made_a11, F_law_made_a11), ("law_made_a12", lr_law_made_a12, F_law_made_a12), ("law_made_a13", lr_law_made_a13, F_law_made_a13), ("law_made_a14", lr_law_made_a14, F_law_made_a14), ("law_made_a15", lr_law_made_a15, F_law_made_a15), ("law_made_a16", lr_law_made_a16, F_law_made_a16), ("law_made_a17", lr_law_made_a17, F_law_made_a17)]
/-- _law_made_a(x, y, z): slots 0 x, 1 y, 2 z, 3 found -/
def s_law_made_a : S :=
 (sSeq (sAsg (gSet 3) (eLst aNil))
 (sSeq (sExp (eMut mAppend (eKd kLst (eVar 3)) (aCons (eTup (aCons (eErr "BadDeed" ["thing"] [0] (aCons (eVar 0) aNil)) (aCons (eErr "BadDeed" ["thing"] (pick [0] [0]) (aCons (eVar 0) aNil)) (aCons (eLam "law_made_a0" lr_law_made_a0) (aCons (eLst (aCons (eVar 0) aNil)) aNil))))) aNil)))
 (sSeq (sExp (eMut mAppend (eKd kLst (eVar 3)) (aCons (eTup (aCons (eErr "BadForest" ["thing"] [0] (aCons (eVar 0) aNil)) (aCons (eErr "BadForest" ["thing"] (pick [0] [0]) (aCons (eVar 0) aNil)) (aCons (eLam "law_made_a1" lr_law_made_a1) (aCons (eLst (aCons (eVar 0) aNil)) aNil))))) aNil)))
 (sSeq (sExp (eMut mAppend (eKd kLst (eVar 3)) (aCons (eTup (aCons (eErr "BadForm" ["thing"] [0] (aCons (eVar 0) aNil)) (aCons (eErr "BadForm" ["thing"] (pick [0] [0]) (aCons (eVar 0) aNil)) (aCons (eLam "law_made_a2" lr_law_made_a2) (aCons (eLst (aCons (eVar 0) aNil)) aNil))))) aNil)))
 (sSeq (sExp (eMut mAppend (eKd kLst (eVar 3)) (aCons (eTup (aCons (eErr "BadFrame" ["thing"] [0] (aCons (eVar 0) aNil)) (aCons (eErr "BadFrame" ["thing"] (pick [0] [0]) (aCons (eVar 0) aNil)) (aCons (eLam "law_made_a3" lr_law_made_a3) (aCons (eLst (aCons (eVar 0) aNil)) aNil))))) aNil)))
 (sSeq (sExp (eMut mAppend (eKd kLst (eVar 3)) (aCons (eTup (aCons (eErr "BadFrames" ["index"] [0] (aCons (eVar 0) aNil)) (aCons (eErr "BadFrames" ["index"] (pick [0] [0]) (aCons (eVar 0) aNil)) (aCons (eLam "law_made_a4" lr_law_made_a4) (aCons (eLst (aCons (eVar 0) aNil)) aNil))))) aNil)))
 (sSeq (sExp (eMut mAppend (eKd kLst (eVar 3)) (aCons (eTup (aCons (eErr "BadGauge" ["thing"] [0] (aCons (eVar 0) aNil)) (aCons (eErr "BadGauge" ["thing"] (pick [0] [0]) (aCons (eVar 0) aNil)) (aCons (eLam "law_made_a5" lr_law_made_a5) (aCons (eLst (aCons (eVar 0) aNil)) aNil))))) aNil)))
 (sSeq (sExp (eMut mAppend (eKd kLst (eVar 3)) (aCons (eTup (aCons (eErr "BadGrove" ["thing"] [0] (aCons (eVar 0) aNil)) (aCons (eErr "BadGrove" ["thing"] (pick [0] [0]) (aCons (eVar 0) aNil)) (aCons (eLam "law_made_a6" lr_law_made_a6) (aCons (eLst (aCons (eVar 0) aNil)) aNil))))) aNil)))
 (sSeq (sExp (eMut mAppend (eKd kLst (eVar 3)) (aCons (eTup (aCons (eErr "BadHeight" ["thing"] [0] (aCons (eVar 0) aNil)) (aCons (eErr "BadHeight" ["thing"] (pick [0] [0]) (aCons (eVar 0) aNil)) (aCons (eLam "law_made_a7" lr_law_made_a7) (aCons (eLst (aCons (eVar 0) aNil)) aNil))))) aNil)))
 (sSeq (sExp (eMut mAppend (eKd kLst (eVar 3)) (aCons (eTup (aCons (eErr "BadHigh" ["thing"] [0] (aCons (eVar 0) aNil)) (aCons (eErr "BadHigh" ["thing"] (pick [0] [0]) (aCons (eVar 0) aNil)) (aCons (eLam "law_made_a8" lr_law_made_a8) (aCons (eLst (aCons (eVar 0) aNil)) aNil))))) aNil)))
 (sSeq (sExp (eMut mAppend (eKd kLst (eVar 3)) (aCons (eTup (aCons (eErr "BadHollow" ["thing"] [0] (aCons (eVar 0) aNil)) (aCons (eErr "BadHollow" ["thing"] (pick [0] [0]) (aCons (eVar 0) aNil)) (aCons (eLam "law_made_a9" lr_law_made_a9) (aCons (eLst (aCons (eVar 0) aNil)) aNil))))) aNil)))
 (sSeq (sExp (eMut mAppend (eKd kLst (eVar 3)) (aCons (eTup (aCons (eErr "BadKind" ["thing"] [0] (aCons (eVar 0) aNil)) (aCons (eErr "BadKind" ["thing"] (pick [0] [0]) (aCons (eVar 0) aNil)) (aCons (eLam "law_made_a10" lr_law_made_a10) (aCons (eLst (aCons (eVar 0) aNil)) aNil))))) aNil)))
 (sSeq (sExp (eMut mAppend (eKd kLst (eVar 3)) (aCons (eTup (aCons (eErr "BadLevels" ["thing"] [0] (aCons (eVar 0) aNil)) (aCons (eErr "BadLevels" ["thing"] (pick [0] [0]) (aCons (eVar 0) aNil)) (aCons (eLam "law_made_a11" lr_law_made_a11) (aCons (eLst (aCons (eVar 0) aNil)) aNil))))) aNil)))
 (sSeq (sExp (eMut mAppend (eKd kLst (eVar 3)) (aCons (eTup (aCons (eErr "BadLosses" ["fault"] [0] (aCons (eVar 0) aNil)) (aCons (eErr "BadLosses" ["fault"] (pick [0] [0]) (aCons (eVar 0) aNil)) (aCons (eLam "law_made_a12" lr_law_made_a12) (aCons (eLst (aCons (eVar 0) aNil)) aNil))))) aNil)))
 (sSeq (sExp (eMut mAppend (eKd kLst (eVar 3)) (aCons (eTup (aCons (eErr "BadLot" ["index"] [0] (aCons (eVar 0) aNil)) (aCons (eErr "BadLot" ["index"] (pick [0] [0]) (aCons (eVar 0) aNil)) (aCons (eLam "law_made_a13" lr_law_made_a13) (aCons (eLst (aCons (eVar 0) aNil)) aNil))))) aNil)))
 (sSeq (sExp (eMut mAppend (eKd kLst (eVar 3)) (aCons (eTup (aCons (eErr "BadLots" ["index"] [0] (aCons (eVar 0) aNil)) (aCons (eErr "BadLots" ["index"] (pick [0] [0]) (aCons (eVar 0) aNil)) (aCons (eLam "law_made_a14" lr_law_made_a14) (aCons (eLst (aCons (eVar 0) aNil)) aNil))))) aNil)))
 (sSeq (sExp (eMut mAppend (eKd kLst (eVar 3)) (aCons (eTup (aCons (eErr "BadLow" ["thing"] [0] (aCons (eVar 0) aNil)) (aCons (eErr "BadLow" ["thing"] (pick [0] [0]) (aCons (eVar 0) aNil)) (aCons (eLam "law_made_a15" lr_law_made_a15) (aCons (eLst (aCons (eVar 0) aNil)) aNil))))) aNil)))
 (sSeq (sExp (eMut mAppend (eKd kLst (eVar 3)) (aCons (eTup (aCons (eErr "BadMany" ["thing"] [0] (aCons (eVar 0) aNil)) (aCons (eErr "BadMany" ["thing"] (pick [0] [0]) (aCons (eVar 0) aNil)) (aCons (eLam "law_made_a16" lr_law_made_a16) (aCons (eLst (aCons (eVar 0) aNil)) aNil))))) aNil)))
 (sSeq (sExp (eMut mAppend (eKd kLst (eVar 3)) (aCons (eTup (aCons (eErr "BadMost" ["thing"] [0] (aCons (eVar 0) aNil)) (aCons (eErr "BadMost" ["thing"] (pick [0] [0]) (aCons (eVar 0) aNil)) (aCons (eLam "law_made_a17" lr_law_made_a17) (aCons (eLst (aCons (eVar 0) aNil)) aNil))))) aNil)))
 (sRet (eMv 3)))))))))))))))))))))
def F_law_made_a : Fp := fnP 1 s_law_made_a
def lr_law_made_b0 : LamR := lamAt ("_law_made_b" ++ ".<locals>." ++ "<lambda>") (defBody (top 72)) 0
def F_law_made_b0 : Fp := fnE (eLst (aCons (eErrF erl "thing" (eVar 0)) aNil))
def lr_law_made_b1 : LamR := lamAt ("_law_made_b" ++ ".<locals>." ++ "<lambda>") (defBody (top 72)) 1
def F_law_made_b1 : Fp := fnE (eLst (aCons (eErrF erl "thing" (eVar 0)) aNil))
def lr_law_made_b2 : LamR := lamAt ("_law_made_b" ++ ".<locals>." ++ "<lambda>") (defBody (top 72)) 2
def F_law_made_b2 : Fp := fnE (eLst (aCons (eErrF erl "thing" (eVar 0)) aNil))
def lr_law_made_b3 : LamR := lamAt ("_law_made_b" ++ ".<locals>." ++ "<lambda>") (defBody (top 72)) 3
def F_law_made_b3 : Fp := fnE (eLst (aCons (eErrF erl "index" (eVar 0)) aNil))
def lr_law_made_b4 : LamR := lamAt ("_law_made_b" ++ ".<locals>." ++ "<lambda>") (defBody (top 72)) 4
def F_law_made_b4 : Fp := fnE (eLst (aCons (eErrF erl "thing" (eVar 0)) aNil))
def lr_law_made_b5 : LamR := lamAt ("_law_made_b" ++ ".<locals>." ++ "<lambda>") (defBody (top 72)) 5
def F_law_made_b5 : Fp := fnE (eLst (aCons (eErrF erl "thing" (eVar 0)) aNil))
def lr_law_made_b6 : LamR := lamAt ("_law_made_b" ++ ".<locals>." ++ "<lambda>") (defBody (top 72)) 6
def F_law_made_b6 : Fp := fnE (eLst (aCons (eErrF erl "thing" (eVar 0)) aNil))
def lr_law_made_b7 : LamR := lamAt ("_law_made_b" ++ ".<locals>." ++ "<lambda>") (defBody (top 72)) 7
def F_law_made_b7 : Fp := fnE (eLst (aCons (eErrF erl "index" (eVar 0)) aNil))
def lr_law_made_b8 : LamR := lamAt ("_law_made_b" ++ ".<locals>." ++ "<lambda>") (defBody (top 72)) 8
def F_law_made_b8 : Fp := fnE (eLst (aCons (eErrF erl "thing" (eVar 0)) aNil))
def lr_law_made_b9 : LamR := lamAt ("_law_made_b" ++ ".<locals>." ++ "<lambda>") (defBody (top 72)) 9
def F_law_made_b9 : Fp := fnE (eLst (aCons (eErrF erl "thing" (eVar 0)) aNil))
def lr_law_made_b10 : LamR := lamAt ("_law_made_b" ++ ".<locals>." ++ "<lambda>") (defBody (top 72)) 10
def F_law_made_b10 : Fp := fnE (eLst (aCons (eErrF erl "thing" (eVar 0)) aNil))
def lr_law_made_b11 : LamR := lamAt ("_law_made_b" ++ ".<locals>." ++ "<lambda>") (defBody (top 72)) 11
def F_law_made_b11 : Fp := fnE (eLst (aCons (eErrF erl "thing" (eVar 0)) aNil))
def lr_law_made_b12 : LamR := lamAt ("_law_made_b" ++ ".<locals>." ++ "<lambda>") (defBody (top 72)) 12
def F_law_made_b12 : Fp := fnE (eLst (aCons (eErrF erl "index" (eVar 0)) aNil))
def lr_law_made_b13 : LamR := lamAt ("_law_made_b" ++ ".<locals>." ++ "<lambda>") (defBody (top 72)) 13
def F_law_made_b13 : Fp := fnE (eLst (aCons (eErrF erl "index" (eVar 0)) aNil))
def lr_law_made_b14 : LamR := lamAt ("_law_made_b" ++ ".<locals>." ++ "<lambda>") (defBody (top 72)) 14
def F_law_made_b14 : Fp := fnE (eLst (aCons (eErrF erl "thing" (eVar 0)) aNil))
def lr_law_made_b15 : LamR := lamAt ("_law_made_b" ++ ".<locals>." ++ "<lambda>") (defBody (top 72)) 15
def F_law_made_b15 : Fp := fnE (eLst (aCons (eErrF erl "thing" (eVar 0)) aNil))
def lr_law_made_b16 : LamR := lamAt ("_law_made_b" ++ ".<locals>." ++ "<lambda>") (defBody (top 72)) 16
def F_law_made_b16 : Fp := fnE (eLst (aCons (eErrF erl "index" (eVar 0)) aNil))
def lr_law_made_b17 : LamR := lamAt ("_law_made_b" ++ ".<locals>." ++ "<lambda>") (defBody (top 72)) 17
def F_law_made_b17 : Fp := fnE (eLst (aCons (eErrF erl "thing" (eVar 0)) aNil))
def lt_law_made_b : LTab := [("law_made_b0", lr_law_made_b0, F_law_made_b0), ("law_made_b1", lr_law_made_b1, F_law_made_b1), ("law_made_b2", lr_law_made_b2, F_law_made_b2), ("law_made_b3", lr_law_made_b3, F_law_made_b3), ("law_made_b4", lr_law_made_b4, F_law_made_b4), ("law_made_b5", lr_law_made_b5, F_law_made_b5), ("law_made_b6", lr_law_made_b6, F_law_made_b6), ("law_made_b7", lr_law_made_b7, F_law_made_b7), ("law_made_b8", lr_law_made_b8, F_law_made_b8), ("law_made_b9", lr_law_made_b9, F_law_made_b9), ("law_made_b10", lr_law_made_b10, F_law_made_b10), ("law_made_b11", lr_law_made_b11, F_law_made_b11), ("law_made_b12", lr_law_made_b12, F_law_made_b12), ("law_made_b13", lr_law_made_b13, F_law_made_b13), ("law_made_b14", lr_law_made_b14, F_law_made_b14), ("law_made_b15", lr_law_made_b15, F_law_made_b15), ("law_made_b16", lr_law_made_b16, F_law_made_b16), ("law_made_b17", lr_law_made_b17, F_law_made_b17)]
/-- _law_made_b(x, y, z): slots 0 x, 1 y, 2 z, 3 found -/
def s_law_made_b : S :=
 (sSeq (sAsg (gSet 3) (eLst aNil))
 (sSeq (sExp (eMut mAppend (eKd kLst (eVar 3)) (aCons (eTup (aCons (eErr "BadName" ["thing"] [0] (aCons (eVar 0) aNil)) (aCons (eErr "BadName" ["thing"] (pick [0] [0]) (aCons (eVar 0) aNil)) (aCons (eLam "law_made_b0" lr_law_made_b0) (aCons (eLst (aCons (eVar 0) aNil)) aNil))))) aNil)))
 (sSeq (sExp (eMut mAppend (eKd kLst (eVar 3)) (aCons (eTup (aCons (eErr "BadNest" ["thing"] [0] (aCons (eVar 0) aNil)) (aCons (eErr "BadNest" ["thing"] (pick [0] [0]) (aCons (eVar 0) aNil)) (aCons (eLam "law_made_b1" lr_law_made_b1) (aCons (eLst (aCons (eVar 0) aNil)) aNil))))) aNil)))
 (sSeq (sExp (eMut mAppend (eKd kLst (eVar 3)) (aCons (eTup (aCons (eErr "BadNumber" ["thing"] [0] (aCons (eVar 0) aNil)) (aCons (eErr "BadNumber" ["thing"] (pick [0] [0]) (aCons (eVar 0) aNil)) (aCons (eLam "law_made_b2" lr_law_made_b2) (aCons (eLst (aCons (eVar 0) aNil)) aNil))))) aNil)))
 (sSeq (sExp (eMut mAppend (eKd kLst (eVar 3)) (aCons (eTup (aCons (eErr "BadOrder" ["index"] [0] (aCons (eVar 0) aNil)) (aCons (eErr "BadOrder" ["index"] (pick [0] [0]) (aCons (eVar 0) aNil)) (aCons (eLam "law_made_b3" lr_law_made_b3) (aCons (eLst (aCons (eVar 0) aNil)) aNil))))) aNil)))
 (sSeq (sExp (eMut mAppend (eKd kLst (eVar 3)) (aCons (eTup (aCons (eErr "BadOther" ["thing"] [0] (aCons (eVar 0) aNil)) (aCons (eErr "BadOther" ["thing"] (pick [0] [0]) (aCons (eVar 0) aNil)) (aCons (eLam "law_made_b4" lr_law_made_b4) (aCons (eLst (aCons (eVar 0) aNil)) aNil))))) aNil)))
 (sSeq (sExp (eMut mAppend (eKd kLst (eVar 3)) (aCons (eTup (aCons (eErr "BadParting" ["thing"] [0] (aCons (eVar 0) aNil)) (aCons (eErr "BadParting" ["thing"] (pick [0] [0]) (aCons (eVar 0) aNil)) (aCons (eLam "law_made_b5" lr_law_made_b5) (aCons (eLst (aCons (eVar 0) aNil)) aNil))))) aNil)))
 (sSeq (sExp (eMut mAppend (eKd kLst (eVar 3)) (aCons (eTup (aCons (eErr "BadPicture" ["thing"] [0] (aCons (eVar 0) aNil)) (aCons (eErr "BadPicture" ["thing"] (pick [0] [0]) (aCons (eVar 0) aNil)) (aCons (eLam "law_made_b6" lr_law_made_b6) (aCons (eLst (aCons (eVar 0) aNil)) aNil))))) aNil)))
 (sSeq (sExp (eMut mAppend (eKd kLst (eVar 3)) (aCons (eTup (aCons (eErr "BadPlaces" ["index"] [0] (aCons (eVar 0) aNil)) (aCons (eErr "BadPlaces" ["index"] (pick [0] [0]) (aCons (eVar 0) aNil)) (aCons (eLam "law_made_b7" lr_law_made_b7) (aCons (eLst (aCons (eVar 0) aNil)) aNil))))) aNil)))
 (sSeq (sExp (eMut mAppend (eKd kLst (eVar 3)) (aCons (eTup (aCons (eErr "BadPrice" ["thing"] [0] (aCons (eVar 0) aNil)) (aCons (eErr "BadPrice" ["thing"] (pick [0] [0]) (aCons (eVar 0) aNil)) (aCons (eLam "law_made_b8" lr_law_made_b8) (aCons (eLst (aCons (eVar 0) aNil)) aNil))))) aNil)))
 (sSeq (sExp (eMut mAppend (eKd kLst (eVar 3)) (aCons (eTup (aCons (eErr "BadPriced" ["thing"] [0] (aCons (eVar 0) aNil)) (aCons (eErr "BadPriced" ["thing"] (pick [0] [0]) (aCons (eVar 0) aNil)) (aCons (eLam "law_made_b9" lr_law_made_b9) (aCons (eLst (aCons (eVar 0) aNil)) aNil))))) aNil)))
 (sSeq (sExp (eMut mAppend (eKd kLst (eVar 3)) (aCons (eTup (aCons (eErr "BadPulls" ["thing"] [0] (aCons (eVar 0) aNil)) (aCons (eErr "BadPulls" ["thing"] (pick [0] [0]) (aCons (eVar 0) aNil)) (aCons (eLam "law_made_b10" lr_law_made_b10) (aCons (eLst (aCons (eVar 0) aNil)) aNil))))) aNil)))
 (sSeq (sExp (eMut mAppend (eKd kLst (eVar 3)) (aCons (eTup (aCons (eErr "BadQuestion" ["thing"] [0] (aCons (eVar 0) aNil)) (aCons (eErr "BadQuestion" ["thing"] (pick [0] [0]) (aCons (eVar 0) aNil)) (aCons (eLam "law_made_b11" lr_law_made_b11) (aCons (eLst (aCons (eVar 0) aNil)) aNil))))) aNil)))
 (sSeq (sExp (eMut mAppend (eKd kLst (eVar 3)) (aCons (eTup (aCons (eErr "BadRoots" ["index"] [0] (aCons (eVar 0) aNil)) (aCons (eErr "BadRoots" ["index"] (pick [0] [0]) (aCons (eVar 0) aNil)) (aCons (eLam "law_made_b12" lr_law_made_b12) (aCons (eLst (aCons (eVar 0) aNil)) aNil))))) aNil)))
 (sSeq (sExp (eMut mAppend (eKd kLst (eVar 3)) (aCons (eTup (aCons (eErr "BadRows" ["index"] [0] (aCons (eVar 0) aNil)) (aCons (eErr "BadRows" ["index"] (pick [0] [0]) (aCons (eVar 0) aNil)) (aCons (eLam "law_made_b13" lr_law_made_b13) (aCons (eLst (aCons (eVar 0) aNil)) aNil))))) aNil)))
 (sSeq (sExp (eMut mAppend (eKd kLst (eVar 3)) (aCons (eTup (aCons (eErr "BadSession" ["thing"] [0] (aCons (eVar 0) aNil)) (aCons (eErr "BadSession" ["thing"] (pick [0] [0]) (aCons (eVar 0) aNil)) (aCons (eLam "law_made_b14" lr_law_made_b14) (aCons (eLst (aCons (eVar 0) aNil)) aNil))))) aNil)))
 (sSeq (sExp (eMut mAppend (eKd kLst (eVar 3)) (aCons (eTup (aCons (eErr "BadSharing" ["thing"] [0] (aCons (eVar 0) aNil)) (aCons (eErr "BadSharing" ["thing"] (pick [0] [0]) (aCons (eVar 0) aNil)) (aCons (eLam "law_made_b15" lr_law_made_b15) (aCons (eLst (aCons (eVar 0) aNil)) aNil))))) aNil)))
 (sSeq (sExp (eMut mAppend (eKd kLst (eVar 3)) (aCons (eTup (aCons (eErr "BadSome" ["index"] [0] (aCons (eVar 0) aNil)) (aCons (eErr "BadSome" ["index"] (pick [0] [0]) (aCons (eVar 0) aNil)) (aCons (eLam "law_made_b16" lr_law_made_b16) (aCons (eLst (aCons (eVar 0) aNil)) aNil))))) aNil)))
 (sSeq (sExp (eMut mAppend (eKd kLst (eVar 3)) (aCons (eTup (aCons (eErr "BadSorter" ["thing"] [0] (aCons (eVar 0) aNil)) (aCons (eErr "BadSorter" ["thing"] (pick [0] [0]) (aCons (eVar 0) aNil)) (aCons (eLam "law_made_b17" lr_law_made_b17) (aCons (eLst (aCons (eVar 0) aNil)) aNil))))) aNil)))
 (sRet (eMv 3)))))))))))))))))))))
def F_law_made_b : Fp := fnP 1 s_law_made_b
/-- _law_kinds_d(e): slots 0 e, 1 found -/
def s_law_kinds_d : S :=
 (sSeq (sAsg (gSet 1) (eLst aNil))
 (sSeq (sExp (eMut mExtO (eKd kLst (eVar 1)) (aCons (eLst (aCons (eOp2 (fIsiE erl "NestError") (eVar 0) (eC (.glo "NoPlace"))) (aCons (eOp2 (fIsiE erl "NestError") (eVar 0) (eC (.glo "NoRoot"))) aNil))) aNil)))
 (sSeq (sExp (eMut mExtO (eKd kLst (eVar 1)) (aCons (eLst (aCons (eOp2 (fIsiE erl "NestError") (eVar 0) (eC (.glo "NoTie"))) (aCons (eOp2 (fIsiE erl "NestError") (eVar 0) (eC (.glo "NotFull"))) aNil))) aNil)))
 (sSeq (sExp (eMut mExtO (eKd kLst (eVar 1)) (aCons (eLst (aCons (eOp2 (fIsiE erl "NestError") (eVar 0) (eC (.glo "NotNow"))) (aCons (eOp2 (fIsiE erl "NestError") (eVar 0) (eC (.glo "NotThere"))) aNil))) aNil)))
 (sSeq (sExp (eMut mExtO (eKd kLst (eVar 1)) (aCons (eLst (aCons (eOp2 (fIsiE erl "NestError") (eVar 0) (eC (.glo "NotWatched"))) (aCons (eOp2 (fIsiE erl "NestError") (eVar 0) (eC (.glo "OtherPlaces"))) aNil))) aNil)))
 (sSeq (sExp (eMut mExtO (eKd kLst (eVar 1)) (aCons (eLst (aCons (eOp2 (fIsiE erl "NestError") (eVar 0) (eC (.glo "SamePlace"))) (aCons (eOp2 (fIsiE erl "NestError") (eVar 0) (eC (.glo "SavesNothing"))) aNil))) aNil)))
 (sSeq (sExp (eMut mExtO (eKd kLst (eVar 1)) (aCons (eLst (aCons (eOp2 (fIsiE erl "NestError") (eVar 0) (eC (.glo "WouldChange"))) aNil)) aNil)))
 (sRet (eMv 1)))))))))
def F_law_kinds_d : Fp := fnP 1 s_law_kinds_d
/-- _law_kinds_c(e): slots 0 e, 1 found -/
def s_law_kinds_c : S :=
 (sSeq (sAsg (gSet 1) (eLst aNil))
 (sSeq (sExp (eMut mExtO (eKd kLst (eVar 1)) (aCons (eLst (aCons (eOp2 (fIsiE erl "NestError") (eVar 0) (eC (.glo "BadSplit"))) (aCons (eOp2 (fIsiE erl "NestError") (eVar 0) (eC (.glo "BadTable"))) aNil))) aNil)))
 (sSeq (sExp (eMut mExtO (eKd kLst (eVar 1)) (aCons (eLst (aCons (eOp2 (fIsiE erl "NestError") (eVar 0) (eC (.glo "BadText"))) (aCons (eOp2 (fIsiE erl "NestError") (eVar 0) (eC (.glo "BadTies"))) aNil))) aNil)))
 (sSeq (sExp (eMut mExtO (eKd kLst (eVar 1)) (aCons (eLst (aCons (eOp2 (fIsiE erl "NestError") (eVar 0) (eC (.glo "BadTold"))) (aCons (eOp2 (fIsiE erl "NestError") (eVar 0) (eC (.glo "BadTree"))) aNil))) aNil)))
 (sSeq (sExp (eMut mExtO (eKd kLst (eVar 1)) (aCons (eLst (aCons (eOp2 (fIsiE erl "NestError") (eVar 0) (eC (.glo "BadTriple"))) (aCons (eOp2 (fIsiE erl "NestError") (eVar 0) (eC (.glo "BadTriples"))) aNil))) aNil)))
 (sSeq (sExp (eMut mExtO (eKd kLst (eVar 1)) (aCons (eLst (aCons (eOp2 (fIsiE erl "NestError") (eVar 0) (eC (.glo "BadTwice"))) (aCons (eOp2 (fIsiE erl "NestError") (eVar 0) (eC (.glo "BadWeb"))) aNil))) aNil)))
 (sSeq (sExp (eMut mExtO (eKd kLst (eVar 1)) (aCons (eLst (aCons (eOp2 (fIsiE erl "NestError") (eVar 0) (eC (.glo "Crossing"))) (aCons (eOp2 (fIsiE erl "NestError") (eVar 0) (eC (.glo "InUse"))) aNil))) aNil)))
 (sSeq (sExp (eMut mExtO (eKd kLst (eVar 1)) (aCons (eLst (aCons (eOp2 (fIsiE erl "NestError") (eVar 0) (eC (.glo "IsThere"))) (aCons (eOp2 (fIsiE erl "NestError") (eVar 0) (eC (.glo "IsWatched"))) aNil))) aNil)))
 (sSeq (sExp (eMut mExtO (eKd kLst (eVar 1)) (aCons (eLst (aCons (eOp2 (fIsiE erl "NestError") (eVar 0) (eC (.glo "NoCount"))) (aCons (eOp2 (fIsiE erl "NestError") (eVar 0) (eC (.glo "NoFrame"))) aNil))) aNil)))
 (sSeq (sExp (eMut mExtO (eKd kLst (eVar 1)) (aCons (eLst (aCons (eOp2 (fIsiE erl "NestError") (eVar 0) (eC (.glo "NoLot"))) (aCons (eOp2 (fIsiE erl "NestError") (eVar 0) (eC (.glo "NoParts"))) aNil))) aNil)))
 (sRet (eMv 1))))))))))))
def F_law_kinds_c : Fp := fnP 1 s_law_kinds_c
/-- _law_kinds_a(e): slots 0 e, 1 found -/
def s_law_kinds_a : S :=
 (sSeq (sAsg (gSet 1) (eLst aNil))
 (sSeq (sExp (eMut mExtO (eKd kLst (eVar 1)) (aCons (eLst (aCons (eOp2 (fIsiE erl "NestError") (eVar 0) (eC (.glo "BadDeed"))) (aCons (eOp2 (fIsiE erl "NestError") (eVar 0) (eC (.glo "BadForest"))) aNil))) aNil)))
 (sSeq (sExp (eMut mExtO (eKd kLst (eVar 1)) (aCons (eLst (aCons (eOp2 (fIsiE erl "NestError") (eVar 0) (eC (.glo "BadForm"))) (aCons (eOp2 (fIsiE erl "NestError") (eVar 0) (eC (.glo "BadFrame"))) aNil))) aNil)))
 (sSeq (sExp (eMut mExtO (eKd kLst (eVar 1)) (aCons (eLst (aCons (eOp2 (fIsiE erl "NestError") (eVar 0) (eC (.glo "BadFrames"))) (aCons (eOp2 (fIsiE erl "NestError") (eVar 0) (eC (.glo "BadGauge"))) aNil))) aNil)))
 (sSeq (sExp (eMut mExtO (eKd kLst (eVar 1)) (aCons (eLst (aCons (eOp2 (fIsiE erl "NestError") (eVar 0) (eC (.glo "BadGrove"))) (aCons (eOp2 (fIsiE erl "NestError") (eVar 0) (eC (.glo "BadHeight"))) aNil))) aNil)))
 (sSeq (sExp (eMut mExtO (eKd kLst (eVar 1)) (aCons (eLst (aCons (eOp2 (fIsiE erl "NestError") (eVar 0) (eC (.glo "BadHigh"))) (aCons (eOp2 (fIsiE erl "NestError") (eVar 0) (eC (.glo "BadHollow"))) aNil))) aNil)))
 (sSeq (sExp (eMut mExtO (eKd kLst (eVar 1)) (aCons (eLst (aCons (eOp2 (fIsiE erl "NestError") (eVar 0) (eC (.glo "BadKind"))) (aCons (eOp2 (fIsiE erl "NestError") (eVar 0) (eC (.glo "BadLevels"))) aNil))) aNil)))
 (sSeq (sExp (eMut mExtO (eKd kLst (eVar 1)) (aCons (eLst (aCons (eOp2 (fIsiE erl "NestError") (eVar 0) (eC (.glo "BadLosses"))) (aCons (eOp2 (fIsiE erl "NestError") (eVar 0) (eC (.glo "BadLot"))) aNil))) aNil)))
 (sSeq (sExp (eMut mExtO (eKd kLst (eVar 1)) (aCons (eLst (aCons (eOp2 (fIsiE erl "NestError") (eVar 0) (eC (.glo "BadLots"))) (aCons (eOp2 (fIsiE erl "NestError") (eVar 0) (eC (.glo "BadLow"))) aNil))) aNil)))
 (sSeq (sExp (eMut mExtO (eKd kLst (eVar 1)) (aCons (eLst (aCons (eOp2 (fIsiE erl "NestError") (eVar 0) (eC (.glo "BadMany"))) (aCons (eOp2 (fIsiE erl "NestError") (eVar 0) (eC (.glo "BadMost"))) aNil))) aNil)))
 (sRet (eMv 1))))))))))))
def F_law_kinds_a : Fp := fnP 1 s_law_kinds_a
/-- _law_kinds_b(e): slots 0 e, 1 found -/
def s_law_kinds_b : S :=
 (sSeq (sAsg (gSet 1) (eLst aNil))
 (sSeq (sExp (eMut mExtO (eKd kLst (eVar 1)) (aCons (eLst (aCons (eOp2 (fIsiE erl "NestError") (eVar 0) (eC (.glo "BadName"))) (aCons (eOp2 (fIsiE erl "NestError") (eVar 0) (eC (.glo "BadNest"))) aNil))) aNil)))
 (sSeq (sExp (eMut mExtO (eKd kLst (eVar 1)) (aCons (eLst (aCons (eOp2 (fIsiE erl "NestError") (eVar 0) (eC (.glo "BadNumber"))) (aCons (eOp2 (fIsiE erl "NestError") (eVar 0) (eC (.glo "BadOrder"))) aNil))) aNil)))
 (sSeq (sExp (eMut mExtO (eKd kLst (eVar 1)) (aCons (eLst (aCons (eOp2 (fIsiE erl "NestError") (eVar 0) (eC (.glo "BadOther"))) (aCons (eOp2 (fIsiE erl "NestError") (eVar 0) (eC (.glo "BadParting"))) aNil))) aNil)))
 (sSeq (sExp (eMut mExtO (eKd kLst (eVar 1)) (aCons (eLst (aCons (eOp2 (fIsiE erl "NestError") (eVar 0) (eC (.glo "BadPicture"))) (aCons (eOp2 (fIsiE erl "NestError") (eVar 0) (eC (.glo "BadPlaces"))) aNil))) aNil)))
 (sSeq (sExp (eMut mExtO (eKd kLst (eVar 1)) (aCons (eLst (aCons (eOp2 (fIsiE erl "NestError") (eVar 0) (eC (.glo "BadPrice"))) (aCons (eOp2 (fIsiE erl "NestError") (eVar 0) (eC (.glo "BadPriced"))) aNil))) aNil)))
 (sSeq (sExp (eMut mExtO (eKd kLst (eVar 1)) (aCons (eLst (aCons (eOp2 (fIsiE erl "NestError") (eVar 0) (eC (.glo "BadPulls"))) (aCons (eOp2 (fIsiE erl "NestError") (eVar 0) (eC (.glo "BadQuestion"))) aNil))) aNil)))
 (sSeq (sExp (eMut mExtO (eKd kLst (eVar 1)) (aCons (eLst (aCons (eOp2 (fIsiE erl "NestError") (eVar 0) (eC (.glo "BadRoots"))) (aCons (eOp2 (fIsiE erl "NestError") (eVar 0) (eC (.glo "BadRows"))) aNil))) aNil)))
 (sSeq (sExp (eMut mExtO (eKd kLst (eVar 1)) (aCons (eLst (aCons (eOp2 (fIsiE erl "NestError") (eVar 0) (eC (.glo "BadSession"))) (aCons (eOp2 (fIsiE erl "NestError") (eVar 0) (eC (.glo "BadSharing"))) aNil))) aNil)))
 (sSeq (sExp (eMut mExtO (eKd kLst (eVar 1)) (aCons (eLst (aCons (eOp2 (fIsiE erl "NestError") (eVar 0) (eC (.glo "BadSome"))) (aCons (eOp2 (fIsiE erl "NestError") (eVar 0) (eC (.glo "BadSorter"))) aNil))) aNil)))
 (sRet (eMv 1))))))))))))
def F_law_kinds_b : Fp := fnP 1 s_law_kinds_b
/-- _law_kinds(e): slots 0 e -/
def s_law_kinds : S :=
 (sRet (eOp2 fAdd (eOp2 fAdd (eOp2 fAdd (eCallP F_law_kinds_a (pCons (eVar 0) pNil)) (eCallP F_law_kinds_b (pCons (eVar 0) pNil))) (eCallP F_law_kinds_c (pCons (eVar 0) pNil))) (eCallP F_law_kinds_d (pCons (eVar 0) pNil))))
def F_law_kinds : Fp := fnP 0 s_law_kinds
def lc_law_same_1 (slf : Fp) : Ex :=
 (eLC [2, 3] (qA wZip (aCons (eFrz (eVar 0)) (aCons (eFrz (eVar 1)) aNil))) (gUnp ((gSet 2) :: ((gSet 3) :: []))) IL.tYes (eCallP slf (pCons (eVar 2) (pCons (eVar 3) pNil))))
/-- _law_same(found, due): slots 0 found, 1 due, 2 x, 3 y -/
def s_law_same (slf : Fp) : S :=
 (sSeq (sIf (IL.tB (eOp2 fIs (eVar 1) (eC .non))) (sRet (eOp2 fIs (eVar 0) (eC .non))) sNx)
 (sSeq (sIf (tV (eOp2 (fIsiG glf) (eVar 1) (eC (.ty "str")))) (sRet (eT (IL.tAnd (IL.tB (eOp2 (fIsiG glf) (eVar 0) (eC (.ty "str")))) (IL.tB (eOp2 fEq (eVar 0) (eVar 1)))))) sNx)
 (sSeq (sIf (tV (eOp2 (fIsiG glf) (eVar 1) (eTup (aCons (eC (.ty "list")) (aCons (eC (.ty "tuple")) aNil))))) (sSeq (sIf (IL.tOr (IL.tB (eOp2 fNe (eOp2 (fIsiG glf) (eVar 0) (eC (.ty "list"))) (eOp2 (fIsiG glf) (eVar 1) (eC (.ty "list"))))) (IL.tB (eOp2 fNe (eOp2 (fIsiG glf) (eVar 0) (eC (.ty "tuple"))) (eOp2 (fIsiG glf) (eVar 1) (eC (.ty "tuple")))))) (sRet (eC (.bl false))) sNx)
 (sRet (eT (IL.tAnd (IL.tB (eOp2 fEq (eOp1 fLen (eVar 0)) (eOp1 fLen (eVar 1)))) (IL.tB (eOp1 fAll (lc_law_same_1 slf))))))) sNx)
 (sSeq (sIf (tV (eOp2 (fIsiG glf) (eVar 1) (eC (.ty "dict")))) (sRet (eT (IL.tAnd (IL.tB (eOp2 (fIsiG glf) (eVar 0) (eC (.ty "dict")))) (IL.tB (eCallP slf (pCons (eOp1 fItemsL (eVar 0)) (pCons (eOp1 fItemsL (eVar 1)) pNil))))))) sNx)
 (sRet (eT (IL.tAnd (IL.tB (eOp2 (fIsiG glf) (eVar 0) (eC (.ty "int")))) (IL.tAnd (IL.tB (eOp2 fEq (eOp2 (fIsiG glf) (eVar 0) (eC (.ty "bool"))) (eOp2 (fIsiG glf) (eVar 1) (eC (.ty "bool"))))) (IL.tB (eOp2 fEq (eVar 0) (eVar 1)))))))))))
def F_law_same : Nat → Fp
  | 0 => fun _ => .bad
  | n + 1 => fnP 2 (s_law_same (F_law_same n))
/-- _law_are_these(found, due): slots 0 found, 1 due -/
def s_law_are_these : S :=
 (sRet (eCallP (F_law_same 16) (pCons (eVar 0) (pCons (eVar 1) pNil))))
def F_law_are_these : Fp := fnP 0 s_law_are_these
def lc_law_is_own_1 : Ex :=
 (eLC [2] (qA wRange1 (aCons (eC (.int 65)) aNil)) (gSet 2) IL.tYes (eOp2 fEq (eVar 2) (eVar 1)))
/-- _law_is_own(e, at): slots 0 e, 1 at, 2 k -/
def s_law_is_own : S :=
 (sSeq (sIf (IL.tOr (IL.tNot (tV (eOp2 (fIsiE erl "NestError") (eVar 0) (eC (.glo "NestError"))))) (IL.tNot (tV (eOp2 (fIsiE erl "NestError") (eVar 0) (eC (.ty "ValueError")))))) (sRet (eC (.bl false))) sNx)
 (sSeq (sIf (IL.tOr (tV (eOp2 (fIsiE erl "NestError") (eVar 0) (eC (.ty "LookupError")))) (IL.tOr (tV (eOp2 (fIsiE erl "NestError") (eVar 0) (eC (.ty "ArithmeticError")))) (tV (eOp2 (fIsiE erl "NestError") (eVar 0) (eC (.ty "TypeError")))))) (sRet (eC (.bl false))) sNx)
 (sRet (eOp2 fEq (eCallP F_law_kinds (pCons (eVar 0) pNil)) lc_law_is_own_1))))
def F_law_is_own : Fp := fnP 1 s_law_is_own
def lt_law : LTab := lt_law_made_a ++ lt_law_made_b ++ lt_law_made_c ++ lt_law_made_d
def fb_law_2 : S :=
 (sSeq (sIf (IL.tOr (IL.tNot (tV (eCallP F_law_is_own (pCons (eVar 9) (pCons (eVar 8) pNil))))) (IL.tNot (tV (eCallP F_law_is_own (pCons (eVar 10) (pCons (eVar 8) pNil)))))) (sRet (eC (.bl false))) sNx)
 (sIf (IL.tOr (IL.tNot (tV (eCallP F_law_are_these (pCons (eCallL lt_law 11 (pCons (eVar 9) pNil)) (pCons (eVar 12) pNil))))) (IL.tNot (tV (eCallP F_law_are_these (pCons (eCallL lt_law 11 (pCons (eVar 10) pNil)) (pCons (eVar 12) pNil)))))) (sRet (eC (.bl false))) sNx))
def fo_law_2 : S :=
 (sFor (qA wEnum2 (aCons (eFrz (eVar 7)) aNil)) (gUnp ((gSet 8) :: ((gUnp ((gSet 9) :: ((gSet 10) :: ((gSet 11) :: ((gSet 12) :: []))))) :: []))) fb_law_2)
def fb_law_1 : S :=
 (sSeq (sAsg (gUnp ((gSet 4) :: ((gSet 5) :: ((gSet 6) :: [])))) (eFrz (eOp3 fSl (eCallM F_law_mixed (eVar 1) (pCons (eVar 2) pNil)) (eC .non) (eInt (eC (.int 3))))))
 (sSeq (sAsg (gSet 7) (eOp2 fAdd (eOp2 fAdd (eCallP F_law_made_a (pCons (eVar 4) (pCons (eVar 5) (pCons (eVar 6) pNil)))) (eCallP F_law_made_b (pCons (eVar 4) (pCons (eVar 5) (pCons (eVar 6) pNil))))) (eCallP F_law_made_c (pCons (eVar 4) (pCons (eVar 5) (pCons (eVar 6) pNil))))))
 (sSeq (sExp (eMut mExtO (eKd kLst (eVar 7)) (aCons (eCallP F_law_made_d (pCons (eVar 4) (pCons (eVar 5) (pCons (eVar 6) pNil)))) aNil)))
 fo_law_2)))
def fo_law_1 : S :=
 (sFor (qA wRange1 (aCons (eC (.int 2)) aNil)) (gSet 3) fb_law_1)
def fb_law_3 : S :=
 (sIf (IL.tOr (IL.tNot (tV (eCallP F_law_are_these (pCons (eCallL lt_law 11 (pCons (eVar 9) pNil)) (pCons (eVar 12) pNil))))) (IL.tNot (tV (eCallP F_law_are_these (pCons (eCallL lt_law 11 (pCons (eVar 10) pNil)) (pCons (eVar 12) pNil)))))) (sRet (eC (.bl false))) sNx)
def fo_law_3 : S :=
 (sFor (q1 (eFrz (eVar 7))) (gUnp ((gSet 9) :: ((gSet 10) :: ((gSet 11) :: ((gSet 12) :: []))))) fb_law_3)
/-- law(script): slots 0 script, 1 stream, 2 some, 3 turn, 4 x, 5 y, 6 z, 7 made, 8 at, 9 mine, 10 twin, 11 field, 12 due, 13 held, 14 base -/
def s_law : S :=
 (sSeq (sAsg (gSet 1) (eCallP F_law_start (pCons (eVar 0) pNil)))
 (sSeq (sAsg (gSet 2) (eFrz (eLst (aCons (eC .non) (aCons (eC (.int 5)) (aCons (eOp1 fNeg (eC (.int 1))) (aCons (eC (.bl true)) (aCons (eC (.str "a")) (aCons (eC (.str "")) (aCons (eLst (aCons (eC (.int 1)) (aCons (eC (.str "b")) aNil))) (aCons (eTup (aCons (eC (.int 2)) (aCons (eC .non) aNil))) (aCons (eDsp1 (eC (.str "a")) (eC (.int 1))) (aCons (eLst (aCons (eLst (aCons (eC (.str "x")) aNil)) aNil)) (aCons (eOp2 fPow (eC (.int 10)) (eC (.int 30))) (aCons (eTup (aCons (eC (.str "s")) (aCons (eC (.int 3)) aNil))) (aCons (eC (.bl false)) (aCons (eC (.int 0)) (aCons (eC (.int 1)) aNil))))))))))))))))))
 (sSeq fo_law_1
 (sSeq (sAsg (gSet 13) (eLst (aCons (eC (.str "v")) aNil)))
 (sSeq (sCel 13
 (sSeq (sAsg (gSet 7) (eOp2 fAdd (eOp2 fAdd (eCallP F_law_made_a (pCons (eVar 13) (pCons (eVar 13) (pCons (eVar 13) pNil)))) (eCallP F_law_made_b (pCons (eVar 13) (pCons (eVar 13) (pCons (eVar 13) pNil))))) (eCallP F_law_made_c (pCons (eVar 13) (pCons (eVar 13) (pCons (eVar 13) pNil))))))
 (sExp (eMut mExtO (eKd kLst (eVar 7)) (aCons (eCallP F_law_made_d (pCons (eVar 13) (pCons (eVar 13) (pCons (eVar 13) pNil)))) aNil))))
 (.str "w"))
 (sSeq fo_law_3
 (sSeq (sAsg (gSet 14) (eFrz (eErr0 "NestError")))
 (sRet (eT (IL.tAnd (IL.tB (eOp2 (fIsiE erl "NestError") (eVar 14) (eC (.ty "ValueError")))) (IL.tB (eOp2 fNotIn (eC (.bl true)) (eCallP F_law_kinds (pCons (eVar 14) pNil))))))))))))))
def F_law : Fp := fnP 14 s_law
end K00
end
end
section
set_option linter.all false
set_option autoImplicit false
set_option maxHeartbeats 400000
namespace K00M
open PySem PySem.W L2 IL IS K00
mutual
theorem frz_fz : ∀ {d : D}, d.fz = true → d.frz = d
  | .cel a xs, h => by simp only [D.fz] at h; simp [D.frz, frzs_fz h]
  | .err C fs xs, h => by simp only [D.fz] at h; simp [D.frz, frzs_fz h]
  | .lst m xs, h => by
    simp only [D.fz, Bool.and_eq_true, Bool.not_eq_true'] at h
    simp [D.frz, h.1, frzs_fz h.2]
  | .tup xs, h => by simp only [D.fz] at h; simp [D.frz, frzs_fz h]
  | .dct m t ks vs, h => by
    simp only [D.fz, Bool.and_eq_true, Bool.not_eq_true'] at h
    simp [D.frz, h.1, frzs_fz h.2]
  | .ins m C fs vs, h => by
    simp only [D.fz, Bool.and_eq_true, Bool.not_eq_true'] at h
    simp [D.frz, h.1, frzs_fz h.2]
  | .non, _ => rfl | .bl _, _ => rfl | .int _, _ => rfl | .str _, _ => rfl | .ty _, _ => rfl | .glo _, _ => rfl | .scr _, _ => rfl | .lam _ _, _ => rfl
theorem frzs_fz : ∀ {ds : List D}, fzs ds = true → frzs ds = ds
  | [], _ => rfl
  | d :: ds, h => by
    simp only [fzs, Bool.and_eq_true] at h
    simp [frzs, frz_fz h.1, frzs_fz h.2]
end
mutual
theorem fz_frz : ∀ (d : D), d.frz.fz = true
  | .cel a xs => by simp [D.frz, D.fz, fzs_frz xs]
  | .err C fs xs => by simp [D.frz, D.fz, fzs_frz xs]
  | .lst m xs => by simp [D.frz, D.fz, fzs_frz xs]
  | .tup xs => by simp [D.frz, D.fz, fzs_frz xs]
  | .dct m t ks vs => by simp [D.frz, D.fz, fzs_frz vs]
  | .ins m C fs vs => by simp [D.frz, D.fz, fzs_frz vs]
  | .non => rfl | .bl _ => rfl | .int _ => rfl | .str _ => rfl | .ty _ => rfl | .glo _ => rfl | .scr _ => rfl | .lam _ _ => rfl
theorem fzs_frz : ∀ (ds : List D), fzs (frzs ds) = true
  | [] => rfl
  | d :: ds => by simp [frzs, fzs, fz_frz d, fzs_frz ds]
end
theorem fzs_iff : ∀ {ds : List D}, fzs ds = true ↔ ∀ d ∈ ds, d.fz = true
  | [] => by simp [fzs]
  | d :: ds => by simp [fzs, fzs_iff (ds := ds)]
@[simp] theorem fzs_append (a b : List D) : fzs (a ++ b) = (fzs a && fzs b) := by induction a <;> simp_all [fzs, Bool.and_assoc]
@[simp] theorem fzs_strs (xs : List Str) : fzs (xs.map D.str) = true := by rw [fzs_iff]; simp [D.fz]
@[simp] theorem frzs_strs (xs : List Str) : frzs (xs.map D.str) = xs.map D.str := frzs_fz (fzs_strs xs)
theorem frzs_map' (ds : List D) : frzs ds = ds.map D.frz := by induction ds <;> simp_all [frzs]

/-! ### evaluation, step by step -/
def Ev (e : Ex) (ρ : Ro) (d : D) (ρ' : Ro) : Prop := ∃ l st, e ρ = .ok d l st ρ' ∧ (l = none ∨ d.fz = true)
def EvT (t : IL.T) (ρ : Ro) (b : Bool) (ρ' : Ro) : Prop := ∃ st, t ρ = .ok b st ρ'
def EvA (a : A) (ρ : Ro) (ds : List D) (ρ' : Ro) : Prop := ∃ st, a ρ = .ok ds st ρ'
def EvP (p : Pe) (ρ : Ro) (ds : List D) (ρ' : Ro) : Prop := ∃ st, p ρ = .ok ds [] st ρ'
section
variable {e a b c : Ex} {t u : IL.T} {ar : A} {p : Pe} {ρ ρ1 ρ2 ρ3 ρ' : Ro} {d x y z : D} {i j : Nat} {ds : List D} {q q' : Bool} {s s' : S}
theorem Ev.own (h : Ev e ρ d ρ') : ∃ st, (e ρ).own = .ok d none st ρ' := by
  obtain ⟨l, st, h1, h2⟩ := h
  rw [h1]
  cases l with
  | none => exact ⟨st, rfl⟩
  | some l =>
    rcases h2 with h2 | h2
    · cases h2
    · exact ⟨st, by simp [R.own, h2]⟩
theorem ev_var (h : ρ[i]? = some (some d)) (hz : d.fz = true) : Ev (eVar i) ρ d ρ := ⟨some (i, []), true, by simp [eVar, h], .inr hz⟩
theorem ev_mv (h : ρ[i]? = some (some d)) : Ev (eMv i) ρ d (ρ.set i none) := ⟨none, false, by simp [eMv, h], .inl rfl⟩
theorem ev_c : Ev (eC d) ρ d ρ := ⟨none, true, rfl, .inl rfl⟩
theorem ev_frz (h : Ev e ρ d ρ') : Ev (eFrz e) ρ d.frz ρ' := by
  obtain ⟨st, h⟩ := h.own
  exact ⟨none, st, by simp [eFrz, h], .inl rfl⟩
/-- a variable that is frozen where it stands -/
theorem ev_frzv (h : ρ[i]? = some (some d)) : Ev (eFrz (eVar i)) ρ d.frz (if d.fz then ρ else ρ.set i (some d.frz)) := by
  by_cases hz : d.fz = true
  · rw [if_pos hz]; exact ev_frz (ev_var h hz)
  · rw [if_neg hz]
    exact ⟨none, false, by simp [eFrz, eVar, h, R.own, hz, Ro.put, D.put, frz_fz (fz_frz d)], .inl rfl⟩
theorem evp_nil : EvP pNil ρ [] ρ := ⟨true, rfl⟩
theorem evp_cons (h : Ev e ρ d ρ1) (h2 : EvP p ρ1 ds ρ2) : EvP (pCons e p) ρ (d :: ds) ρ2 := by
  obtain ⟨l, st, h1, hl⟩ := h
  obtain ⟨s2, h2⟩ := h2
  refine ⟨st && s2, ?_⟩
  unfold pCons
  rw [h1]
  simp only [h2]
  cases l with
  | none => rfl
  | some l =>
    rcases hl with hl | hl
    · cases hl
    · simp [hl]
theorem eva_nil : EvA aNil ρ [] ρ := ⟨true, rfl⟩
theorem eva_cons (h : Ev e ρ d ρ1) (h2 : EvA ar ρ1 ds ρ2) : EvA (aCons e ar) ρ (d :: ds) ρ2 := by
  obtain ⟨st, h⟩ := h.own
  obtain ⟨s2, h2⟩ := h2
  exact ⟨st && s2, by simp [aCons, h, h2]⟩
theorem ev_tup (h : EvA ar ρ ds ρ') : Ev (eTup ar) ρ (.tup ds) ρ' := by
  obtain ⟨st, h⟩ := h
  exact ⟨none, st, by simp [eTup, h], .inl rfl⟩
theorem ev_lst (h : EvA ar ρ ds ρ') : Ev (eLst ar) ρ (.lst true ds) ρ' := by
  obtain ⟨st, h⟩ := h
  exact ⟨none, st, by simp [eLst, h], .inl rfl⟩
theorem ev_call {f : Fp} (h : EvP p ρ ds ρ') (hf : f (frzs ds) = .ret d) : Ev (eCallP f p) ρ d ρ' := by
  obtain ⟨st, h⟩ := h
  exact ⟨none, st, by simp [eCallP, h, hf], .inl rfl⟩
theorem ev_o1 {f : D → Option D} (h : Ev a ρ x ρ') (hf : f x.frz = some z) : Ev (eOp1 f a) ρ z ρ' := ev_call (evp_cons h evp_nil) (by simp [fl, g1, frzs, hf])
theorem ev_o2 {f : D → D → Option D} (h : Ev a ρ x ρ1) (h2 : Ev b ρ1 y ρ2) (hf : f x.frz y.frz = some z) : Ev (eOp2 f a b) ρ z ρ2 := ev_call (evp_cons h (evp_cons h2 evp_nil)) (by simp [fl, g2, frzs, hf])
theorem ev_o3 {f : D → D → D → Option D} {w : D} (h : Ev a ρ x ρ1) (h2 : Ev b ρ1 y ρ2) (h3 : Ev c ρ2 w ρ3) (hf : f x.frz y.frz w.frz = some z) : Ev (eOp3 f a b c) ρ z ρ3 := ev_call (evp_cons h (evp_cons h2 (evp_cons h3 evp_nil))) (by simp [fl, g3, frzs, hf])
theorem ev_int {k : Int} (h : Ev e ρ (.int k) ρ') : Ev (eInt e) ρ (.int k) ρ' := by
  obtain ⟨l, st, h1, hl⟩ := h
  exact ⟨l, st, by simp [eInt, h1], hl⟩
theorem ev_if (h : EvT t ρ q ρ1) (h2 : Ev (if q then a else b) ρ1 d ρ2) : Ev (eIf t a b) ρ d ρ2 := by
  obtain ⟨s1, h⟩ := h
  obtain ⟨s2, h2⟩ := h2.own
  refine ⟨none, s1 && s2, ?_, .inl rfl⟩
  unfold eIf
  rw [h]
  have e : (if q = true then a ρ1 else b ρ1) = (if q = true then a else b) ρ1 := by split <;> rfl
  simp only [e, h2]
theorem ev_T (h : EvT t ρ q ρ') : Ev (eT t) ρ (.bl q) ρ' := by
  obtain ⟨s1, h⟩ := h
  exact ⟨none, s1, by simp [eT, h], .inl rfl⟩
theorem evt_B (h : Ev e ρ (.bl q) ρ') : EvT (IL.tB e) ρ q ρ' := by
  obtain ⟨l, st, h1, hl⟩ := h
  exact ⟨st, by simp [IL.tB, h1]⟩
theorem evt_V (h : Ev e ρ d ρ') (hd : d.truth = some q) : EvT (tV e) ρ q ρ' := by
  obtain ⟨l, st, h1, hl⟩ := h
  exact ⟨st, by simp [tV, h1, hd]⟩
theorem evt_not (h : EvT t ρ q ρ') : EvT (IL.tNot t) ρ (!q) ρ' := by
  obtain ⟨s1, h⟩ := h
  exact ⟨s1, by simp [IL.tNot, h]⟩
/-- without a change of the slots -/
theorem evt_and0 {q2 : Bool} (h : EvT t ρ q ρ) (h2 : q = true → EvT u ρ q2 ρ) : EvT (IL.tAnd t u) ρ (q && q2) ρ := by
  obtain ⟨s1, h⟩ := h
  cases q with
  | true =>
    obtain ⟨s2, h2⟩ := h2 rfl
    exact ⟨s1 && s2, by simp [IL.tAnd, h, h2]⟩
  | false => exact ⟨s1, by simp [IL.tAnd, h]⟩
theorem evt_or (h : EvT t ρ false ρ1) (h2 : EvT u ρ1 q ρ2) : EvT (IL.tOr t u) ρ q ρ2 := by
  obtain ⟨s1, h⟩ := h
  obtain ⟨s2, h2⟩ := h2
  exact ⟨s1 && s2, by simp [IL.tOr, h, h2]⟩
theorem ix_c : ∃ l, eC d ρ = .ok d l true ρ := ⟨none, rfl⟩
/-! ### statements -/
theorem s_seq {r : SR} (h : s ρ = .nx ρ1) (h2 : s' ρ1 = r) : sSeq s s' ρ = r := by simp [sSeq, h, h2]
theorem s_seqR {r : D} (h : s ρ = .rt r ρ1) : sSeq s s' ρ = .rt r ρ1 := by simp [sSeq, h]
theorem s_asg (h : Ev e ρ d ρ') (hi : i < ρ'.length := by simp) : sAsg (gSet i) e ρ = .nx (ρ'.set i (some d)) := by
  obtain ⟨st, h⟩ := h.own
  simp [sAsg, h, gSet, hi]
theorem s_asgG {g : G} (h : Ev e ρ d ρ1) (hg : g d ρ1 = some ρ2) : sAsg g e ρ = .nx ρ2 := by
  obtain ⟨st, h⟩ := h.own
  simp [sAsg, h, hg]
theorem s_ret (h : Ev e ρ d ρ') : sRet e ρ = .rt d ρ' := by
  obtain ⟨st, h⟩ := h.own
  simp [sRet, h]
theorem s_exp (h : Ev e ρ d ρ') : sExp e ρ = .nx ρ' := by
  obtain ⟨l, st, h, _⟩ := h
  simp [sExp, h]
theorem s_if {r : SR} (h : EvT t ρ q ρ1) (h2 : (if q then s else s') ρ1 = r) : sIf t s s' ρ = r := by
  obtain ⟨s1, h⟩ := h
  simp only [sIf, h]
  rw [← h2]
  split <;> rfl
theorem s_ifF {r : SR} (h : EvT t ρ false ρ1) (h2 : s' ρ1 = r) : sIf t s s' ρ = r := s_if h h2
theorem fnP_rt {n : Nat} {r : D} (h : s (ds.map some ++ List.replicate n none) = .rt r ρ') : fnP n s ds = .ret r := by simp [fnP, h]
theorem fnM_rt {n : Nat} {r io io' : D} (h : s (some io :: (ds.map some ++ List.replicate n none)) = .rt r (some io' :: ρ')) : fnM n s io ds = .ret r io' := by simp [fnM, h]
/-- it returns d -/
def Rt (s : S) (ρ : Ro) (d : D) : Prop := ∃ ρ', s ρ = .rt d ρ'
theorem r_ret (h : Ev e ρ d ρ') : Rt (sRet e) ρ d := ⟨_, s_ret h⟩
theorem r_seq (h : s ρ = .nx ρ1) (h2 : Rt s' ρ1 d) : Rt (sSeq s s') ρ d := by
  obtain ⟨ρ', h2⟩ := h2
  exact ⟨ρ', s_seq h h2⟩
theorem r_seqR (h : Rt s ρ d) : Rt (sSeq s s') ρ d := by
  obtain ⟨ρ', h⟩ := h
  exact ⟨ρ', s_seqR h⟩
theorem r_if (h : EvT t ρ q ρ1) (h2 : Rt (if q then s else s') ρ1 d) : Rt (sIf t s s') ρ d := by
  obtain ⟨ρ', h2⟩ := h2
  refine ⟨ρ', s_if (r := .rt d ρ') h ?_⟩
  rw [← h2]
theorem fnP_r {n : Nat} {r : D} (h : Rt s (ds.map some ++ List.replicate n none) r) : fnP n s ds = .ret r := by
  obtain ⟨ρ', h⟩ := h
  exact fnP_rt h
/-- .. and the first slot holds io then -/
def RtM (s : S) (ρ : Ro) (d io : D) : Prop := ∃ r, s ρ = .rt d (some io :: r)
theorem m_ret {io : D} {r : Ro} (h : Ev e ρ d (some io :: r)) : RtM (sRet e) ρ d io := ⟨r, s_ret h⟩
theorem m_seq {io : D} (h : s ρ = .nx ρ1) (h2 : RtM s' ρ1 d io) : RtM (sSeq s s') ρ d io := by
  obtain ⟨ρ', h2⟩ := h2
  exact ⟨ρ', s_seq h h2⟩
theorem m_seqR {io : D} (h : RtM s ρ d io) : RtM (sSeq s s') ρ d io := by
  obtain ⟨ρ', h⟩ := h
  exact ⟨ρ', s_seqR h⟩
theorem m_if {io : D} (h : EvT t ρ q ρ1) (h2 : RtM (if q then s else s') ρ1 d io) : RtM (sIf t s s') ρ d io := by
  obtain ⟨ρ', h2⟩ := h2
  refine ⟨ρ', s_if (r := .rt d (some io :: ρ')) h ?_⟩
  rw [← h2]
theorem fnM_r {n : Nat} {r io io' : D} (h : RtM s (some io :: (ds.map some ++ List.replicate n none)) r io') : fnM n s io ds = .ret r io' := by
  obtain ⟨ρ', h⟩ := h
  exact fnM_rt h
/-! ### what is walked -/
theorem q_1 {xs : List D} (h : Ev e ρ d ρ') (hm : mem d = some xs) : q1 e ρ = .ok xs ρ' := by
  obtain ⟨st, h⟩ := h.own
  simp [q1, qOf, h, hm]
theorem q_A {f : List D → Option (List D)} {xs : List D} (h : EvA ar ρ ds ρ') (hz : fzs ds = true) (hm : f ds = some xs) : qA f ar ρ = .ok xs ρ' := by
  obtain ⟨st, h⟩ := h
  simp [qA, h, hz, hm]
/-! ### comprehensions -/
theorem evt_yes : EvT IL.tYes ρ true ρ := ⟨true, rfl⟩
/-- .. that changes slots: I holds at each turn -/
theorem comp_inv {vs : List Nat} {g : G} (I : Nat → List D → Ro → Prop) : ∀ (ds acc : List D) (ρ : Ro) (k : Nat), (∀ i d acc ρ, ds[i]? = some d → I (k + i) acc ρ → ∃ ρ1, g d ρ = some ρ1 ∧ ∃ y ρ2, Ev e ρ1 y ρ2 ∧ I (k + i + 1) (acc ++ [y]) (wipeR ρ2 vs)) → I k acc ρ → ∃ ys ρ', compL vs g IL.tYes e acc ds ρ = .ok ys ρ' ∧ I (k + ds.length) ys ρ'
  | [], acc, ρ, k, _, h => ⟨acc, ρ, rfl, h⟩
  | d :: ds, acc, ρ, k, H, h => by
    obtain ⟨ρ1, h1, y, ρ2, h2, h3⟩ := H 0 d acc ρ rfl h
    obtain ⟨st', h5⟩ := h2.own
    obtain ⟨ys, ρ', h6, h7⟩ := comp_inv I ds (acc ++ [y]) (wipeR ρ2 vs) (k + 1) (fun i d acc ρ hi h => by
      have := H (i + 1) d acc ρ (by simpa using hi) (by rwa [show k + (i + 1) = k + 1 + i by omega])
      rwa [show k + (i + 1) + 1 = k + 1 + i + 1 by omega] at this) h3
    refine ⟨ys, ρ', ?_, by rwa [show k + (d :: ds).length = k + 1 + ds.length by simp; omega]⟩
    unfold compL
    rw [h1]
    simp only [IL.tYes, h5]
    exact h6
/-! ### loops -/
theorem for_inv {g : G} {b : S} (I : Nat → Ro → Prop) : ∀ (ds : List D) (ρ : Ro) (k : Nat), (∀ i d ρ, ds[i]? = some d → I (k + i) ρ → ∃ ρ1, g d ρ = some ρ1 ∧ ∃ ρ2, b ρ1 = .nx ρ2 ∧ I (k + i + 1) ρ2) → I k ρ → ∃ ρ', forL g b ds ρ = .nx ρ' ∧ I (k + ds.length) ρ'
  | [], ρ, k, _, h => ⟨ρ, rfl, h⟩
  | d :: ds, ρ, k, H, h => by
    obtain ⟨ρ1, h1, ρ2, h2, h3⟩ := H 0 d ρ rfl h
    obtain ⟨ρ', h6, h7⟩ := for_inv I ds ρ2 (k + 1) (fun i d ρ hi h => by
      have := H (i + 1) d ρ (by simpa using hi) (by rwa [show k + (i + 1) = k + 1 + i by omega])
      rwa [show k + (i + 1) + 1 = k + 1 + i + 1 by omega] at this) h3
    refine ⟨ρ', ?_, by rwa [show k + (d :: ds).length = k + 1 + ds.length by simp; omega]⟩
    unfold forL
    rw [h1]
    simp only [h2]
    exact h6
theorem s_for {qq : Sq} {g : G} {b : S} {r : SR} (hq : qq ρ = .ok ds ρ1) (h : forL g b ds ρ1 = r) : sFor qq g b ρ = r := by simp [sFor, hq, h]
/-! ### calls that change their first argument (slot 0) -/
theorem ev_callM {f : Fm} {io io' : D} {r : Ro} (hi : ρ[i]? = some (some io)) (h : EvP p ρ ds ρ1) (h1 : ρ1[i]? = some (some x)) (hf : f x (frzs ds) = .ret d io') (hz : (io'.fz || !x.fz) = true) (hr : ρ1.set i (some io') = r) : Ev (eCallM f (eVar i) p) ρ d r := by
  obtain ⟨st, h⟩ := h
  refine ⟨none, false, ?_, .inl rfl⟩
  unfold eCallM
  simp only [eVar, hi, h, List.isEmpty_nil, if_true, Bool.or_true, Ro.get, h1, D.get, hf, hz, Ro.put, D.put, hr]
theorem ev_mut {f : D → List D → Option (D × D)} {kd : D → Bool} {x' : D} (hi : ρ[i]? = some (some d)) (hk : kd d = true) (h : EvA ar ρ ds ρ1) (h1 : ρ1[i]? = some (some x)) (hf : f x ds = some (x', z)) : Ev (eMut f (eKd kd (eVar i)) ar) ρ z (ρ1.set i (some x')) := by
  obtain ⟨st, h⟩ := h
  refine ⟨none, false, ?_, .inl rfl⟩
  unfold eMut
  simp only [eKd, eVar, hi, hk, if_true, h, List.isEmpty_nil, Bool.or_true, Ro.get, h1, D.get, hf, Ro.put, D.put]
/-- x[k] = v on a slot's dict or list -/
theorem s_put {f : D → D → D → Option D} {k v x' : D} (h : Ev c ρ v ρ1) (h1 : ρ1[i]? = some (some x)) (hi : ∃ l, b ρ1 = .ok k l true ρ1) (hk : k.fz = true) (hf : f x k v = some x') : sPut f (eVar i) b c ρ = .nx (ρ1.set i (some x')) := by
  obtain ⟨st, h⟩ := h.own
  obtain ⟨l, hi⟩ := hi
  unfold sPut
  rw [h]
  simp only [eVar, h1, hi, Bool.true_or, Bool.true_and, hk, if_true, Ro.get, D.get, hf, Ro.put, D.put]
/-! ### arguments that are owned, an answer that is an atom -/
def EvH (p : Pe) (ρ : Ro) (ds : List D) (ρ' : Ro) : Prop := ∃ is st, p ρ = .ok ds is st ρ'
theorem evh_nil : EvH pNil ρ [] ρ := ⟨[], true, rfl⟩
theorem evh_var (h : ρ[i]? = some (some x)) (h2 : EvH p ρ ds ρ2) (h3 : ρ2[i]? = some (some x)) : EvH (pCons (eVar i) p) ρ (x :: ds) ρ2 := by
  obtain ⟨is, s2, h2⟩ := h2
  by_cases hz : x.fz = true
  · exact ⟨is, true && s2, by unfold pCons; simp [eVar, h, h2, hz]⟩
  · exact ⟨i :: is, true && s2, by unfold pCons; simp [eVar, h, h2, hz, Ro.get, h3, D.get]⟩
theorem ev_callH {f : Fp} (h : EvH p ρ ds ρ') (hf : f (frzs ds) = .ret d) (hh : d.hot = true) : Ev (eCallP f p) ρ d ρ' := by
  obtain ⟨is, st, h⟩ := h
  exact ⟨none, st, by simp [eCallP, h, hf, hh], .inl rfl⟩
theorem ev_o1H {f : D → Option D} (h : EvH (pCons a pNil) ρ [x] ρ') (hf : f x.frz = some z) (hh : z.hot = true) : Ev (eOp1 f a) ρ z ρ' := ev_callH h (by simp [fl, g1, frzs, hf]) hh
end
section
variable {α : Type} {e : Ex} {t : IL.T} {ρ ρ1 ρ0 ρ' : Ro} {g : G} {b : S} {qq : Sq} {vs : List Nat} {L : List α}
/-! ### comprehensions and loops over what is made of the items of L -/
theorem comp_pureα (mk : α → D) (f : α → Bool) (h : α → D) : ∀ (L : List α) (acc : List D), (∀ a ∈ L, ∃ ρ1, g (mk a) ρ0 = some ρ1 ∧ EvT t ρ1 (f a) ρ1 ∧ (f a = true → Ev e ρ1 (h a) ρ1) ∧ wipeR ρ1 vs = ρ0) → compL vs g t e acc (L.map mk) ρ0 = .ok (acc ++ (L.filter f).map h) ρ0
  | [], acc, _ => by simp [compL]
  | d :: ds, acc, H => by
    obtain ⟨ρ1, h1, ⟨st, h2⟩, h3, h4⟩ := H d (List.mem_cons_self ..)
    rw [List.map_cons]
    unfold compL
    rw [h1]
    simp only [h2]
    have ih := fun acc => comp_pureα mk f h ds acc fun d hd => H d (List.mem_cons_of_mem _ hd)
    cases hf : f d with
    | true =>
      obtain ⟨st', h5⟩ := (h3 hf).own
      simp only [h5, h4, ih, List.filter_cons, hf, if_true, List.map_cons, List.append_assoc, List.singleton_append]
    | false => simp only [h4, ih, List.filter_cons, hf, Bool.false_eq_true, if_false]
theorem ev_lcfα (mk : α → D) (f : α → Bool) (h : α → D) (hq : qq ρ = .ok (L.map mk) ρ1) (hw : wipeR ρ1 vs = ρ0) (H : ∀ a ∈ L, ∃ ρ1, g (mk a) ρ0 = some ρ1 ∧ EvT t ρ1 (f a) ρ1 ∧ (f a = true → Ev e ρ1 (h a) ρ1) ∧ wipeR ρ1 vs = ρ0) : Ev (eLC vs qq g t e) ρ (.lst true ((L.filter f).map h)) ρ0 := by
  refine ⟨none, false, ?_, .inl rfl⟩
  unfold eLC
  rw [hq]
  simp only [hw, comp_pureα mk f h L [] H, List.nil_append]
theorem ev_lcα (mk : α → D) (h : α → D) (hq : qq ρ = .ok (L.map mk) ρ1) (hw : wipeR ρ1 vs = ρ0) (H : ∀ a ∈ L, ∃ ρ1, g (mk a) ρ0 = some ρ1 ∧ Ev e ρ1 (h a) ρ1 ∧ wipeR ρ1 vs = ρ0) : Ev (eLC vs qq g IL.tYes e) ρ (.lst true (L.map h)) ρ0 := by
  have := ev_lcfα (t := IL.tYes) (e := e) (g := g) mk (fun _ => true) h hq hw fun d hd => by
    obtain ⟨ρ1, h1, h2, h3⟩ := H d hd
    exact ⟨ρ1, h1, evt_yes, fun _ => h2, h3⟩
  have e : L.filter (fun _ => true) = L := by simp
  rwa [e] at this
theorem for_all (I : Ro → Prop) (ok : α → Bool) (mk : α → D) : ∀ (L : List α), (∀ a ∈ L, ∀ ρ, I ρ → ∃ ρ1, g (mk a) ρ = some ρ1 ∧ (ok a = true → ∃ ρ2, b ρ1 = .nx ρ2 ∧ I ρ2) ∧ (ok a = false → ∃ ρ2, b ρ1 = .rt (.bl false) ρ2)) → ∀ ρ, I ρ → (L.all ok = true → ∃ ρ', forL g b (L.map mk) ρ = .nx ρ' ∧ I ρ') ∧ (L.all ok = false → ∃ ρ', forL g b (L.map mk) ρ = .rt (.bl false) ρ')
  | [], _, ρ, h => ⟨fun _ => ⟨ρ, rfl, h⟩, fun z => by cases z⟩
  | d :: ds, H, ρ, h => by
    obtain ⟨ρ1, h1, h2, h3⟩ := H d (List.mem_cons_self ..) ρ h
    rw [List.map_cons]
    unfold forL
    rw [h1]
    simp only [List.all_cons]
    cases hd : ok d with
    | true =>
      obtain ⟨ρ2, h4, h5⟩ := h2 hd
      simp only [h4, Bool.true_and]
      exact for_all I ok mk ds (fun a ha => H a (List.mem_cons_of_mem _ ha)) ρ2 h5
    | false =>
      obtain ⟨ρ2, h4⟩ := h3 hd
      simp only [h4, Bool.false_and]
      exact ⟨fun z => (Bool.noConfusion z), fun _ => ⟨ρ2, rfl⟩⟩
end
end K00M
end
section
set_option linter.all false
set_option autoImplicit false
set_option maxHeartbeats 400000
namespace K00M
open PySem PySem.W L2 IL IS K00
theorem pls_iff : ∀ {xs : List D} {n : Nat}, pls xs n = true ↔ ∀ x ∈ xs, x.pl n = true
  | [], n => by simp [pls]
  | x :: xs, n => by simp [pls, pls_iff (xs := xs)]
section
variable {α : Type} [DecidableEq α]
end
theorem cut_to {α : Type} (xs : List α) (k : Nat) : cutL xs none (some (k : Int)) = xs.take k := by
  unfold cutL
  rw [HT.sIx_none, HT.sIx_nat]
  simp only [List.drop_zero, Nat.sub_zero]
  by_cases h : k ≤ xs.length
  · rw [Nat.min_eq_left h]
  · rw [Nat.min_eq_right (by omega), List.take_length, List.take_of_length_le (by omega)]
theorem fSl_to {m : Bool} {xs : List D} {k : Int} (k' : Nat) (h : k = k') : fSl (.lst m xs) .non (.int k) = some (.lst true (xs.take k')) := by
  subst h
  simp [fSl, bd, cut_to]
theorem bls_map {α : Type} (f : α → Bool) (xs : List α) : bls (xs.map fun x => D.bl (f x)) = some (xs.map f) := by induction xs <;> simp_all [bls]
theorem fAll_map {α : Type} {m : Bool} (f : α → Bool) (xs : List α) : fAll (.lst m (xs.map fun x => D.bl (f x))) = some (.bl (xs.all f)) := by simp [fAll, bls_map]
theorem frzs_bls {α : Type} (f : α → Bool) (xs : List α) : frzs (xs.map fun x => D.bl (f x)) = xs.map fun x => D.bl (f x) := frzs_fz (by rw [fzs_iff]; simp [D.fz])
theorem fEq_int (i j : Int) : fEq (.int i) (.int j) = some (.bl (decide (i = j))) := by
  unfold fEq; simp [D.pl, D.py, PyData.eqv]
  by_cases h : i = j <;> simp [h]
theorem fGt_int (i j : Int) : fGt (.int i) (.int j) = some (.bl (decide (j < i))) := by
  unfold fGt ordd; simp [D.pl, D.py, alike, dataLt_int, IL.isNon]
theorem fGe_int (i j : Int) : fGe (.int i) (.int j) = some (.bl (decide (j ≤ i))) := by
  unfold fGe ordd; simp [D.pl, D.py, alike, dataLt_int, IL.isNon]
  rw [Bool.eq_iff_iff]; simp
theorem frzs_of {α : Type} {f : α → D} (hf : ∀ a, (f a).fz = true) (xs : List α) : frzs (xs.map f) = xs.map f := frzs_fz (by rw [fzs_iff]; simp [hf])
theorem ev_subO {ρ : Ro} {b : Ex} {i : Nat} {x k v : D} {lk : LK} (h : ρ[i]? = some (some x)) (hi : ∃ l, b ρ = .ok k l true ρ) (hk : k.fz = true) (hs : fSign x k = none) (hl : lkOf x k = some lk) (hv : x.sub lk = some v) (hz : v.fz = true) : Ev (eSub (eVar i) b) ρ v ρ := by
  obtain ⟨l2, h2⟩ := hi
  refine ⟨some (i, [lk]), true, ?_, .inr hz⟩
  unfold eSub
  simp [eVar, h, h2, hk, hs, hl, hv]


abbrev str4 (cs : List Int) (r c m : Int) : D := .lst true [.lst true (cs.map .int), .int r, .int c, .int m]
structure StOk (n : Nat) (cs : List Int) (r c m : Int) : Prop where
  l : cs.length ≤ 63
  r : 0 ≤ r
  c0 : 0 ≤ c
  c1 : c ≤ n
  m0 : 0 ≤ m
  m1 : m < 2147483647
def St (n : Nat) (s : D) : Prop := ∃ cs r c m, s = str4 cs r c m ∧ StOk n cs r c m
theorem St.mono {n k : Nat} {s : D} (h : St n s) (hk : n ≤ k) : St k s := by
  obtain ⟨cs, r, c, m, e, h⟩ := h
  exact ⟨cs, r, c, m, e, h.l, h.r, h.c0, by have := h.c1; omega, h.m0, h.m1⟩
theorem St.nfz {n : Nat} {s : D} (h : St n s) : s.fz = false := by
  obtain ⟨cs, r, c, m, rfl, _⟩ := h
  rfl
theorem sg1 {cs : List Int} {r c m : Int} {ρ : Ro} (h : ρ[0]? = some (some (str4 cs r c m))) : Ev (eSub (eVar 0) (eC (.int 1))) ρ (.int r) ρ := ev_subO (lk := .ix 1) h ix_c rfl rfl rfl rfl rfl
theorem sg2 {cs : List Int} {r c m : Int} {ρ : Ro} (h : ρ[0]? = some (some (str4 cs r c m))) : Ev (eSub (eVar 0) (eC (.int 2))) ρ (.int c) ρ := ev_subO (lk := .ix 2) h ix_c rfl rfl rfl rfl rfl
theorem sg3 {cs : List Int} {r c m : Int} {ρ : Ro} (h : ρ[0]? = some (some (str4 cs r c m))) : Ev (eSub (eVar 0) (eC (.int 3))) ρ (.int m) ρ := ev_subO (lk := .ix 3) h ix_c rfl rfl rfl rfl rfl
theorem eqv_ints (xs : List Int) : PyData.eqvAll (pys (xs.map D.int)) (pys []) = decide (xs = []) := by
  cases xs <;> simp [pys, PyData.eqvAll]
theorem pls_ints (xs : List Int) (n : Nat) : pls (xs.map D.int) n = true := by
  rw [pls_iff]
  intro d hd
  obtain ⟨x, _, rfl⟩ := List.mem_map.mp hd
  rfl
theorem frzs_ints (xs : List Int) : frzs (xs.map D.int) = xs.map .int := frzs_of (fun _ => rfl) xs
theorem sg0 {cs : List Int} {r c m : Int} {ρ : Ro} (h : ρ[0]? = some (some (str4 cs r c m))) : EvT (IL.tB (eOp2 fNe (eSub (eVar 0) (eC (.int 0))) (eLst aNil))) ρ (decide (cs ≠ [])) ρ := by
  have e1 : eSub (eVar 0) (eC (.int 0)) ρ = .ok (.lst true (cs.map .int)) (some (0, [.ix 0])) true ρ := by
    unfold eSub
    simp only [eVar, h, eC]
    rfl
  have e2 : fNe (.lst false (cs.map .int)) (.lst false []) = some (.bl (decide (cs ≠ []))) := by
    unfold fNe
    simp only [D.pl, pls_ints, pls, D.py, PyData.eqv, eqv_ints]
    by_cases hx : cs = [] <;> simp [hx]
  have hz : (D.lst true (cs.map D.int)).fz = false := rfl
  have hg : ρ.get (0, [LK.ix 0]) = some (.lst true (cs.map .int)) := by simp [Ro.get, h, D.get, D.sub]
  have e3 : pCons (eSub (eVar 0) (eC (.int 0))) (pCons (eLst aNil) pNil) ρ = .ok [.lst true (cs.map .int), .lst true []] [0] true ρ := by
    unfold pCons
    rw [e1]
    simp only [eLst, aNil, pNil, hz, hg]
    rfl
  refine ⟨true, ?_⟩
  have e4 : eOp2 fNe (eSub (eVar 0) (eC (.int 0))) (eLst aNil) ρ = .ok (.bl (decide (cs ≠ []))) none true ρ := by
    unfold eOp2 eCallP
    rw [e3]
    simp only [frzs, D.frz, frzs_ints, fl, g2, e2]
    rfl
  simp only [IL.tB, e4]
theorem pop0 {c0 : Int} {cs : List Int} {r c m : Int} {o1 o2 o3 o4 : Option D} : Ev (eMut mPop (eKd kLst (eSub (eVar 0) (eC (.int 0)))) (aCons (eC (.int 0)) aNil)) [some (str4 (c0 :: cs) r c m), o1, o2, o3, o4] (.int c0) [some (str4 cs r c m), o1, o2, o3, o4] := by
  refine ⟨none, false, ?_, .inl rfl⟩
  have hx : L2.ixN ((c0 :: cs).map D.int).length 0 = some 0 := by
    unfold L2.ixN
    rw [if_pos (by omega), if_pos (by simp)]
    rfl
  have e5 : mPop (.lst true ((c0 :: cs).map .int)) [.int 0] = some (.lst true (cs.map .int), .int c0) := by
    unfold mPop
    simp only [hx]
    rfl
  have e1 : eSub (eVar 0) (eC (.int 0)) [some (str4 (c0 :: cs) r c m), o1, o2, o3, o4] = .ok (.lst true ((c0 :: cs).map .int)) (some (0, [.ix 0])) true [some (str4 (c0 :: cs) r c m), o1, o2, o3, o4] := rfl
  have e6 : eKd kLst (eSub (eVar 0) (eC (.int 0))) [some (str4 (c0 :: cs) r c m), o1, o2, o3, o4] = .ok (.lst true ((c0 :: cs).map .int)) (some (0, [.ix 0])) true [some (str4 (c0 :: cs) r c m), o1, o2, o3, o4] := by
    unfold eKd; rw [e1]; rfl
  have e7 : aCons (eC (.int 0)) aNil [some (str4 (c0 :: cs) r c m), o1, o2, o3, o4] = .ok [.int 0] true [some (str4 (c0 :: cs) r c m), o1, o2, o3, o4] := rfl
  have e8 : Ro.get [some (str4 (c0 :: cs) r c m), o1, o2, o3, o4] (0, [.ix 0]) = some (.lst true ((c0 :: cs).map .int)) := rfl
  unfold eMut
  rw [e6]
  simp only [e7, Bool.true_or, if_true, e8, e5]
  rfl
theorem fMul_l {i j : Int} (h0 : -(2 ^ 64) < i) (h1 : i < 2 ^ 64) : fMul (.int i) (.int j) = some (.int (i * j)) := by
  unfold fMul
  exact if_pos (.inl ⟨h0, h1⟩)
theorem fMod_p {i j : Int} (h : 0 < j) : fMod (.int i) (.int j) = some (.int (i % j)) := by
  unfold fMod
  exact if_pos h
theorem fDiv_p {i j : Int} (h : 0 < j) (h2 : j < 1073741824) : fDiv (.int i) (.int j) = some (.int (i / j)) := by
  unfold fDiv
  exact if_pos ⟨h, h2⟩
theorem fPow_p {i j : Int} (h : 0 ≤ j) (h2 : j ≤ 1000000) (h3 : i.natAbs < 2 ^ 64) : fPow (.int i) (.int j) = some (.int (i ^ j.toNat)) := by
  unfold fPow
  exact if_pos ⟨h, h2, h3⟩
theorem set1 {cs : List Int} {r c m v : Int} {o1 o2 o3 o4 : Option D} {e : Ex} (h : Ev e [some (str4 cs r c m), o1, o2, o3, o4] (.int v) [some (str4 cs r c m), o1, o2, o3, o4]) : sPut pSet (eVar 0) (eC (.int 1)) e [some (str4 cs r c m), o1, o2, o3, o4] = .nx [some (str4 cs v c m), o1, o2, o3, o4] := s_put h rfl ix_c rfl rfl
theorem set2 {cs : List Int} {r c m v : Int} {o1 o2 o3 o4 : Option D} {e : Ex} (h : Ev e [some (str4 cs r c m), o1, o2, o3, o4] (.int v) [some (str4 cs r c m), o1, o2, o3, o4]) : sPut pSet (eVar 0) (eC (.int 2)) e [some (str4 cs r c m), o1, o2, o3, o4] = .nx [some (str4 cs r v m), o1, o2, o3, o4] := s_put h rfl ix_c rfl rfl
theorem set3 {cs : List Int} {r c m v : Int} {o1 o2 o3 o4 : Option D} {e : Ex} (h : Ev e [some (str4 cs r c m), o1, o2, o3, o4] (.int v) [some (str4 cs r c m), o1, o2, o3, o4]) : sPut pSet (eVar 0) (eC (.int 3)) e [some (str4 cs r c m), o1, o2, o3, o4] = .nx [some (str4 cs r c v), o1, o2, o3, o4] := s_put h rfl ix_c rfl rfl
def wT : IL.T := (IL.tAnd (IL.tB (eOp2 fEq (eSub (eVar 0) (eC (.int 1))) (eC (.int 0)))) (IL.tB (eOp2 fNe (eSub (eVar 0) (eC (.int 0))) (eLst aNil))))
def wB : S := (sSeq (sAsg (gSet 2) (eFrz (eMut mPop (eKd kLst (eSub (eVar 0) (eC (.int 0)))) (aCons (eC (.int 0)) aNil))))
 (sSeq (sPut pSet (eVar 0) (eC (.int 3)) (eOp2 fMod (eOp1 fIntOf (eOp2 fAdd (eOp2 fAdd (eOp2 fMul (eSub (eVar 0) (eC (.int 3))) (eC (.int 8191))) (eVar 2)) (eC (.int 3)))) (eC (.int 2147483647))))
 (sPut pSet (eVar 0) (eC (.int 1)) (eIf (IL.tB (eOp2 fGe (eVar 2) (eOp2 fPow (eC (.int 10)) (eC (.int 18))))) (eVar 2) (eC (.int 0))))))
theorem w_step {n : Nat} {c0 : Int} {cs : List Int} {r c m : Int} {o1 o2 o3 o4 : Option D} (h : StOk n (c0 :: cs) r c m) : ∃ r' m', wB [some (str4 (c0 :: cs) r c m), o1, o2, o3, o4] = .nx [some (str4 cs r' c m'), o1, some (.int c0), o3, o4] ∧ StOk n cs r' c m' := by
  have e1 : sAsg (gSet 2) (eFrz (eMut mPop (eKd kLst (eSub (eVar 0) (eC (.int 0)))) (aCons (eC (.int 0)) aNil))) [some (str4 (c0 :: cs) r c m), o1, o2, o3, o4] = .nx [some (str4 cs r c m), o1, some (.int c0), o3, o4] := s_asg (ev_frz pop0)
  have hm := h.m0
  have hm1 := h.m1
  have x1 : Ev (eOp2 fMul (eSub (eVar 0) (eC (.int 3))) (eC (.int 8191))) [some (str4 cs r c m), o1, some (.int c0), o3, o4] (.int (m * 8191)) [some (str4 cs r c m), o1, some (.int c0), o3, o4] := ev_o2 (sg3 rfl) ev_c (fMul_l (i := m) (by omega) (by omega))
  have x2 : Ev (eOp2 fAdd (eOp2 fAdd (eOp2 fMul (eSub (eVar 0) (eC (.int 3))) (eC (.int 8191))) (eVar 2)) (eC (.int 3))) [some (str4 cs r c m), o1, some (.int c0), o3, o4] (.int (m * 8191 + c0 + 3)) [some (str4 cs r c m), o1, some (.int c0), o3, o4] := ev_o2 (ev_o2 x1 (ev_var rfl rfl) (z := .int (m * 8191 + c0)) rfl) ev_c rfl
  have e2 := set3 (v := (m * 8191 + c0 + 3) % 2147483647) (ev_o2 (ev_o1 (z := .int (m * 8191 + c0 + 3)) x2 (f := fIntOf) rfl) (ev_c (d := .int 2147483647)) (fMod_p (i := m * 8191 + c0 + 3) (by omega)))
  have e3 : EvT (IL.tB (eOp2 fGe (eVar 2) (eOp2 fPow (eC (.int 10)) (eC (.int 18))))) [some (str4 cs r c ((m * 8191 + c0 + 3) % 2147483647)), o1, some (.int c0), o3, o4] (decide (10 ^ 18 ≤ c0)) [some (str4 cs r c ((m * 8191 + c0 + 3) % 2147483647)), o1, some (.int c0), o3, o4] :=
    evt_B (ev_o2 (ev_var rfl rfl) (ev_o2 ev_c ev_c (fPow_p (by omega) (by omega) (by decide))) (by show fGe (.int _) (.int _) = _; rw [fGe_int]; rfl))
  have e4 : Ev (eIf (IL.tB (eOp2 fGe (eVar 2) (eOp2 fPow (eC (.int 10)) (eC (.int 18))))) (eVar 2) (eC (.int 0))) [some (str4 cs r c ((m * 8191 + c0 + 3) % 2147483647)), o1, some (.int c0), o3, o4] (.int (if (10 : Int) ^ 18 ≤ c0 then c0 else 0)) [some (str4 cs r c ((m * 8191 + c0 + 3) % 2147483647)), o1, some (.int c0), o3, o4] := by
    refine ev_if e3 ?_
    by_cases hc : (10 : Int) ^ 18 ≤ c0
    · simp only [hc, decide_true, if_true]
      exact ev_var rfl rfl
    · simp only [hc, decide_false, Bool.false_eq_true, if_false]
      exact ev_c
  refine ⟨_, _, s_seq e1 (s_seq e2 (set1 e4)), by have := h.l; simp at this; omega, ?_, h.c0, h.c1, Int.emod_nonneg _ (by omega), Int.emod_lt_of_pos _ (by omega)⟩
  split <;> omega
theorem w_loop {n : Nat} : ∀ (cs : List Int) (k : Nat) {r c m : Int} {o1 o2 o3 o4 : Option D}, StOk n cs r c m → cs.length < k → ∃ cs' r' m' o2', whileL wT wB k [some (str4 cs r c m), o1, o2, o3, o4] = .nx [some (str4 cs' r' c m'), o1, o2', o3, o4] ∧ StOk n cs' r' c m'
  | cs, 0, _, _, _, _, _, _, _, _, hk => by omega
  | cs, k + 1, r, c, m, o1, o2, o3, o4, h, hk => by
    have t : EvT wT [some (str4 cs r c m), o1, o2, o3, o4] (decide (r = 0) && decide (cs ≠ [])) [some (str4 cs r c m), o1, o2, o3, o4] :=
      evt_and0 (evt_B (ev_o2 (sg1 rfl) ev_c (fEq_int r 0))) fun _ => sg0 rfl
    obtain ⟨st, t⟩ := t
    unfold whileL
    rw [t]
    by_cases hc : r = 0 ∧ cs ≠ []
    · have : (decide (r = 0) && decide (cs ≠ [])) = true := by simp [hc.1, hc.2]
      rw [this]
      match cs, hc.2, h, hk with
      | c0 :: cs, _, h, hk =>
        obtain ⟨r', m', e1, h1⟩ := w_step (o1 := o1) (o2 := o2) (o3 := o3) (o4 := o4) h
        simp only [e1]
        exact w_loop cs k h1 (by simp at hk; omega)
    · have : (decide (r = 0) && decide (cs ≠ [])) = false := by
        simp only [Bool.and_eq_false_iff, decide_eq_false_iff_not]
        by_cases h1 : r = 0
        · exact .inr fun h2 => hc ⟨h1, h2⟩
        · exact .inl h1
      rw [this]
      exact ⟨cs, r, m, o2, rfl, h⟩
theorem draw_ok {n : Nat} {s : D} {many : Int} (h : St n s) (hn : n < 2 ^ 40) (h0 : 0 < many) (h1 : many < 1073741824) : ∃ (r : Int) (s' : D), F_law_draw s [.int many] = .ret (.int r) s' ∧ 0 ≤ r ∧ r < many ∧ St (n + 1) s' := by
  obtain ⟨cs, r, c, m, rfl, h⟩ := h
  have hc0 := h.c0
  have hc1 := h.c1
  have a1 := set2 (cs := cs) (r := r) (c := c) (m := m) (o1 := some (.int many)) (o2 := none) (o3 := none) (o4 := none) (ev_o2 (sg2 rfl) (ev_c (d := .int 1)) (f := fAdd) rfl)
  have h' : StOk (n + 1) cs r (c + 1) m := ⟨h.l, h.r, by omega, by omega, h.m0, h.m1⟩
  obtain ⟨cs', r', m', o2', e, h2⟩ := w_loop (o1 := some (.int many)) (o2 := none) (o3 := none) (o4 := none) cs 70 h' (by have := h.l; omega)
  have a2 : sWhile 70 wT wB [some (str4 cs r (c + 1) m), some (.int many), none, none, none] = .nx [some (str4 cs' r' (c + 1) m'), some (.int many), o2', none, none] := e
  have t : EvT (IL.tB (eOp2 fGt (eSub (eVar 0) (eC (.int 1))) (eC (.int 0)))) [some (str4 cs' r' (c + 1) m'), some (.int many), o2', none, none] (decide (0 < r')) [some (str4 cs' r' (c + 1) m'), some (.int many), o2', none, none] := evt_B (ev_o2 (sg1 rfl) ev_c (fGt_int r' 0))
  have hr := h2.r
  have hm := h2.m0
  have hm1 := h2.m1
  have fin : ∀ (q : Int) (s' : D), RtM s_law_draw [some (str4 cs r c m), some (.int many), none, none, none] (.int q) s' → F_law_draw (str4 cs r c m) [.int many] = .ret (.int q) s' := fun q s' z => fnM_r z
  by_cases hp : 0 < r'
  · simp only [hp, decide_true] at t
    have b1 : sAsg (gSet 3) (eFrz (eOp2 fMod (eOp1 fIntOf (eSub (eVar 0) (eC (.int 1)))) (eVar 1))) [some (str4 cs' r' (c + 1) m'), some (.int many), o2', none, none] = .nx [some (str4 cs' r' (c + 1) m'), some (.int many), o2', some (.int (r' % many)), none] :=
      s_asg (show Ev (eFrz (eOp2 fMod (eOp1 fIntOf (eSub (eVar 0) (eC (.int 1)))) (eVar 1))) [some (str4 cs' r' (c + 1) m'), some (.int many), o2', none, none] (.int (r' % many)) [some (str4 cs' r' (c + 1) m'), some (.int many), o2', none, none] from ev_frz (d := .int (r' % many)) (ev_o2 (ev_o1 (z := .int r') (sg1 rfl) (f := fIntOf) rfl) (ev_var (i := 1) rfl rfl) (fMod_p (i := r') h0)))
    have b2 := set1 (cs := cs') (r := r') (c := c + 1) (m := m') (o1 := some (.int many)) (o2 := o2') (o3 := some (.int (r' % many))) (o4 := none) (ev_o2 (f := fDiv) (sg1 rfl) (ev_var (i := 1) rfl rfl) (fDiv_p (i := r') h0 h1))
    refine ⟨r' % many, _, fin _ _ (m_seq a1 (m_seq a2 (m_seqR (m_if t (m_seq b1 (m_seq b2 (m_ret (ev_var rfl rfl)))))))), Int.emod_nonneg _ (by omega), Int.emod_lt_of_pos _ h0, cs', _, _, _, rfl, h2.l, Int.ediv_nonneg hr (by omega), h2.c0, h2.c1, hm, hm1⟩
  · simp only [hp, decide_false] at t
    have hx : (m' + 7919 * (c + 1) + 104729).natAbs < 2 ^ 64 := by omega
    have b1 : sAsg (gSet 4) (eFrz (eOp2 fMod (eOp1 fIntOf (eOp2 fPow (eOp2 fAdd (eOp2 fAdd (eSub (eVar 0) (eC (.int 3))) (eOp2 fMul (eC (.int 7919)) (eSub (eVar 0) (eC (.int 2))))) (eC (.int 104729))) (eC (.int 5)))) (eC (.int 2147483629)))) [some (str4 cs' r' (c + 1) m'), some (.int many), o2', none, none] = .nx [some (str4 cs' r' (c + 1) m'), some (.int many), o2', none, some (.int ((m' + 7919 * (c + 1) + 104729) ^ 5 % 2147483629))] := by
      have x1 : Ev (eOp2 fMul (eC (.int 7919)) (eSub (eVar 0) (eC (.int 2)))) [some (str4 cs' r' (c + 1) m'), some (.int many), o2', none, none] (.int (7919 * (c + 1))) [some (str4 cs' r' (c + 1) m'), some (.int many), o2', none, none] := ev_o2 ev_c (sg2 rfl) (fMul_l (i := 7919) (by omega) (by omega))
      have x2 : Ev (eOp2 fAdd (eOp2 fAdd (eSub (eVar 0) (eC (.int 3))) (eOp2 fMul (eC (.int 7919)) (eSub (eVar 0) (eC (.int 2))))) (eC (.int 104729))) [some (str4 cs' r' (c + 1) m'), some (.int many), o2', none, none] (.int (m' + 7919 * (c + 1) + 104729)) [some (str4 cs' r' (c + 1) m'), some (.int many), o2', none, none] := ev_o2 (ev_o2 (sg3 rfl) x1 (z := .int (m' + 7919 * (c + 1))) rfl) ev_c rfl
      have x3 : Ev (eOp1 fIntOf (eOp2 fPow (eOp2 fAdd (eOp2 fAdd (eSub (eVar 0) (eC (.int 3))) (eOp2 fMul (eC (.int 7919)) (eSub (eVar 0) (eC (.int 2))))) (eC (.int 104729))) (eC (.int 5)))) [some (str4 cs' r' (c + 1) m'), some (.int many), o2', none, none] (.int ((m' + 7919 * (c + 1) + 104729) ^ 5)) [some (str4 cs' r' (c + 1) m'), some (.int many), o2', none, none] := ev_o1 (ev_o2 x2 ev_c (fPow_p (i := m' + 7919 * (c + 1) + 104729) (j := 5) (by omega) (by omega) hx)) rfl
      have x4 : Ev (eOp2 fMod (eOp1 fIntOf (eOp2 fPow (eOp2 fAdd (eOp2 fAdd (eSub (eVar 0) (eC (.int 3))) (eOp2 fMul (eC (.int 7919)) (eSub (eVar 0) (eC (.int 2))))) (eC (.int 104729))) (eC (.int 5)))) (eC (.int 2147483629))) [some (str4 cs' r' (c + 1) m'), some (.int many), o2', none, none] (.int ((m' + 7919 * (c + 1) + 104729) ^ 5 % 2147483629)) [some (str4 cs' r' (c + 1) m'), some (.int many), o2', none, none] := ev_o2 x3 ev_c (fMod_p (i := (m' + 7919 * (c + 1) + 104729) ^ 5) (by omega))
      exact s_asg (ev_frz x4)
    have q0 : 0 ≤ (m' + 7919 * (c + 1) + 104729) ^ 5 % 2147483629 := Int.emod_nonneg _ (by omega)
    have q1 : (m' + 7919 * (c + 1) + 104729) ^ 5 % 2147483629 < 2147483629 := Int.emod_lt_of_pos _ (by omega)
    generalize (m' + 7919 * (c + 1) + 104729) ^ 5 % 2147483629 = q at b1 q0 q1
    have hy : (q * 48271 + 30011 * (c + 1) + 29).natAbs < 2 ^ 64 := by omega
    have b2 : Ev (eOp2 fMod (eOp2 fMod (eOp1 fIntOf (eOp2 fPow (eOp2 fAdd (eOp2 fAdd (eOp2 fMul (eVar 4) (eC (.int 48271))) (eOp2 fMul (eC (.int 30011)) (eSub (eVar 0) (eC (.int 2))))) (eC (.int 29))) (eC (.int 3)))) (eC (.int 1000000007))) (eVar 1)) [some (str4 cs' r' (c + 1) m'), some (.int many), o2', none, some (.int q)] (.int ((q * 48271 + 30011 * (c + 1) + 29) ^ 3 % 1000000007 % many)) [some (str4 cs' r' (c + 1) m'), some (.int many), o2', none, some (.int q)] := by
      generalize hρ : ([some (str4 cs' r' (c + 1) m'), some (.int many), o2', none, some (.int q)] : Ro) = ρ
      have g0 : ρ[0]? = some (some (str4 cs' r' (c + 1) m')) := by rw [← hρ]; rfl
      have g1 : ρ[1]? = some (some (.int many)) := by rw [← hρ]; rfl
      have g4 : ρ[4]? = some (some (.int q)) := by rw [← hρ]; rfl
      have x1 : Ev (eOp2 fMul (eVar 4) (eC (.int 48271))) ρ (.int (q * 48271)) ρ := ev_o2 (ev_var g4 rfl) ev_c (fMul_l (i := q) (by omega) (by omega))
      have x2 : Ev (eOp2 fMul (eC (.int 30011)) (eSub (eVar 0) (eC (.int 2)))) ρ (.int (30011 * (c + 1))) ρ := ev_o2 ev_c (sg2 g0) (fMul_l (i := 30011) (by omega) (by omega))
      have x3 : Ev (eOp2 fAdd (eOp2 fAdd (eOp2 fMul (eVar 4) (eC (.int 48271))) (eOp2 fMul (eC (.int 30011)) (eSub (eVar 0) (eC (.int 2))))) (eC (.int 29))) ρ (.int (q * 48271 + 30011 * (c + 1) + 29)) ρ := ev_o2 (ev_o2 x1 x2 (z := .int (q * 48271 + 30011 * (c + 1))) rfl) ev_c rfl
      have x4 : Ev (eOp1 fIntOf (eOp2 fPow (eOp2 fAdd (eOp2 fAdd (eOp2 fMul (eVar 4) (eC (.int 48271))) (eOp2 fMul (eC (.int 30011)) (eSub (eVar 0) (eC (.int 2))))) (eC (.int 29))) (eC (.int 3)))) ρ (.int ((q * 48271 + 30011 * (c + 1) + 29) ^ 3)) ρ := ev_o1 (ev_o2 x3 ev_c (fPow_p (i := q * 48271 + 30011 * (c + 1) + 29) (j := 3) (by omega) (by omega) hy)) rfl
      exact ev_o2 (ev_o2 x4 ev_c (fMod_p (i := (q * 48271 + 30011 * (c + 1) + 29) ^ 3) (by omega))) (ev_var g1 rfl) (fMod_p (i := (q * 48271 + 30011 * (c + 1) + 29) ^ 3 % 1000000007) h0)
    exact ⟨_, _, fin _ _ (m_seq a1 (m_seq a2 (m_seq (s_ifF t rfl) (m_seq b1 (m_ret b2))))), Int.emod_nonneg _ (by omega), Int.emod_lt_of_pos _ h0, cs', r', c + 1, m', rfl, h2⟩
/-- a call that changes the stream in slot 0 -/
theorem ev_M {f : Fm} {ρ ρ1 : Ro} {p : Pe} {ds : List D} {s s' d : D} {n k : Nat} (h0 : ρ[0]? = some (some s)) (hp : EvP p ρ ds ρ1) (h1 : ∃ s1, ρ1[0]? = some (some s1) ∧ St n s1 ∧ f s1 (frzs ds) = .ret d s') (hs : St k s') : Ev (eCallM f (eVar 0) p) ρ d (ρ1.set 0 (some s')) := by
  obtain ⟨s1, h1, st, hf⟩ := h1
  exact ev_callM h0 hp h1 hf (by simp [st.nfz]) rfl
theorem ixN_nat {n : Nat} {j : Nat} (h : j < n) : L2.ixN n (j : Int) = some j := by
  unfold L2.ixN
  rw [if_pos (by omega), if_pos (by omega)]
  simp
theorem erase_perm {α : Type} : ∀ {l : List α} {j : Nat} {y : α}, l[j]? = some y → (y :: l.eraseIdx j).Perm l
  | [], _, _, h => by simp at h
  | a :: l, 0, y, h => by simp at h; subst h; exact List.Perm.refl _
  | a :: l, j + 1, y, h => by
    simp only [List.getElem?_cons_succ] at h
    exact (List.Perm.swap a y _).trans ((erase_perm h).cons a)
theorem wR1 {n : Nat} (h : n ≤ 2000) : wRange1 [.int (n : Int)] = some ((List.range n).map fun (i : Nat) => .int (i : Int)) := by
  unfold wRange1
  simp only
  rw [if_pos ⟨by omega, by omega⟩, Int.toNat_natCast]
theorem fLen_l {m : Bool} {xs : List D} : fLen (D.lst m xs).frz = some (.int xs.length) := by simp only [D.frz, fLen, frzs_map', List.length_map]
theorem ev_lcG {vs : List Nat} {qq : Sq} {g : G} {t : IL.T} {e : Ex} {ρ ρ0 ρ1 ρ' : Ro} {ds ys : List D} (hq : qq ρ = .ok ds ρ1) (hw : wipeR ρ1 vs = ρ0) (hc : compL vs g t e [] ds ρ0 = .ok ys ρ') : Ev (eLC vs qq g t e) ρ (.lst true ys) ρ' := by
  subst hw
  refine ⟨none, false, ?_, .inl rfl⟩
  unfold eLC
  rw [hq]
  simp only [hc]
theorem mixed_ok {n : Nat} {s : D} {xs : List D} (h : St n s) (hx : fzs xs = true) (hl : xs.length ≤ 2000) (hn : n + xs.length < 2 ^ 40) : ∃ ys s', F_law_mixed s [.lst false xs] = .ret (.lst true ys) s' ∧ ys.Perm xs ∧ St (n + xs.length) s' := by
  have hz : (D.lst false xs).fz = true := by simp [D.fz, hx]
  have e1 : Ev (eOp1 fList (eVar 1)) [some s, some (.lst false xs), none, none] (.lst true xs) [some s, some (.lst false xs), none, none] := ev_o1 (ev_var rfl hz) (by rw [frz_fz hz]; rfl)
  have e2 : qA wRange1 (aCons (eOp1 fLen (eVar 2)) aNil) [some s, some (.lst false xs), some (.lst true xs), none] = .ok ((List.range xs.length).map fun (i : Nat) => .int (i : Int)) [some s, some (.lst false xs), some (.lst true xs), none] := by
    have : Ev (eOp1 fLen (eVar 2)) [some s, some (.lst false xs), some (.lst true xs), none] (.int xs.length) [some s, some (.lst false xs), some (.lst true xs), none] := ev_o1H (evh_var rfl evh_nil rfl) fLen_l rfl
    exact q_A (eva_cons this eva_nil) rfl (wR1 (by omega))
  obtain ⟨ys, ρ', h1, h2⟩ := comp_inv (vs := [3]) (g := gSet 3) (e := eMut mPop (eKd kLst (eVar 2)) (aCons (eCallM F_law_draw (eVar 0) (pCons (eOp1 fLen (eVar 2)) pNil)) aNil))
    (fun k acc ρ => ∃ left s', ρ = [some s', some (.lst false xs), some (.lst true left), none] ∧ (acc ++ left).Perm xs ∧ left.length + k = xs.length ∧ St (n + k) s')
    ((List.range xs.length).map fun (i : Nat) => .int (i : Int)) [] [some s, some (.lst false xs), some (.lst true xs), none] 0 (fun i d acc ρ hd hI => by
      obtain ⟨left, s', rfl, hp, hlen, st⟩ := hI
      have hi : i < xs.length := by
        rcases Nat.lt_or_ge i xs.length with h | h
        · exact h
        · rw [List.getElem?_eq_none (by simpa using h)] at hd; cases hd
      have hpos : 0 < left.length := by omega
      obtain ⟨r, s2, d1, d2, d3, d4⟩ := draw_ok (many := left.length) st (by omega) (by omega) (by omega)
      obtain ⟨j, rfl⟩ : ∃ j : Nat, r = (j : Int) := ⟨r.toNat, by omega⟩
      have hj : j < left.length := by omega
      obtain ⟨y, hy⟩ : ∃ y, left[j]? = some y := ⟨_, List.getElem?_eq_getElem hj⟩
      refine ⟨[some s', some (.lst false xs), some (.lst true left), some d], rfl, y, [some s2, some (.lst false xs), some (.lst true (left.eraseIdx j)), some d], ?_, left.eraseIdx j, s2, rfl, ?_, ?_, by rwa [show n + (0 + i + 1) = n + (0 + i) + 1 by omega]⟩
      · have eL : Ev (eOp1 fLen (eVar 2)) [some s', some (.lst false xs), some (.lst true left), some d] (.int left.length) [some s', some (.lst false xs), some (.lst true left), some d] := ev_o1H (evh_var rfl evh_nil rfl) fLen_l rfl
        have eD : Ev (eCallM F_law_draw (eVar 0) (pCons (eOp1 fLen (eVar 2)) pNil)) [some s', some (.lst false xs), some (.lst true left), some d] (.int (j : Int)) [some s2, some (.lst false xs), some (.lst true left), some d] := ev_M rfl (evp_cons eL evp_nil) ⟨s', rfl, st, d1⟩ d4
        refine ev_mut (ρ1 := [some s2, some (.lst false xs), some (.lst true left), some d]) (i := 2) (d := .lst true left) (x := .lst true left) rfl rfl (eva_cons eD eva_nil) rfl ?_
        unfold mPop
        simp only [ixN_nat hj, hy]
      · rw [List.append_assoc]
        exact ((List.Perm.append_left acc (erase_perm hy))).trans hp
      · rw [List.length_eraseIdx_of_lt hj]
        omega) ⟨xs, s, rfl, by simp, by simp, by simpa using h⟩
  obtain ⟨left, s', rfl, hp, hlen, st⟩ := h2
  simp only [List.length_map, List.length_range, Nat.zero_add] at hlen st
  have hleft : left = [] := List.length_eq_zero_iff.mp (by omega)
  subst hleft
  have eC : Ev (eLC [3] (qA wRange1 (aCons (eOp1 fLen (eVar 2)) aNil)) (gSet 3) IL.tYes (eMut mPop (eKd kLst (eVar 2)) (aCons (eCallM F_law_draw (eVar 0) (pCons (eOp1 fLen (eVar 2)) pNil)) aNil))) [some s, some (.lst false xs), some (.lst true xs), none] (.lst true ys) [some s', some (.lst false xs), some (.lst true []), none] := by
    exact ev_lcG e2 rfl h1
  exact ⟨ys, s', fnM_r (m_seq (s_asg e1) (m_ret eC)), by simpa using hp, st⟩
end K00M
end
section
set_option linter.all false
set_option autoImplicit false
set_option maxRecDepth 100000
set_option maxHeartbeats 4000000
noncomputable section
namespace K00M
open PySem PySem.W L2 IL IS K00
structure En where
  C : Str
  fs : List Str
  vs : List D
  nm : Str
  r : LamR
  F : Fp
  due : List D
def en (m : Bool) (e : En) : D := .tup [.err e.C e.fs e.vs, .err e.C e.fs e.vs, .lam e.nm e.r, .lst m e.due]
def n1 (C f nm : Str) (r : LamR) (x : D) : En := ⟨C, [f], [x], nm, r, fnE (eLst (aCons (eErrF erl f (eVar 0)) aNil)), [x]⟩
def n2 (C f1 f2 nm : Str) (r : LamR) (x y : D) : En := ⟨C, [f2, f1], [y, x], nm, r, fnE (eLst (aCons (eErrF erl f1 (eVar 0)) (aCons (eErrF erl f2 (eVar 0)) aNil))), [x, y]⟩
def n0 (C nm : Str) (r : LamR) : En := ⟨C, [], [], nm, r, fnE (eLst aNil), []⟩
def La (x y : D) : List En := [n1 "BadDeed" "thing" "law_made_a0" lr_law_made_a0 x, n1 "BadForest" "thing" "law_made_a1" lr_law_made_a1 x, n1 "BadForm" "thing" "law_made_a2" lr_law_made_a2 x, n1 "BadFrame" "thing" "law_made_a3" lr_law_made_a3 x, n1 "BadFrames" "index" "law_made_a4" lr_law_made_a4 x, n1 "BadGauge" "thing" "law_made_a5" lr_law_made_a5 x, n1 "BadGrove" "thing" "law_made_a6" lr_law_made_a6 x, n1 "BadHeight" "thing" "law_made_a7" lr_law_made_a7 x, n1 "BadHigh" "thing" "law_made_a8" lr_law_made_a8 x, n1 "BadHollow" "thing" "law_made_a9" lr_law_made_a9 x, n1 "BadKind" "thing" "law_made_a10" lr_law_made_a10 x, n1 "BadLevels" "thing" "law_made_a11" lr_law_made_a11 x, n1 "BadLosses" "fault" "law_made_a12" lr_law_made_a12 x, n1 "BadLot" "index" "law_made_a13" lr_law_made_a13 x, n1 "BadLots" "index" "law_made_a14" lr_law_made_a14 x, n1 "BadLow" "thing" "law_made_a15" lr_law_made_a15 x, n1 "BadMany" "thing" "law_made_a16" lr_law_made_a16 x, n1 "BadMost" "thing" "law_made_a17" lr_law_made_a17 x]
def Lb (x y : D) : List En := [n1 "BadName" "thing" "law_made_b0" lr_law_made_b0 x, n1 "BadNest" "thing" "law_made_b1" lr_law_made_b1 x, n1 "BadNumber" "thing" "law_made_b2" lr_law_made_b2 x, n1 "BadOrder" "index" "law_made_b3" lr_law_made_b3 x, n1 "BadOther" "thing" "law_made_b4" lr_law_made_b4 x, n1 "BadParting" "thing" "law_made_b5" lr_law_made_b5 x, n1 "BadPicture" "thing" "law_made_b6" lr_law_made_b6 x, n1 "BadPlaces" "index" "law_made_b7" lr_law_made_b7 x, n1 "BadPrice" "thing" "law_made_b8" lr_law_made_b8 x, n1 "BadPriced" "thing" "law_made_b9" lr_law_made_b9 x, n1 "BadPulls" "thing" "law_made_b10" lr_law_made_b10 x, n1 "BadQuestion" "thing" "law_made_b11" lr_law_made_b11 x, n1 "BadRoots" "index" "law_made_b12" lr_law_made_b12 x, n1 "BadRows" "index" "law_made_b13" lr_law_made_b13 x, n1 "BadSession" "thing" "law_made_b14" lr_law_made_b14 x, n1 "BadSharing" "thing" "law_made_b15" lr_law_made_b15 x, n1 "BadSome" "index" "law_made_b16" lr_law_made_b16 x, n1 "BadSorter" "thing" "law_made_b17" lr_law_made_b17 x]
def Lc (x y : D) : List En := [n1 "BadSplit" "thing" "law_made_c0" lr_law_made_c0 x, n1 "BadTable" "thing" "law_made_c1" lr_law_made_c1 x, n2 "BadText" "line" "sign" "law_made_c2" lr_law_made_c2 x y, n1 "BadTies" "index" "law_made_c3" lr_law_made_c3 x, n1 "BadTold" "index" "law_made_c4" lr_law_made_c4 x, n1 "BadTree" "thing" "law_made_c5" lr_law_made_c5 x, n1 "BadTriple" "thing" "law_made_c6" lr_law_made_c6 x, n1 "BadTriples" "index" "law_made_c7" lr_law_made_c7 x, n1 "BadTwice" "thing" "law_made_c8" lr_law_made_c8 x, n1 "BadWeb" "thing" "law_made_c9" lr_law_made_c9 x, n2 "Crossing" "lot" "other" "law_made_c10" lr_law_made_c10 x y, n1 "InUse" "question" "law_made_c11" lr_law_made_c11 x, n1 "IsThere" "lot" "law_made_c12" lr_law_made_c12 x, n1 "IsWatched" "question" "law_made_c13" lr_law_made_c13 x, n1 "NoCount" "thing" "law_made_c14" lr_law_made_c14 x, n0 "NoFrame" "law_made_c15" lr_law_made_c15, n1 "NoLot" "thing" "law_made_c16" lr_law_made_c16 x, n1 "NoParts" "lot" "law_made_c17" lr_law_made_c17 x]
def Ld (x y : D) : List En := [n1 "NoPlace" "thing" "law_made_d0" lr_law_made_d0 x, n1 "NoRoot" "place" "law_made_d1" lr_law_made_d1 x, n2 "NoTie" "one" "other" "law_made_d2" lr_law_made_d2 x y, n0 "NotFull" "law_made_d3" lr_law_made_d3, n1 "NotNow" "why" "law_made_d4" lr_law_made_d4 x, n1 "NotThere" "lot" "law_made_d5" lr_law_made_d5 x, n1 "NotWatched" "question" "law_made_d6" lr_law_made_d6 x, n0 "OtherPlaces" "law_made_d7" lr_law_made_d7, n1 "SamePlace" "thing" "law_made_d8" lr_law_made_d8 x, n1 "SavesNothing" "lot" "law_made_d9" lr_law_made_d9 x, n2 "WouldChange" "question" "why" "law_made_d10" lr_law_made_d10 x y]
def kcl0 : List Str := ["BadDeed", "BadForest", "BadForm", "BadFrame", "BadFrames", "BadGauge", "BadGrove", "BadHeight", "BadHigh", "BadHollow", "BadKind", "BadLevels", "BadLosses", "BadLot", "BadLots", "BadLow", "BadMany", "BadMost", "BadName", "BadNest", "BadNumber", "BadOrder", "BadOther", "BadParting", "BadPicture", "BadPlaces", "BadPrice", "BadPriced", "BadPulls", "BadQuestion"]
def kcl1 : List Str := ["BadRoots", "BadRows", "BadSession", "BadSharing", "BadSome", "BadSorter", "BadSplit", "BadTable", "BadText", "BadTies", "BadTold", "BadTree", "BadTriple", "BadTriples", "BadTwice", "BadWeb", "Crossing", "InUse", "IsThere", "IsWatched", "NoCount", "NoFrame", "NoLot", "NoParts", "NoPlace", "NoRoot", "NoTie", "NotFull", "NotNow", "NotThere"]
def kcl2 : List Str := ["NotWatched", "OtherPlaces", "SamePlace", "SavesNothing", "WouldChange"]
def kcl : List Str := kcl0 ++ kcl1 ++ kcl2
def LL (x y : D) : List En := La x y ++ Lb x y ++ Lc x y ++ Ld x y
theorem LL_C (x y : D) : (LL x y).map En.C = kcl := rfl
theorem LL_lt (x y : D) : (LL x y).map (fun e => (e.nm, e.r, e.F)) = lt_law := rfl
theorem kcl_er : ∀ C ∈ kcl, C ∈ erl := by decide +kernel
section
variable {ρ ρ' : Ro} {ar : A} {ds : List D} {x y z : D} {acc : List D}
theorem ev_err {C : Str} {fs : List Str} {js : List Nat} (h : EvA ar ρ ds ρ') (hl : ds.length = js.length) : Ev (eErr C fs js ar) ρ (.err C fs (frzs (pick js ds))) ρ' := by
  obtain ⟨st, h⟩ := h
  exact ⟨none, false, by simp [eErr, h, hl], .inl rfl⟩
theorem ev_lam {nm : Str} {r : LamR} : Ev (eLam nm r) ρ (.lam nm r) ρ := ⟨none, true, rfl, .inl rfl⟩
theorem ap1 {C f nm : Str} {r : LamR} (hx : x.fz = true) (hl : acc.length < sz) : sExp (eMut mAppend (eKd kLst (eVar 3)) (aCons (eTup (aCons (eErr C [f] [0] (aCons (eVar 0) aNil)) (aCons (eErr C [f] (pick [0] [0]) (aCons (eVar 0) aNil)) (aCons (eLam nm r) (aCons (eLst (aCons (eVar 0) aNil)) aNil))))) aNil)) [some x, some y, some z, some (.lst true acc)] = .nx [some x, some y, some z, some (.lst true (acc ++ [en true (n1 C f nm r x)]))] := by
  have e0 : EvA (aCons (eVar 0) aNil) [some x, some y, some z, some (.lst true acc)] [x] [some x, some y, some z, some (.lst true acc)] := eva_cons (ev_var rfl hx) eva_nil
  have e1 := ev_err (C := C) (fs := [f]) (js := [0]) e0 rfl
  have hz : frzs (pick [0] [x]) = [x] := by simp [pick, frzs, frz_fz hx]
  rw [hz] at e1
  exact s_exp (ev_mut (i := 3) (d := .lst true acc) (x := .lst true acc) (x' := .lst true (acc ++ [en true (n1 C f nm r x)])) (z := .non) rfl rfl (eva_cons (ev_tup (eva_cons e1 (eva_cons e1 (eva_cons ev_lam (eva_cons (ev_lst e0) eva_nil))))) eva_nil) rfl (by simp [mAppend, hl, en, n1]))
theorem ap2 {C f1 f2 nm : Str} {r : LamR} (hx : x.fz = true) (hy : y.fz = true) (hl : acc.length < sz) : sExp (eMut mAppend (eKd kLst (eVar 3)) (aCons (eTup (aCons (eErr C [f2, f1] [1, 0] (aCons (eVar 0) (aCons (eVar 1) aNil))) (aCons (eErr C [f2, f1] (pick [1, 0] [1, 0]) (aCons (eVar 1) (aCons (eVar 0) aNil))) (aCons (eLam nm r) (aCons (eLst (aCons (eVar 0) (aCons (eVar 1) aNil))) aNil))))) aNil)) [some x, some y, some z, some (.lst true acc)] = .nx [some x, some y, some z, some (.lst true (acc ++ [en true (n2 C f1 f2 nm r x y)]))] := by
  have e0 : EvA (aCons (eVar 0) (aCons (eVar 1) aNil)) [some x, some y, some z, some (.lst true acc)] [x, y] [some x, some y, some z, some (.lst true acc)] := eva_cons (ev_var rfl hx) (eva_cons (ev_var rfl hy) eva_nil)
  have e0' : EvA (aCons (eVar 1) (aCons (eVar 0) aNil)) [some x, some y, some z, some (.lst true acc)] [y, x] [some x, some y, some z, some (.lst true acc)] := eva_cons (ev_var rfl hy) (eva_cons (ev_var rfl hx) eva_nil)
  have e1 := ev_err (C := C) (fs := [f2, f1]) (js := [1, 0]) e0 rfl
  have e2 := ev_err (C := C) (fs := [f2, f1]) (js := pick [1, 0] [1, 0]) e0' rfl
  have hz : frzs (pick [1, 0] [x, y]) = [y, x] := by simp [pick, frzs, frz_fz hx, frz_fz hy]
  have hz2 : frzs (pick (pick [1, 0] [1, 0]) [y, x]) = [y, x] := by simp [pick, frzs, frz_fz hx, frz_fz hy]
  rw [hz] at e1
  rw [hz2] at e2
  exact s_exp (ev_mut (i := 3) (d := .lst true acc) (x := .lst true acc) (x' := .lst true (acc ++ [en true (n2 C f1 f2 nm r x y)])) (z := .non) rfl rfl (eva_cons (ev_tup (eva_cons e1 (eva_cons e2 (eva_cons ev_lam (eva_cons (ev_lst e0) eva_nil))))) eva_nil) rfl (by simp [mAppend, hl, en, n2]))
theorem ev_err0 {C : Str} : Ev (eErr0 C) ρ (.err C [] []) ρ := ⟨none, false, rfl, .inl rfl⟩
theorem ap0 {C nm : Str} {r : LamR} (hl : acc.length < sz) : sExp (eMut mAppend (eKd kLst (eVar 3)) (aCons (eTup (aCons (eErr0 C) (aCons (eErr0 C) (aCons (eLam nm r) (aCons (eLst aNil) aNil))))) aNil)) [some x, some y, some z, some (.lst true acc)] = .nx [some x, some y, some z, some (.lst true (acc ++ [en true (n0 C nm r)]))] :=
  s_exp (ev_mut (i := 3) (d := .lst true acc) (x := .lst true acc) (x' := .lst true (acc ++ [en true (n0 C nm r)])) (z := .non) rfl rfl (eva_cons (ev_tup (eva_cons ev_err0 (eva_cons ev_err0 (eva_cons ev_lam (eva_cons (ev_lst eva_nil) eva_nil))))) eva_nil) rfl (by simp [mAppend, hl, en, n0]))
end
theorem made_a {x y z : D} (hx : x.fz = true) (hy : y.fz = true) : F_law_made_a [x, y, z] = .ret (.lst true ((La x y).map (en true))) :=
  fnP_r (r_seq (s_asg (ev_lst eva_nil)) (r_seq (ap1 hx (by simp [sz]))
  (r_seq (ap1 hx (by simp [sz]))
  (r_seq (ap1 hx (by simp [sz]))
  (r_seq (ap1 hx (by simp [sz]))
  (r_seq (ap1 hx (by simp [sz]))
  (r_seq (ap1 hx (by simp [sz]))
  (r_seq (ap1 hx (by simp [sz]))
  (r_seq (ap1 hx (by simp [sz]))
  (r_seq (ap1 hx (by simp [sz]))
  (r_seq (ap1 hx (by simp [sz]))
  (r_seq (ap1 hx (by simp [sz]))
  (r_seq (ap1 hx (by simp [sz]))
  (r_seq (ap1 hx (by simp [sz]))
  (r_seq (ap1 hx (by simp [sz]))
  (r_seq (ap1 hx (by simp [sz]))
  (r_seq (ap1 hx (by simp [sz]))
  (r_seq (ap1 hx (by simp [sz]))
  (r_seq (ap1 hx (by simp [sz]))
  (r_ret (ev_mv rfl)))))))))))))))))))))
theorem made_b {x y z : D} (hx : x.fz = true) (hy : y.fz = true) : F_law_made_b [x, y, z] = .ret (.lst true ((Lb x y).map (en true))) :=
  fnP_r (r_seq (s_asg (ev_lst eva_nil)) (r_seq (ap1 hx (by simp [sz]))
  (r_seq (ap1 hx (by simp [sz]))
  (r_seq (ap1 hx (by simp [sz]))
  (r_seq (ap1 hx (by simp [sz]))
  (r_seq (ap1 hx (by simp [sz]))
  (r_seq (ap1 hx (by simp [sz]))
  (r_seq (ap1 hx (by simp [sz]))
  (r_seq (ap1 hx (by simp [sz]))
  (r_seq (ap1 hx (by simp [sz]))
  (r_seq (ap1 hx (by simp [sz]))
  (r_seq (ap1 hx (by simp [sz]))
  (r_seq (ap1 hx (by simp [sz]))
  (r_seq (ap1 hx (by simp [sz]))
  (r_seq (ap1 hx (by simp [sz]))
  (r_seq (ap1 hx (by simp [sz]))
  (r_seq (ap1 hx (by simp [sz]))
  (r_seq (ap1 hx (by simp [sz]))
  (r_seq (ap1 hx (by simp [sz]))
  (r_ret (ev_mv rfl)))))))))))))))))))))
theorem made_c {x y z : D} (hx : x.fz = true) (hy : y.fz = true) : F_law_made_c [x, y, z] = .ret (.lst true ((Lc x y).map (en true))) :=
  fnP_r (r_seq (s_asg (ev_lst eva_nil)) (r_seq (ap1 hx (by simp [sz]))
  (r_seq (ap1 hx (by simp [sz]))
  (r_seq (ap2 hx hy (by simp [sz]))
  (r_seq (ap1 hx (by simp [sz]))
  (r_seq (ap1 hx (by simp [sz]))
  (r_seq (ap1 hx (by simp [sz]))
  (r_seq (ap1 hx (by simp [sz]))
  (r_seq (ap1 hx (by simp [sz]))
  (r_seq (ap1 hx (by simp [sz]))
  (r_seq (ap1 hx (by simp [sz]))
  (r_seq (ap2 hx hy (by simp [sz]))
  (r_seq (ap1 hx (by simp [sz]))
  (r_seq (ap1 hx (by simp [sz]))
  (r_seq (ap1 hx (by simp [sz]))
  (r_seq (ap1 hx (by simp [sz]))
  (r_seq (ap0 (by simp [sz]))
  (r_seq (ap1 hx (by simp [sz]))
  (r_seq (ap1 hx (by simp [sz]))
  (r_ret (ev_mv rfl)))))))))))))))))))))
theorem made_d {x y z : D} (hx : x.fz = true) (hy : y.fz = true) : F_law_made_d [x, y, z] = .ret (.lst true ((Ld x y).map (en true))) :=
  fnP_r (r_seq (s_asg (ev_lst eva_nil)) (r_seq (ap1 hx (by simp [sz]))
  (r_seq (ap1 hx (by simp [sz]))
  (r_seq (ap2 hx hy (by simp [sz]))
  (r_seq (ap0 (by simp [sz]))
  (r_seq (ap1 hx (by simp [sz]))
  (r_seq (ap1 hx (by simp [sz]))
  (r_seq (ap1 hx (by simp [sz]))
  (r_seq (ap0 (by simp [sz]))
  (r_seq (ap1 hx (by simp [sz]))
  (r_seq (ap1 hx (by simp [sz]))
  (r_seq (ap2 hx hy (by simp [sz]))
  (r_ret (ev_mv rfl))))))))))))))
end K00M
end
end
section
set_option linter.all false
set_option autoImplicit false
set_option maxRecDepth 100000
set_option maxHeartbeats 4000000
noncomputable section
namespace K00M
open PySem PySem.W L2 IL IS K00
def isE (C C' : Str) : Bool := decide (C = C') || decide (C' = "NestError")
section
variable {ρ : Ro} {C : Str} {fs : List Str} {vs acc : List D}
theorem err_fz (h : fzs vs = true) : (D.err C fs vs).fz = true := by simpa [D.fz] using h
theorem isi_ok (hC : C ∈ erl) (h : fzs vs = true) {C' : Str} (hC' : C' ∈ erl) (h0 : ρ[0]? = some (some (.err C fs vs))) : Ev (eOp2 (fIsiE erl "NestError") (eVar 0) (eC (.glo C'))) ρ (.bl (isE C C')) ρ := by
  refine ev_o2 (ev_var h0 (err_fz h)) ev_c ?_
  simp only [D.frz, fIsiE]
  rw [if_pos ⟨hC, hC'⟩]
  rfl
theorem isi_t (hC : C ∈ erl) (h : fzs vs = true) {n : String} {b : Bool} (hn : (if n = "ValueError" then some (D.bl true) else if n ∈ ["LookupError", "ArithmeticError", "TypeError"] then some (.bl false) else none) = some (.bl b)) (h0 : ρ[0]? = some (some (.err C fs vs))) : Ev (eOp2 (fIsiE erl "NestError") (eVar 0) (eC (.ty n))) ρ (.bl b) ρ := by
  refine ev_o2 (ev_var h0 (err_fz h)) ev_c ?_
  simp only [D.frz, fIsiE]
  rw [if_pos hC]
  exact hn
theorem kx2 (hC : C ∈ erl) (h : fzs vs = true) {C1 C2 : Str} (h1 : C1 ∈ erl) (h2 : C2 ∈ erl) (hl : acc.length + 2 ≤ sz) : sExp (eMut mExtO (eKd kLst (eVar 1)) (aCons (eLst (aCons (eOp2 (fIsiE erl "NestError") (eVar 0) (eC (.glo C1))) (aCons (eOp2 (fIsiE erl "NestError") (eVar 0) (eC (.glo C2))) aNil))) aNil)) [some (.err C fs vs), some (.lst true acc)] = .nx [some (.err C fs vs), some (.lst true (acc ++ [.bl (isE C C1), .bl (isE C C2)]))] :=
  s_exp (ev_mut (i := 1) (d := .lst true acc) (x := .lst true acc) (z := .non) rfl rfl (eva_cons (ev_lst (eva_cons (isi_ok hC h h1 rfl) (eva_cons (isi_ok hC h h2 rfl) eva_nil))) eva_nil) rfl (by simp [mExtO, hl]))
theorem kx1 (hC : C ∈ erl) (h : fzs vs = true) {C1 : Str} (h1 : C1 ∈ erl) (hl : acc.length + 1 ≤ sz) : sExp (eMut mExtO (eKd kLst (eVar 1)) (aCons (eLst (aCons (eOp2 (fIsiE erl "NestError") (eVar 0) (eC (.glo C1))) aNil)) aNil)) [some (.err C fs vs), some (.lst true acc)] = .nx [some (.err C fs vs), some (.lst true (acc ++ [.bl (isE C C1)]))] :=
  s_exp (ev_mut (i := 1) (d := .lst true acc) (x := .lst true acc) (z := .non) rfl rfl (eva_cons (ev_lst (eva_cons (isi_ok hC h h1 rfl) eva_nil)) eva_nil) rfl (by simp [mExtO, hl]))
def kb (C : Str) (l : List Str) : List D := l.map fun C' => .bl (isE C C')
def kl_a : List Str := ["BadDeed", "BadForest", "BadForm", "BadFrame", "BadFrames", "BadGauge", "BadGrove", "BadHeight", "BadHigh", "BadHollow", "BadKind", "BadLevels", "BadLosses", "BadLot", "BadLots", "BadLow", "BadMany", "BadMost"]
theorem kinds_a (hC : C ∈ erl) (h : fzs vs = true) : F_law_kinds_a [.err C fs vs] = .ret (.lst true (kb C kl_a)) :=
  fnP_r (r_seq (s_asg (ev_lst eva_nil)) (r_seq (kx2 hC h (by decide +kernel) (by decide +kernel) (by simp [sz]))
  (r_seq (kx2 hC h (by decide +kernel) (by decide +kernel) (by simp [sz]))
  (r_seq (kx2 hC h (by decide +kernel) (by decide +kernel) (by simp [sz]))
  (r_seq (kx2 hC h (by decide +kernel) (by decide +kernel) (by simp [sz]))
  (r_seq (kx2 hC h (by decide +kernel) (by decide +kernel) (by simp [sz]))
  (r_seq (kx2 hC h (by decide +kernel) (by decide +kernel) (by simp [sz]))
  (r_seq (kx2 hC h (by decide +kernel) (by decide +kernel) (by simp [sz]))
  (r_seq (kx2 hC h (by decide +kernel) (by decide +kernel) (by simp [sz]))
  (r_seq (kx2 hC h (by decide +kernel) (by decide +kernel) (by simp [sz]))
  (r_ret (ev_mv rfl))))))))))))
def kl_b : List Str := ["BadName", "BadNest", "BadNumber", "BadOrder", "BadOther", "BadParting", "BadPicture", "BadPlaces", "BadPrice", "BadPriced", "BadPulls", "BadQuestion", "BadRoots", "BadRows", "BadSession", "BadSharing", "BadSome", "BadSorter"]
theorem kinds_b (hC : C ∈ erl) (h : fzs vs = true) : F_law_kinds_b [.err C fs vs] = .ret (.lst true (kb C kl_b)) :=
  fnP_r (r_seq (s_asg (ev_lst eva_nil)) (r_seq (kx2 hC h (by decide +kernel) (by decide +kernel) (by simp [sz]))
  (r_seq (kx2 hC h (by decide +kernel) (by decide +kernel) (by simp [sz]))
  (r_seq (kx2 hC h (by decide +kernel) (by decide +kernel) (by simp [sz]))
  (r_seq (kx2 hC h (by decide +kernel) (by decide +kernel) (by simp [sz]))
  (r_seq (kx2 hC h (by decide +kernel) (by decide +kernel) (by simp [sz]))
  (r_seq (kx2 hC h (by decide +kernel) (by decide +kernel) (by simp [sz]))
  (r_seq (kx2 hC h (by decide +kernel) (by decide +kernel) (by simp [sz]))
  (r_seq (kx2 hC h (by decide +kernel) (by decide +kernel) (by simp [sz]))
  (r_seq (kx2 hC h (by decide +kernel) (by decide +kernel) (by simp [sz]))
  (r_ret (ev_mv rfl))))))))))))
def kl_c : List Str := ["BadSplit", "BadTable", "BadText", "BadTies", "BadTold", "BadTree", "BadTriple", "BadTriples", "BadTwice", "BadWeb", "Crossing", "InUse", "IsThere", "IsWatched", "NoCount", "NoFrame", "NoLot", "NoParts"]
theorem kinds_c (hC : C ∈ erl) (h : fzs vs = true) : F_law_kinds_c [.err C fs vs] = .ret (.lst true (kb C kl_c)) :=
  fnP_r (r_seq (s_asg (ev_lst eva_nil)) (r_seq (kx2 hC h (by decide +kernel) (by decide +kernel) (by simp [sz]))
  (r_seq (kx2 hC h (by decide +kernel) (by decide +kernel) (by simp [sz]))
  (r_seq (kx2 hC h (by decide +kernel) (by decide +kernel) (by simp [sz]))
  (r_seq (kx2 hC h (by decide +kernel) (by decide +kernel) (by simp [sz]))
  (r_seq (kx2 hC h (by decide +kernel) (by decide +kernel) (by simp [sz]))
  (r_seq (kx2 hC h (by decide +kernel) (by decide +kernel) (by simp [sz]))
  (r_seq (kx2 hC h (by decide +kernel) (by decide +kernel) (by simp [sz]))
  (r_seq (kx2 hC h (by decide +kernel) (by decide +kernel) (by simp [sz]))
  (r_seq (kx2 hC h (by decide +kernel) (by decide +kernel) (by simp [sz]))
  (r_ret (ev_mv rfl))))))))))))
def kl_d : List Str := ["NoPlace", "NoRoot", "NoTie", "NotFull", "NotNow", "NotThere", "NotWatched", "OtherPlaces", "SamePlace", "SavesNothing", "WouldChange"]
theorem kinds_d (hC : C ∈ erl) (h : fzs vs = true) : F_law_kinds_d [.err C fs vs] = .ret (.lst true (kb C kl_d)) :=
  fnP_r (r_seq (s_asg (ev_lst eva_nil)) (r_seq (kx2 hC h (by decide +kernel) (by decide +kernel) (by simp [sz]))
  (r_seq (kx2 hC h (by decide +kernel) (by decide +kernel) (by simp [sz]))
  (r_seq (kx2 hC h (by decide +kernel) (by decide +kernel) (by simp [sz]))
  (r_seq (kx2 hC h (by decide +kernel) (by decide +kernel) (by simp [sz]))
  (r_seq (kx2 hC h (by decide +kernel) (by decide +kernel) (by simp [sz]))
  (r_seq (kx1 hC h (by decide +kernel) (by simp [sz]))
  (r_ret (ev_mv rfl)))))))))
theorem kb_frz (C : Str) (l : List Str) : frzs (kb C l) = kb C l := frzs_bls (fun C' => isE C C') l
theorem kinds_ok (hC : C ∈ erl) (h : fzs vs = true) : F_law_kinds [.err C fs vs] = .ret (.lst true (kb C kcl)) := by
  have c : ∀ {F : Fp} {l : List Str}, F [.err C fs vs] = .ret (.lst true (kb C l)) → Ev (eCallP F (pCons (eVar 0) pNil)) [some (.err C fs vs)] (.lst true (kb C l)) [some (.err C fs vs)] := fun {F l} e => ev_call (evp_cons (ev_var rfl (err_fz h)) evp_nil) (by simp only [frzs, D.frz, frzs_fz h]; exact e)
  have ad : ∀ {a b : Ex} {l l' : List Str} {ρ : Ro}, l.length + l'.length ≤ 100 → Ev a ρ (.lst true (kb C l)) ρ → Ev b ρ (.lst true (kb C l')) ρ → Ev (eOp2 fAdd a b) ρ (.lst true (kb C (l ++ l'))) ρ := fun {a b l l' ρ} hl ha hb => ev_o2 ha hb (by
    simp only [D.frz, kb_frz, fAdd]
    rw [if_pos (by simp only [kb, List.length_map]; show _ ≤ 16777216; omega)]
    simp [kb])
  have ek : kcl = ((kl_a ++ kl_b) ++ kl_c) ++ kl_d := rfl
  rw [ek]
  exact fnP_r (r_ret (ad (by decide) (ad (by decide) (ad (by decide) (c (kinds_a hC h)) (c (kinds_b hC h))) (c (kinds_c hC h))) (c (kinds_d hC h))))
theorem eqv_bls : ∀ (a b : List Bool), PyData.eqvAll (pys (a.map D.bl)) (pys (b.map D.bl)) = decide (a = b)
  | [], [] => rfl
  | [], b :: bs => by simp [pys, PyData.eqvAll]
  | a :: as, [] => by simp [pys, PyData.eqvAll]
  | a :: as, b :: bs => by
    have ih := eqv_bls as bs
    simp only [List.map_cons, pys, PyData.eqvAll, ih]
    cases a <;> cases b <;> simp [D.py, PyData.eqv]
theorem pls_bls (a : List Bool) (n : Nat) : pls (a.map D.bl) n = true := by
  rw [pls_iff]
  intro d hd
  obtain ⟨b, _, rfl⟩ := List.mem_map.mp hd
  rfl
theorem fEq_bls {m m' : Bool} (a b : List Bool) : fEq (.lst m (a.map D.bl)) (.lst m' (b.map D.bl)) = some (.bl (decide (a = b))) := by
  unfold fEq
  have e : ∀ (m : Bool) (a : List Bool), (D.lst m (a.map D.bl)).pl 60 = true := fun m a => by simp [D.pl, pls_bls]
  rw [e, e]
  simp only [Bool.and_self, if_true]
  have := eqv_bls a b
  simp [D.py, PyData.eqv, this]
theorem own_tab : ∀ i : Fin 65, (kcl.map (isE (kcl.getD i.val ""))) = (List.range 65).map (fun k : Nat => decide ((k : Int) = (i.val : Int))) := by decide +kernel
theorem is_own_ok {i : Nat} (hi : kcl[i]? = some C) (h : fzs vs = true) : F_law_is_own [.err C fs vs, .int i] = .ret (.bl true) := by
  have hC : C ∈ erl := kcl_er C (List.mem_of_getElem? hi)
  have hlt : i < 65 := (List.getElem?_eq_some_iff.mp hi).1
  have z : ∀ ρ : Ro, ρ = [some (D.err C fs vs), some (.int i), none] → ρ[0]? = some (some (.err C fs vs)) := fun ρ e => by rw [e]; rfl
  have t1 : EvT (IL.tOr (IL.tNot (tV (eOp2 (fIsiE erl "NestError") (eVar 0) (eC (.glo "NestError"))))) (IL.tNot (tV (eOp2 (fIsiE erl "NestError") (eVar 0) (eC (.ty "ValueError")))))) [some (.err C fs vs), some (.int i), none] false [some (.err C fs vs), some (.int i), none] := by
    have a := evt_not (evt_V (isi_ok (ρ := [some (.err C fs vs), some (.int i), none]) hC h (C' := "NestError") (by decide +kernel) rfl) (q := isE C "NestError") rfl)
    have b := evt_not (evt_V (isi_t (ρ := [some (.err C fs vs), some (.int i), none]) hC h (n := "ValueError") (b := true) rfl rfl) (q := true) rfl)
    have e : isE C "NestError" = true := by simp [isE]
    rw [e] at a
    exact evt_or a b
  have t2 : EvT (IL.tOr (tV (eOp2 (fIsiE erl "NestError") (eVar 0) (eC (.ty "LookupError")))) (IL.tOr (tV (eOp2 (fIsiE erl "NestError") (eVar 0) (eC (.ty "ArithmeticError")))) (tV (eOp2 (fIsiE erl "NestError") (eVar 0) (eC (.ty "TypeError")))))) [some (.err C fs vs), some (.int i), none] false [some (.err C fs vs), some (.int i), none] :=
    evt_or (evt_V (isi_t hC h (b := false) (by rw [if_neg (by decide), if_pos (by decide)]) rfl) rfl) (evt_or (evt_V (isi_t hC h (b := false) (by rw [if_neg (by decide), if_pos (by decide)]) rfl) rfl) (evt_V (isi_t hC h (b := false) (by rw [if_neg (by decide), if_pos (by decide)]) rfl) rfl))
  have e3 : Ev lc_law_is_own_1 [some (.err C fs vs), some (.int i), none] (.lst true ((List.range 65).map fun k : Nat => .bl (decide ((k : Int) = (i : Int))))) [some (.err C fs vs), some (.int i), none] :=
    ev_lcα (L := List.range 65) (fun k : Nat => .int (k : Int)) (fun k : Nat => .bl (decide ((k : Int) = (i : Int)))) (q_A (eva_cons ev_c eva_nil) rfl (wR1 (n := 65) (by omega))) rfl fun k hk => ⟨[some (.err C fs vs), some (.int i), some (.int k)], rfl, ev_o2 (ev_var rfl rfl) (ev_var rfl rfl) (by show fEq (.int _) (.int _) = _; rw [fEq_int]), rfl⟩
  have e4 : Ev (eCallP F_law_kinds (pCons (eVar 0) pNil)) [some (.err C fs vs), some (.int i), none] (.lst true (kb C kcl)) [some (.err C fs vs), some (.int i), none] := ev_call (evp_cons (ev_var rfl (err_fz h)) evp_nil) (by simp only [frzs, D.frz, frzs_fz h]; exact kinds_ok hC h)
  have e5 : Ev (eOp2 fEq (eCallP F_law_kinds (pCons (eVar 0) pNil)) lc_law_is_own_1) [some (.err C fs vs), some (.int i), none] (.bl true) [some (.err C fs vs), some (.int i), none] := by
    refine ev_o2 e4 e3 ?_
    have tab := own_tab ⟨i, hlt⟩
    have eC' : kcl.getD i "" = C := by rw [List.getD_eq_getElem?_getD, hi]; rfl
    simp only [eC'] at tab
    have r1 : kb C kcl = (kcl.map (isE C)).map D.bl := by simp [kb]
    have r2 : ((List.range 65).map fun k : Nat => D.bl (decide ((k : Int) = (i : Int)))) = ((List.range 65).map fun k : Nat => decide ((k : Int) = (i : Int))).map D.bl := by rw [List.map_map]; rfl
    simp only [D.frz]
    rw [kb_frz, r1, r2, frzs_fz (by rw [fzs_iff]; intro d hd; obtain ⟨b, _, rfl⟩ := List.mem_map.mp hd; rfl), fEq_bls, tab]
    simp
  exact fnP_r (r_seq (s_ifF t1 rfl) (r_seq (s_ifF t2 rfl) (r_ret e5)))
end
end K00M
end
end
section
set_option linter.all false
set_option autoImplicit false
set_option maxRecDepth 100000
set_option maxHeartbeats 4000000
noncomputable section
namespace K00M
open PySem PySem.W L2 IL IS K00
/-- compared with itself -/
structure SelfOk (x : D) : Prop where
  fz : x.fz = true
  same : F_law_same 15 [x, x] = .ret (.bl true)
section
variable {ρ : Ro}
theorem zip_self (xs : List D) : xs.zip xs = xs.map fun x => (x, x) := by induction xs <;> simp_all
theorem same_lst {ds : List D} {k : Nat} (h : ∀ d ∈ ds, d.fz = true ∧ F_law_same k [d, d] = .ret (.bl true)) : F_law_same (k + 1) [.lst false ds, .lst false ds] = .ret (.bl true) := by
  have hz : (D.lst false ds).fz = true := by simp only [D.fz, Bool.not_false, Bool.true_and]; rw [fzs_iff]; exact fun d hd => (h d hd).1
  have hf : (D.lst false ds).frz = .lst false ds := frz_fz hz
  let r : Ro := [some (.lst false ds), some (.lst false ds), none, none]
  have v0 : Ev (eVar 0) r (.lst false ds) r := ev_var rfl hz
  have v1 : Ev (eVar 1) r (.lst false ds) r := ev_var rfl hz
  have t1 : EvT (IL.tB (eOp2 fIs (eVar 1) (eC .non))) r false r := evt_B (ev_o2 v1 ev_c (by rw [hf]; rfl))
  have t2 : EvT (tV (eOp2 (fIsiG glf) (eVar 1) (eC (.ty "str")))) r false r := evt_V (ev_o2 v1 ev_c (z := .bl false) (by rw [hf]; rfl)) rfl
  have t3 : EvT (tV (eOp2 (fIsiG glf) (eVar 1) (eTup (aCons (eC (.ty "list")) (aCons (eC (.ty "tuple")) aNil))))) r true r := evt_V (ev_o2 v1 (ev_tup (eva_cons ev_c (eva_cons ev_c eva_nil))) (z := .bl true) (by rw [hf]; rfl)) rfl
  have el : ∀ {i : Nat}, Ev (eVar i) r (.lst false ds) r → Ev (eOp2 (fIsiG glf) (eVar i) (eC (.ty "list"))) r (.bl true) r := fun v => ev_o2 v ev_c (by rw [hf]; rfl)
  have et : ∀ {i : Nat}, Ev (eVar i) r (.lst false ds) r → Ev (eOp2 (fIsiG glf) (eVar i) (eC (.ty "tuple"))) r (.bl false) r := fun v => ev_o2 v ev_c (by rw [hf]; rfl)
  have t4 : EvT (IL.tOr (IL.tB (eOp2 fNe (eOp2 (fIsiG glf) (eVar 0) (eC (.ty "list"))) (eOp2 (fIsiG glf) (eVar 1) (eC (.ty "list"))))) (IL.tB (eOp2 fNe (eOp2 (fIsiG glf) (eVar 0) (eC (.ty "tuple"))) (eOp2 (fIsiG glf) (eVar 1) (eC (.ty "tuple")))))) r false r :=
    evt_or (evt_B (ev_o2 (el v0) (el v1) (by rfl))) (evt_B (ev_o2 (et v0) (et v1) (by rfl)))
  have e5 : Ev (eOp2 fEq (eOp1 fLen (eVar 0)) (eOp1 fLen (eVar 1))) r (.bl true) r :=
    ev_o2 (ev_o1 v0 (z := .int ds.length) (by rw [hf]; rfl)) (ev_o1 v1 (z := .int ds.length) (by rw [hf]; rfl)) (by show fEq (.int _) (.int _) = _; rw [fEq_int]; simp)
  have f0 : Ev (eFrz (eVar 0)) r (.lst false ds) r := by have := ev_frz v0; rwa [hf] at this
  have f1 : Ev (eFrz (eVar 1)) r (.lst false ds) r := by have := ev_frz v1; rwa [hf] at this
  have q : qA wZip (aCons (eFrz (eVar 0)) (aCons (eFrz (eVar 1)) aNil)) r = .ok (ds.map fun x => .tup [x, x]) r := q_A (eva_cons f0 (eva_cons f1 eva_nil)) (by simp [fzs, hz]) (by simp only [wZip, zip_self, List.map_map]; rfl)
  have e6 : Ev (lc_law_same_1 (F_law_same k)) r (.lst true (ds.map fun _ => .bl true)) r :=
    ev_lcα (ρ0 := r) (fun x => D.tup [x, x]) (fun _ => D.bl true) q rfl fun x hx =>
      ⟨[some (.lst false ds), some (.lst false ds), some x, some x], rfl, ev_call (evp_cons (ev_var rfl (h x hx).1) (evp_cons (ev_var rfl (h x hx).1) evp_nil)) (by simp only [frzs, frz_fz (h x hx).1]; exact (h x hx).2), rfl⟩
  have e7 : Ev (eOp1 fAll (lc_law_same_1 (F_law_same k))) r (.bl true) r := ev_o1 e6 (by rw [D.frz, frzs_map', List.map_map]; exact (fAll_map (fun _ => true) ds).trans (by simp))
  have e8 : Ev (eT (IL.tAnd (IL.tB (eOp2 fEq (eOp1 fLen (eVar 0)) (eOp1 fLen (eVar 1)))) (IL.tB (eOp1 fAll (lc_law_same_1 (F_law_same k)))))) r (.bl true) r := ev_T (evt_and0 (evt_B e5) fun _ => evt_B e7)
  exact fnP_r (r_seq (s_ifF t1 rfl) (r_seq (s_ifF t2 rfl) (r_seqR (r_if t3 (r_seq (s_ifF t4 rfl) (r_ret e8))))))
theorem these_ok {ds : List D} (h : ∀ d ∈ ds, SelfOk d) : F_law_are_these [.lst false ds, .lst false ds] = .ret (.bl true) := by
  have hz : (D.lst false ds).fz = true := by simp only [D.fz, Bool.not_false, Bool.true_and]; rw [fzs_iff]; exact fun d hd => (h d hd).fz
  exact fnP_r (r_ret (ev_call (evp_cons (ev_var rfl hz) (evp_cons (ev_var rfl hz) evp_nil)) (by simp only [frzs, frz_fz hz]; exact same_lst fun d hd => ⟨(h d hd).fz, (h d hd).same⟩)))
/-! ### the fields -/
structure Gd (e : En) : Prop where
  fv : fzs e.vs = true
  app : e.C ∈ erl → e.F [.err e.C e.fs e.vs] = .ret (.lst true e.due)
  due : ∀ d ∈ e.due, SelfOk d
theorem ev_fld {C f : Str} {fs : List Str} {vs : List D} {c : D} (hC : C ∈ erl) (hz : fzs vs = true) (hl : lkk fs vs f = some c) (h0 : ρ[0]? = some (some (.err C fs vs))) : Ev (eErrF erl f (eVar 0)) ρ c ρ := by
  obtain ⟨st, h⟩ := (ev_var h0 (err_fz hz)).own
  refine ⟨none, false, ?_, .inl rfl⟩
  unfold eErrF
  rw [h]
  simp only [if_pos hC, hl]
theorem fnE_ok {b : Ex} {ds : List D} {d : D} {ρ' : Ro} (h : Ev b (ds.map some) d ρ') : fnE b ds = .ret d := by
  obtain ⟨st, h⟩ := h.own
  simp [fnE, h]
theorem gd1 {C f nm : Str} {r : LamR} {x : D} (hx : SelfOk x) : Gd (n1 C f nm r x) :=
  ⟨by simp [n1, fzs, hx.fz], fun hC => fnE_ok (ev_lst (eva_cons (ev_fld hC (by simp [fzs, hx.fz, n1]) (by simp [lkk, n1]) rfl) eva_nil)), by simp [n1, hx]⟩
theorem gd2 {C f1 f2 nm : Str} {r : LamR} {x y : D} (hne : f2 ≠ f1) (hx : SelfOk x) (hy : SelfOk y) : Gd (n2 C f1 f2 nm r x y) :=
  ⟨by simp [n2, fzs, hx.fz, hy.fz], fun hC => fnE_ok (ev_lst (eva_cons (ev_fld hC (by simp [fzs, hx.fz, hy.fz, n2]) (by simp [lkk, n2, hne]) rfl) (eva_cons (ev_fld hC (by simp [fzs, hx.fz, hy.fz, n2]) (by simp [lkk, n2]) rfl) eva_nil))), by simp [n2, hx, hy]⟩
theorem gd0 {C nm : Str} {r : LamR} : Gd (n0 C nm r) := ⟨rfl, fun hC => show fnE (eLst aNil) [.err C [] []] = _ from fnE_ok (ev_lst eva_nil), by simp [n0]⟩
theorem gd_a {x y : D} (hx : SelfOk x) (hy : SelfOk y) : ∀ e ∈ La x y, Gd e := (List.forall_mem_cons.mpr ⟨gd1 hx, (List.forall_mem_cons.mpr ⟨gd1 hx, (List.forall_mem_cons.mpr ⟨gd1 hx, (List.forall_mem_cons.mpr ⟨gd1 hx, (List.forall_mem_cons.mpr ⟨gd1 hx, (List.forall_mem_cons.mpr ⟨gd1 hx, (List.forall_mem_cons.mpr ⟨gd1 hx, (List.forall_mem_cons.mpr ⟨gd1 hx, (List.forall_mem_cons.mpr ⟨gd1 hx, (List.forall_mem_cons.mpr ⟨gd1 hx, (List.forall_mem_cons.mpr ⟨gd1 hx, (List.forall_mem_cons.mpr ⟨gd1 hx, (List.forall_mem_cons.mpr ⟨gd1 hx, (List.forall_mem_cons.mpr ⟨gd1 hx, (List.forall_mem_cons.mpr ⟨gd1 hx, (List.forall_mem_cons.mpr ⟨gd1 hx, (List.forall_mem_cons.mpr ⟨gd1 hx, (List.forall_mem_cons.mpr ⟨gd1 hx, (fun _ z => absurd z List.not_mem_nil)⟩)⟩)⟩)⟩)⟩)⟩)⟩)⟩)⟩)⟩)⟩)⟩)⟩)⟩)⟩)⟩)⟩)⟩)
theorem gd_b {x y : D} (hx : SelfOk x) (hy : SelfOk y) : ∀ e ∈ Lb x y, Gd e := (List.forall_mem_cons.mpr ⟨gd1 hx, (List.forall_mem_cons.mpr ⟨gd1 hx, (List.forall_mem_cons.mpr ⟨gd1 hx, (List.forall_mem_cons.mpr ⟨gd1 hx, (List.forall_mem_cons.mpr ⟨gd1 hx, (List.forall_mem_cons.mpr ⟨gd1 hx, (List.forall_mem_cons.mpr ⟨gd1 hx, (List.forall_mem_cons.mpr ⟨gd1 hx, (List.forall_mem_cons.mpr ⟨gd1 hx, (List.forall_mem_cons.mpr ⟨gd1 hx, (List.forall_mem_cons.mpr ⟨gd1 hx, (List.forall_mem_cons.mpr ⟨gd1 hx, (List.forall_mem_cons.mpr ⟨gd1 hx, (List.forall_mem_cons.mpr ⟨gd1 hx, (List.forall_mem_cons.mpr ⟨gd1 hx, (List.forall_mem_cons.mpr ⟨gd1 hx, (List.forall_mem_cons.mpr ⟨gd1 hx, (List.forall_mem_cons.mpr ⟨gd1 hx, (fun _ z => absurd z List.not_mem_nil)⟩)⟩)⟩)⟩)⟩)⟩)⟩)⟩)⟩)⟩)⟩)⟩)⟩)⟩)⟩)⟩)⟩)⟩)
theorem gd_c {x y : D} (hx : SelfOk x) (hy : SelfOk y) : ∀ e ∈ Lc x y, Gd e := (List.forall_mem_cons.mpr ⟨gd1 hx, (List.forall_mem_cons.mpr ⟨gd1 hx, (List.forall_mem_cons.mpr ⟨gd2 (by decide) hx hy, (List.forall_mem_cons.mpr ⟨gd1 hx, (List.forall_mem_cons.mpr ⟨gd1 hx, (List.forall_mem_cons.mpr ⟨gd1 hx, (List.forall_mem_cons.mpr ⟨gd1 hx, (List.forall_mem_cons.mpr ⟨gd1 hx, (List.forall_mem_cons.mpr ⟨gd1 hx, (List.forall_mem_cons.mpr ⟨gd1 hx, (List.forall_mem_cons.mpr ⟨gd2 (by decide) hx hy, (List.forall_mem_cons.mpr ⟨gd1 hx, (List.forall_mem_cons.mpr ⟨gd1 hx, (List.forall_mem_cons.mpr ⟨gd1 hx, (List.forall_mem_cons.mpr ⟨gd1 hx, (List.forall_mem_cons.mpr ⟨gd0, (List.forall_mem_cons.mpr ⟨gd1 hx, (List.forall_mem_cons.mpr ⟨gd1 hx, (fun _ z => absurd z List.not_mem_nil)⟩)⟩)⟩)⟩)⟩)⟩)⟩)⟩)⟩)⟩)⟩)⟩)⟩)⟩)⟩)⟩)⟩)⟩)
theorem gd_d {x y : D} (hx : SelfOk x) (hy : SelfOk y) : ∀ e ∈ Ld x y, Gd e := (List.forall_mem_cons.mpr ⟨gd1 hx, (List.forall_mem_cons.mpr ⟨gd1 hx, (List.forall_mem_cons.mpr ⟨gd2 (by decide) hx hy, (List.forall_mem_cons.mpr ⟨gd0, (List.forall_mem_cons.mpr ⟨gd1 hx, (List.forall_mem_cons.mpr ⟨gd1 hx, (List.forall_mem_cons.mpr ⟨gd1 hx, (List.forall_mem_cons.mpr ⟨gd0, (List.forall_mem_cons.mpr ⟨gd1 hx, (List.forall_mem_cons.mpr ⟨gd1 hx, (List.forall_mem_cons.mpr ⟨gd2 (by decide) hx hy, (fun _ z => absurd z List.not_mem_nil)⟩)⟩)⟩)⟩)⟩)⟩)⟩)⟩)⟩)⟩)⟩)
theorem gd_all {x y : D} (hx : SelfOk x) (hy : SelfOk y) : ∀ e ∈ LL x y, Gd e := by
  intro e he
  unfold LL at he
  simp only [List.mem_append] at he
  rcases he with ((he | he) | he) | he
  · exact gd_a hx hy e he
  · exact gd_b hx hy e he
  · exact gd_c hx hy e he
  · exact gd_d hx hy e he
theorem lookup_map {β : Type} : ∀ {L : List En} {e : En} (f : En → β), (L.map En.nm).Nodup → e ∈ L → (L.map fun e => (e.nm, f e)).lookup e.nm = some (f e)
  | [], _, _, _, h => nomatch h
  | a :: L, e, f, hn, h => by
    rw [List.map_cons, List.lookup_cons]
    rw [List.map_cons, List.nodup_cons] at hn
    rcases List.mem_cons.mp h with rfl | h
    · simp
    · have hne : (e.nm == a.nm) = false := by
        cases hb : (e.nm == a.nm) with
        | false => rfl
        | true => exact absurd (eq_of_beq hb ▸ List.mem_map.mpr ⟨e, h, rfl⟩) hn.1
      rw [hne]
      exact lookup_map f hn.2 h
theorem lt_nodup : (lt_law.map (·.1)).Nodup := by decide +kernel
theorem lt_find {x y : D} {e : En} (he : e ∈ LL x y) : lt_law.lookup e.nm = some (e.r, e.F) := by
  rw [← LL_lt x y]
  refine lookup_map (fun e => (e.r, e.F)) ?_ he
  have : ((LL x y).map En.nm) = lt_law.map (·.1) := by rw [← LL_lt x y, List.map_map]; rfl
  rw [this]
  exact lt_nodup
theorem C_at {x y : D} {e : En} {i : Nat} (he : (LL x y)[i]? = some e) : kcl[i]? = some e.C := by
  rw [← LL_C x y, List.getElem?_map, he]; rfl
theorem ev_callL {tb : LTab} {i : Nat} {p : Pe} {nm : Str} {r : LamR} {F : Fp} {ds : List D} {d : D} (h : ρ[i]? = some (some (.lam nm r))) (hl : tb.lookup nm = some (r, F)) (hp : EvP p ρ ds ρ) (hF : F (frzs ds) = .ret d) : Ev (eCallL tb i p) ρ d ρ := by
  obtain ⟨l, st, h1, h2⟩ := ev_call hp hF
  refine ⟨l, st, ?_, h2⟩
  unfold eCallL
  rw [h]
  simp only [hl, if_true]
  exact h1
/-- the two looks at a field -/
theorem these_t {x y : D} {e : En} {ρ : Ro} {k : Nat} (he : e ∈ LL x y) (hC : e.C ∈ erl) (g : Gd e) (hk : ρ[k]? = some (some (.err e.C e.fs e.vs))) (h11 : ρ[11]? = some (some (.lam e.nm e.r))) (h12 : ρ[12]? = some (some (.lst false e.due))) :
    EvT (IL.tNot (tV (eCallP F_law_are_these (pCons (eCallL lt_law 11 (pCons (eVar k) pNil)) (pCons (eVar 12) pNil))))) ρ false ρ := by
  have hz : (D.lst false e.due).fz = true := by simp only [D.fz, Bool.not_false, Bool.true_and]; rw [fzs_iff]; exact fun d hd => (g.due d hd).fz
  have hz2 : frzs e.due = e.due := frzs_fz (by rw [fzs_iff]; exact fun d hd => (g.due d hd).fz)
  have e1 : Ev (eCallL lt_law 11 (pCons (eVar k) pNil)) ρ (.lst true e.due) ρ := ev_callL h11 (lt_find he) (evp_cons (ev_var hk (err_fz g.fv)) evp_nil) (by simp only [frzs, D.frz, frzs_fz g.fv]; exact g.app hC)
  exact evt_not (evt_V (ev_call (evp_cons e1 (evp_cons (ev_var h12 hz) evp_nil)) (by simp only [frzs, D.frz, hz2]; exact these_ok g.due)) rfl)
end
end K00M
end
end
section
set_option linter.all false
set_option autoImplicit false
set_option maxRecDepth 100000
set_option maxHeartbeats 4000000
noncomputable section
namespace K00M
open PySem PySem.W L2 IL IS K00
/-! ### no cell, no script within -/
mutual
def ncl : D → Bool
  | .cel _ _ => false
  | .scr _ => false
  | .lst _ xs => ncls xs
  | .tup xs => ncls xs
  | .dct _ _ _ vs => ncls vs
  | .ins _ _ _ vs => ncls vs
  | .err _ _ vs => ncls vs
  | .non => true | .bl _ => true | .int _ => true | .str _ => true | .ty _ => true | .glo _ => true | .lam _ _ => true
def ncls : List D → Bool
  | [] => true
  | x :: xs => ncl x && ncls xs
end
mutual
theorem ncl_rel (a : Nat) (zs : List D) : ∀ {d : D}, ncl d = true → d.okC a = true ∧ d.rel a zs = d
  | .cel _ _, h => by simp [ncl] at h
  | .scr _, h => by simp [ncl] at h
  | .lst _ xs, h => by simp only [ncl] at h; have := ncls_rel a zs h; simp [D.okC, D.rel, this]
  | .tup xs, h => by simp only [ncl] at h; have := ncls_rel a zs h; simp [D.okC, D.rel, this]
  | .dct _ _ _ vs, h => by simp only [ncl] at h; have := ncls_rel a zs h; simp [D.okC, D.rel, this]
  | .ins _ _ _ vs, h => by simp only [ncl] at h; have := ncls_rel a zs h; simp [D.okC, D.rel, this]
  | .err _ _ vs, h => by simp only [ncl] at h; have := ncls_rel a zs h; simp [D.okC, D.rel, this]
  | .non, _ => ⟨rfl, rfl⟩ | .bl _, _ => ⟨rfl, rfl⟩ | .int _, _ => ⟨rfl, rfl⟩ | .str _, _ => ⟨rfl, rfl⟩ | .ty _, _ => ⟨rfl, rfl⟩ | .glo _, _ => ⟨rfl, rfl⟩ | .lam _ _, _ => ⟨rfl, rfl⟩
theorem ncls_rel (a : Nat) (zs : List D) : ∀ {ds : List D}, ncls ds = true → okCs a ds = true ∧ rels a zs ds = ds
  | [], _ => ⟨rfl, rfl⟩
  | d :: ds, h => by
    simp only [ncls, Bool.and_eq_true] at h
    have h1 := ncl_rel a zs h.1
    have h2 := ncls_rel a zs h.2
    simp [okCs, rels, h1, h2]
end
theorem ncls_iff : ∀ {ds : List D}, ncls ds = true ↔ ∀ d ∈ ds, ncl d = true
  | [] => by simp [ncls]
  | d :: ds => by simp [ncls, ncls_iff (ds := ds)]
/-- whatever cell is given free, the slot is then the same -/
def Nc (o : Option D) : Prop := ∀ a zs, relO a zs o = relO 0 [] o
theorem nc_none : Nc none := fun _ _ => rfl
theorem nc_of {d : D} (h : ncl d = true) : Nc (some d) := fun a zs => by
  simp [relO, ncl_rel a zs h, ncl_rel 0 [] h]
theorem nc_scr {ns : List Int} : Nc (some (.scr ns)) := fun a zs => by simp [relO, D.okC]
theorem ncls_ints (ns : List Int) : ncls (ns.map .int) = true := by rw [ncls_iff]; intro d hd; obtain ⟨i, _, rfl⟩ := List.mem_map.mp hd; rfl
theorem st_ncl {n : Nat} {s : D} (h : St n s) : ncl s = true := by
  obtain ⟨cs, r, c, m, rfl, _⟩ := h
  simp [ncl, ncls, ncls_ints]
/-! ### what is drawn of -/
def some15 : List D := [.non, .int 5, .int (-1), .bl true, .str "a", .str "", .lst false [.int 1, .str "b"], .tup [.int 2, .non], .dct false false [.k (.inr "a")] [.int 1], .lst false [.lst false [.str "x"]], .int (10 ^ 30), .tup [.str "s", .int 3], .bl false, .int 0, .int 1]
theorem s15_fz : fzs some15 = true := by decide
theorem s15_ncl : ncls some15 = true := by decide
theorem s15_self : ∀ d ∈ some15, SelfOk d := by
  have h := fun d hd => fzs_iff.mp s15_fz d hd
  refine List.forall_mem_cons.mpr ⟨⟨rfl, by kernel_rfl⟩, List.forall_mem_cons.mpr ⟨⟨rfl, by kernel_rfl⟩, List.forall_mem_cons.mpr ⟨⟨rfl, by kernel_rfl⟩, List.forall_mem_cons.mpr ⟨⟨rfl, by kernel_rfl⟩, List.forall_mem_cons.mpr ⟨⟨rfl, by kernel_rfl⟩, List.forall_mem_cons.mpr ⟨⟨rfl, by kernel_rfl⟩, List.forall_mem_cons.mpr ⟨⟨rfl, by kernel_rfl⟩, List.forall_mem_cons.mpr ⟨⟨rfl, by kernel_rfl⟩, List.forall_mem_cons.mpr ⟨⟨rfl, by kernel_rfl⟩, List.forall_mem_cons.mpr ⟨⟨rfl, by kernel_rfl⟩, List.forall_mem_cons.mpr ⟨⟨rfl, by kernel_rfl⟩, List.forall_mem_cons.mpr ⟨⟨rfl, by kernel_rfl⟩, List.forall_mem_cons.mpr ⟨⟨rfl, by kernel_rfl⟩, List.forall_mem_cons.mpr ⟨⟨rfl, by kernel_rfl⟩, List.forall_mem_cons.mpr ⟨⟨rfl, by kernel_rfl⟩, fun _ z => absurd z List.not_mem_nil⟩⟩⟩⟩⟩⟩⟩⟩⟩⟩⟩⟩⟩⟩⟩
/-! ### the entries, frozen -/
def Fe (e : En) : Prop := fzs e.vs = true ∧ fzs e.due = true
theorem Gd.fe {e : En} (g : Gd e) : Fe e := ⟨g.fv, by rw [fzs_iff]; exact fun d hd => (g.due d hd).fz⟩
theorem fe1 {C f nm : Str} {r : LamR} {x : D} (hx : x.fz = true) : Fe (n1 C f nm r x) := ⟨by simp [n1, fzs, hx], by simp [n1, fzs, hx]⟩
theorem fe2 {C f1 f2 nm : Str} {r : LamR} {x y : D} (hx : x.fz = true) (hy : y.fz = true) : Fe (n2 C f1 f2 nm r x y) := ⟨by simp [n2, fzs, hx, hy], by simp [n2, fzs, hx, hy]⟩
theorem fe0 {C nm : Str} {r : LamR} : Fe (n0 C nm r) := ⟨rfl, rfl⟩
theorem fe_a {x y : D} (hx : x.fz = true) (hy : y.fz = true) : ∀ e ∈ La x y, Fe e := (List.forall_mem_cons.mpr ⟨fe1 hx, (List.forall_mem_cons.mpr ⟨fe1 hx, (List.forall_mem_cons.mpr ⟨fe1 hx, (List.forall_mem_cons.mpr ⟨fe1 hx, (List.forall_mem_cons.mpr ⟨fe1 hx, (List.forall_mem_cons.mpr ⟨fe1 hx, (List.forall_mem_cons.mpr ⟨fe1 hx, (List.forall_mem_cons.mpr ⟨fe1 hx, (List.forall_mem_cons.mpr ⟨fe1 hx, (List.forall_mem_cons.mpr ⟨fe1 hx, (List.forall_mem_cons.mpr ⟨fe1 hx, (List.forall_mem_cons.mpr ⟨fe1 hx, (List.forall_mem_cons.mpr ⟨fe1 hx, (List.forall_mem_cons.mpr ⟨fe1 hx, (List.forall_mem_cons.mpr ⟨fe1 hx, (List.forall_mem_cons.mpr ⟨fe1 hx, (List.forall_mem_cons.mpr ⟨fe1 hx, (List.forall_mem_cons.mpr ⟨fe1 hx, (fun _ z => absurd z List.not_mem_nil)⟩)⟩)⟩)⟩)⟩)⟩)⟩)⟩)⟩)⟩)⟩)⟩)⟩)⟩)⟩)⟩)⟩)⟩)
theorem fe_b {x y : D} (hx : x.fz = true) (hy : y.fz = true) : ∀ e ∈ Lb x y, Fe e := (List.forall_mem_cons.mpr ⟨fe1 hx, (List.forall_mem_cons.mpr ⟨fe1 hx, (List.forall_mem_cons.mpr ⟨fe1 hx, (List.forall_mem_cons.mpr ⟨fe1 hx, (List.forall_mem_cons.mpr ⟨fe1 hx, (List.forall_mem_cons.mpr ⟨fe1 hx, (List.forall_mem_cons.mpr ⟨fe1 hx, (List.forall_mem_cons.mpr ⟨fe1 hx, (List.forall_mem_cons.mpr ⟨fe1 hx, (List.forall_mem_cons.mpr ⟨fe1 hx, (List.forall_mem_cons.mpr ⟨fe1 hx, (List.forall_mem_cons.mpr ⟨fe1 hx, (List.forall_mem_cons.mpr ⟨fe1 hx, (List.forall_mem_cons.mpr ⟨fe1 hx, (List.forall_mem_cons.mpr ⟨fe1 hx, (List.forall_mem_cons.mpr ⟨fe1 hx, (List.forall_mem_cons.mpr ⟨fe1 hx, (List.forall_mem_cons.mpr ⟨fe1 hx, (fun _ z => absurd z List.not_mem_nil)⟩)⟩)⟩)⟩)⟩)⟩)⟩)⟩)⟩)⟩)⟩)⟩)⟩)⟩)⟩)⟩)⟩)⟩)
theorem fe_c {x y : D} (hx : x.fz = true) (hy : y.fz = true) : ∀ e ∈ Lc x y, Fe e := (List.forall_mem_cons.mpr ⟨fe1 hx, (List.forall_mem_cons.mpr ⟨fe1 hx, (List.forall_mem_cons.mpr ⟨fe2 hx hy, (List.forall_mem_cons.mpr ⟨fe1 hx, (List.forall_mem_cons.mpr ⟨fe1 hx, (List.forall_mem_cons.mpr ⟨fe1 hx, (List.forall_mem_cons.mpr ⟨fe1 hx, (List.forall_mem_cons.mpr ⟨fe1 hx, (List.forall_mem_cons.mpr ⟨fe1 hx, (List.forall_mem_cons.mpr ⟨fe1 hx, (List.forall_mem_cons.mpr ⟨fe2 hx hy, (List.forall_mem_cons.mpr ⟨fe1 hx, (List.forall_mem_cons.mpr ⟨fe1 hx, (List.forall_mem_cons.mpr ⟨fe1 hx, (List.forall_mem_cons.mpr ⟨fe1 hx, (List.forall_mem_cons.mpr ⟨fe0, (List.forall_mem_cons.mpr ⟨fe1 hx, (List.forall_mem_cons.mpr ⟨fe1 hx, (fun _ z => absurd z List.not_mem_nil)⟩)⟩)⟩)⟩)⟩)⟩)⟩)⟩)⟩)⟩)⟩)⟩)⟩)⟩)⟩)⟩)⟩)⟩)
theorem fe_d {x y : D} (hx : x.fz = true) (hy : y.fz = true) : ∀ e ∈ Ld x y, Fe e := (List.forall_mem_cons.mpr ⟨fe1 hx, (List.forall_mem_cons.mpr ⟨fe1 hx, (List.forall_mem_cons.mpr ⟨fe2 hx hy, (List.forall_mem_cons.mpr ⟨fe0, (List.forall_mem_cons.mpr ⟨fe1 hx, (List.forall_mem_cons.mpr ⟨fe1 hx, (List.forall_mem_cons.mpr ⟨fe1 hx, (List.forall_mem_cons.mpr ⟨fe0, (List.forall_mem_cons.mpr ⟨fe1 hx, (List.forall_mem_cons.mpr ⟨fe1 hx, (List.forall_mem_cons.mpr ⟨fe2 hx hy, (fun _ z => absurd z List.not_mem_nil)⟩)⟩)⟩)⟩)⟩)⟩)⟩)⟩)⟩)⟩)⟩)
theorem fe_all {x y : D} (hx : x.fz = true) (hy : y.fz = true) : ∀ e ∈ LL x y, Fe e := by
  intro e he
  unfold LL at he
  simp only [List.mem_append] at he
  rcases he with ((he | he) | he) | he
  · exact fe_a hx hy e he
  · exact fe_b hx hy e he
  · exact fe_c hx hy e he
  · exact fe_d hx hy e he
theorem en_frz {m : Bool} {e : En} (h : Fe e) : (en m e).frz = en false e := by simp [en, D.frz, frzs, frzs_fz h.1, frzs_fz h.2]
theorem ens_frz {m : Bool} {L : List En} (h : ∀ e ∈ L, Fe e) : frzs (L.map (en m)) = L.map (en false) := by
  rw [frzs_map', List.map_map]
  exact List.map_congr_left fun e he => en_frz (h e he)
theorem len4 (x y : D) : (La x y).length = 18 ∧ (Lb x y).length = 18 ∧ (Lc x y).length = 18 ∧ (Ld x y).length = 11 := ⟨rfl, rfl, rfl, rfl⟩
/-! ### what is made -/
section
variable {ρ : Ro} {x y z : D}
theorem made_ev {i j k : Nat} (hx : x.fz = true) (hy : y.fz = true) (hz : z.fz = true) (h1 : ρ[i]? = some (some x)) (h2 : ρ[j]? = some (some y)) (h3 : ρ[k]? = some (some z)) :
    Ev (eOp2 fAdd (eOp2 fAdd (eCallP F_law_made_a (pCons (eVar i) (pCons (eVar j) (pCons (eVar k) pNil)))) (eCallP F_law_made_b (pCons (eVar i) (pCons (eVar j) (pCons (eVar k) pNil))))) (eCallP F_law_made_c (pCons (eVar i) (pCons (eVar j) (pCons (eVar k) pNil))))) ρ
      (.lst true ((La x y ++ Lb x y ++ Lc x y).map (en false))) ρ := by
  have p : EvP (pCons (eVar i) (pCons (eVar j) (pCons (eVar k) pNil))) ρ [x, y, z] ρ := evp_cons (ev_var h1 hx) (evp_cons (ev_var h2 hy) (evp_cons (ev_var h3 hz) evp_nil))
  have fz : frzs [x, y, z] = [x, y, z] := by simp [frzs, frz_fz hx, frz_fz hy, frz_fz hz]
  have ea := ev_call (f := F_law_made_a) p (by rw [fz]; exact made_a (z := z) hx hy)
  have eb := ev_call (f := F_law_made_b) p (by rw [fz]; exact made_b (z := z) hx hy)
  have ec := ev_call (f := F_law_made_c) p (by rw [fz]; exact made_c (z := z) hx hy)
  obtain ⟨la, lb, lc, ld⟩ := len4 x y
  refine ev_o2 (x := .lst true ((La x y ++ Lb x y).map (en false))) (ev_o2 ea eb ?_) ec ?_
  · simp only [D.frz, fAdd, ens_frz (fe_a hx hy), ens_frz (fe_b hx hy), List.length_map, la, lb, ← List.map_append]
    rfl
  · simp only [D.frz, fAdd, ens_frz (fe_c hx hy), ens_frz (m := false) (L := La x y ++ Lb x y) (fun e he => (List.mem_append.mp he).elim (fe_a hx hy e) (fe_b hx hy e)), List.length_map, List.length_append, la, lb, lc, ← List.map_append]
    rfl
theorem made_x {i j k : Nat} (hx : x.fz = true) (hy : y.fz = true) (hz : z.fz = true) (h1 : ρ[i]? = some (some x)) (h2 : ρ[j]? = some (some y)) (h3 : ρ[k]? = some (some z)) (h7 : ρ[7]? = some (some (.lst true ((La x y ++ Lb x y ++ Lc x y).map (en false))))) :
    sExp (eMut mExtO (eKd kLst (eVar 7)) (aCons (eCallP F_law_made_d (pCons (eVar i) (pCons (eVar j) (pCons (eVar k) pNil)))) aNil)) ρ = .nx (ρ.set 7 (some (.lst true ((La x y ++ Lb x y ++ Lc x y).map (en false) ++ (Ld x y).map (en true))))) := by
  have p : EvP (pCons (eVar i) (pCons (eVar j) (pCons (eVar k) pNil))) ρ [x, y, z] ρ := evp_cons (ev_var h1 hx) (evp_cons (ev_var h2 hy) (evp_cons (ev_var h3 hz) evp_nil))
  have fz : frzs [x, y, z] = [x, y, z] := by simp [frzs, frz_fz hx, frz_fz hy, frz_fz hz]
  have ed := ev_call (f := F_law_made_d) p (by rw [fz]; exact made_d (z := z) hx hy)
  obtain ⟨la, lb, lc, ld⟩ := len4 x y
  refine s_exp (ev_mut (i := 7) (z := .non) h7 rfl (eva_cons ed eva_nil) h7 ?_)
  simp only [mExtO, List.length_map, List.length_append, la, lb, lc, ld]
  rfl
theorem ALL_frz (hx : x.fz = true) (hy : y.fz = true) : (D.lst true ((La x y ++ Lb x y ++ Lc x y).map (en false) ++ (Ld x y).map (en true))).frz = .lst false ((LL x y).map (en false)) := by
  have e : frzs ((La x y ++ Lb x y ++ Lc x y).map (en false) ++ (Ld x y).map (en true)) = (LL x y).map (en false) := by
    rw [frzs_map', List.map_append, ← frzs_map', ← frzs_map', ens_frz (fe_d hx hy), ens_frz (fun e he => fe_all hx hy e (by unfold LL; exact List.mem_append_left _ he)), ← List.map_append]
    rfl
  simp only [D.frz, e]
end
end K00M
end
end
section
set_option linter.all false
set_option autoImplicit false
set_option maxRecDepth 100000
set_option maxHeartbeats 4000000
noncomputable section
namespace K00M
open PySem PySem.W L2 IL IS K00
abbrev Sl (a0 a1 a2 a3 a4 a5 a6 a7 o8 o9 o10 o11 o12 o13 o14 : Option D) : Ro := [a0, a1, a2, a3, a4, a5, a6, a7, o8, o9, o10, o11, o12, o13, o14]
section
variable {a0 a1 a2 a3 a4 a5 a6 a7 o8 o9 o10 o11 o12 o13 o14 : Option D} {x y : D}
/-- one entry, of its own class -/
theorem turn2 {e : En} {i : Nat} (he : (LL x y)[i]? = some e) (g : Gd e) :
    fb_law_2 (Sl a0 a1 a2 a3 a4 a5 a6 a7 (some (.int i)) (some (.err e.C e.fs e.vs)) (some (.err e.C e.fs e.vs)) (some (.lam e.nm e.r)) (some (.lst false e.due)) o13 o14) = .nx (Sl a0 a1 a2 a3 a4 a5 a6 a7 (some (.int i)) (some (.err e.C e.fs e.vs)) (some (.err e.C e.fs e.vs)) (some (.lam e.nm e.r)) (some (.lst false e.due)) o13 o14) := by
  have hm := List.mem_of_getElem? he
  have hC := C_at he
  have hCe := kcl_er _ (List.mem_of_getElem? hC)
  have io : ∀ {ρ : Ro} {k : Nat}, ρ[k]? = some (some (.err e.C e.fs e.vs)) → ρ[8]? = some (some (.int (i : Int))) → EvT (IL.tNot (tV (eCallP F_law_is_own (pCons (eVar k) (pCons (eVar 8) pNil))))) ρ false ρ := fun hk h8 =>
    evt_not (evt_V (ev_call (evp_cons (ev_var hk (err_fz g.fv)) (evp_cons (ev_var h8 rfl) evp_nil)) (by simp only [frzs, D.frz, frzs_fz g.fv]; exact is_own_ok hC g.fv)) rfl)
  exact s_seq (s_ifF (evt_or (io rfl rfl) (io rfl rfl)) rfl) (s_ifF (evt_or (these_t hm hCe g rfl rfl rfl) (these_t hm hCe g rfl rfl rfl)) rfl)
theorem turn3 {e : En} (hm : e ∈ LL x y) (g : Gd e) :
    fb_law_3 (Sl a0 a1 a2 a3 a4 a5 a6 a7 o8 (some (.err e.C e.fs e.vs)) (some (.err e.C e.fs e.vs)) (some (.lam e.nm e.r)) (some (.lst false e.due)) o13 o14) = .nx (Sl a0 a1 a2 a3 a4 a5 a6 a7 o8 (some (.err e.C e.fs e.vs)) (some (.err e.C e.fs e.vs)) (some (.lam e.nm e.r)) (some (.lst false e.due)) o13 o14) := by
  obtain ⟨i, hi⟩ := List.mem_iff_getElem?.mp hm
  have hCe := kcl_er _ (List.mem_of_getElem? (C_at hi))
  exact s_ifF (evt_or (these_t hm hCe g rfl rfl rfl) (these_t hm hCe g rfl rfl rfl)) rfl
/-- the slots of the loops hold no cell -/
def NcE (o8 o9 o10 o11 o12 : Option D) : Prop := Nc o8 ∧ Nc o9 ∧ Nc o10 ∧ Nc o11 ∧ Nc o12
theorem en_ncl {e : En} (hv : ncls e.vs = true) (hd : ncls e.due = true) (i : Int) : NcE (some (.int i)) (some (.err e.C e.fs e.vs)) (some (.err e.C e.fs e.vs)) (some (.lam e.nm e.r)) (some (.lst false e.due)) :=
  ⟨nc_of rfl, nc_of (by simpa [ncl] using hv), nc_of (by simpa [ncl] using hv), nc_of rfl, nc_of (by simpa [ncl] using hd)⟩
def Ne (e : En) : Prop := ncls e.vs = true ∧ ncls e.due = true
theorem ne1 {C f nm : Str} {r : LamR} {x : D} (hx : ncl x = true) : Ne (n1 C f nm r x) := ⟨by simp [n1, ncls, hx], by simp [n1, ncls, hx]⟩
theorem ne2 {C f1 f2 nm : Str} {r : LamR} {x y : D} (hx : ncl x = true) (hy : ncl y = true) : Ne (n2 C f1 f2 nm r x y) := ⟨by simp [n2, ncls, hx, hy], by simp [n2, ncls, hx, hy]⟩
theorem ne0 {C nm : Str} {r : LamR} : Ne (n0 C nm r) := ⟨rfl, rfl⟩
theorem ne_a {x y : D} (hx : ncl x = true) (hy : ncl y = true) : ∀ e ∈ La x y, Ne e := (List.forall_mem_cons.mpr ⟨ne1 hx, (List.forall_mem_cons.mpr ⟨ne1 hx, (List.forall_mem_cons.mpr ⟨ne1 hx, (List.forall_mem_cons.mpr ⟨ne1 hx, (List.forall_mem_cons.mpr ⟨ne1 hx, (List.forall_mem_cons.mpr ⟨ne1 hx, (List.forall_mem_cons.mpr ⟨ne1 hx, (List.forall_mem_cons.mpr ⟨ne1 hx, (List.forall_mem_cons.mpr ⟨ne1 hx, (List.forall_mem_cons.mpr ⟨ne1 hx, (List.forall_mem_cons.mpr ⟨ne1 hx, (List.forall_mem_cons.mpr ⟨ne1 hx, (List.forall_mem_cons.mpr ⟨ne1 hx, (List.forall_mem_cons.mpr ⟨ne1 hx, (List.forall_mem_cons.mpr ⟨ne1 hx, (List.forall_mem_cons.mpr ⟨ne1 hx, (List.forall_mem_cons.mpr ⟨ne1 hx, (List.forall_mem_cons.mpr ⟨ne1 hx, (fun _ z => absurd z List.not_mem_nil)⟩)⟩)⟩)⟩)⟩)⟩)⟩)⟩)⟩)⟩)⟩)⟩)⟩)⟩)⟩)⟩)⟩)⟩)
theorem ne_b {x y : D} (hx : ncl x = true) (hy : ncl y = true) : ∀ e ∈ Lb x y, Ne e := (List.forall_mem_cons.mpr ⟨ne1 hx, (List.forall_mem_cons.mpr ⟨ne1 hx, (List.forall_mem_cons.mpr ⟨ne1 hx, (List.forall_mem_cons.mpr ⟨ne1 hx, (List.forall_mem_cons.mpr ⟨ne1 hx, (List.forall_mem_cons.mpr ⟨ne1 hx, (List.forall_mem_cons.mpr ⟨ne1 hx, (List.forall_mem_cons.mpr ⟨ne1 hx, (List.forall_mem_cons.mpr ⟨ne1 hx, (List.forall_mem_cons.mpr ⟨ne1 hx, (List.forall_mem_cons.mpr ⟨ne1 hx, (List.forall_mem_cons.mpr ⟨ne1 hx, (List.forall_mem_cons.mpr ⟨ne1 hx, (List.forall_mem_cons.mpr ⟨ne1 hx, (List.forall_mem_cons.mpr ⟨ne1 hx, (List.forall_mem_cons.mpr ⟨ne1 hx, (List.forall_mem_cons.mpr ⟨ne1 hx, (List.forall_mem_cons.mpr ⟨ne1 hx, (fun _ z => absurd z List.not_mem_nil)⟩)⟩)⟩)⟩)⟩)⟩)⟩)⟩)⟩)⟩)⟩)⟩)⟩)⟩)⟩)⟩)⟩)⟩)
theorem ne_c {x y : D} (hx : ncl x = true) (hy : ncl y = true) : ∀ e ∈ Lc x y, Ne e := (List.forall_mem_cons.mpr ⟨ne1 hx, (List.forall_mem_cons.mpr ⟨ne1 hx, (List.forall_mem_cons.mpr ⟨ne2 hx hy, (List.forall_mem_cons.mpr ⟨ne1 hx, (List.forall_mem_cons.mpr ⟨ne1 hx, (List.forall_mem_cons.mpr ⟨ne1 hx, (List.forall_mem_cons.mpr ⟨ne1 hx, (List.forall_mem_cons.mpr ⟨ne1 hx, (List.forall_mem_cons.mpr ⟨ne1 hx, (List.forall_mem_cons.mpr ⟨ne1 hx, (List.forall_mem_cons.mpr ⟨ne2 hx hy, (List.forall_mem_cons.mpr ⟨ne1 hx, (List.forall_mem_cons.mpr ⟨ne1 hx, (List.forall_mem_cons.mpr ⟨ne1 hx, (List.forall_mem_cons.mpr ⟨ne1 hx, (List.forall_mem_cons.mpr ⟨ne0, (List.forall_mem_cons.mpr ⟨ne1 hx, (List.forall_mem_cons.mpr ⟨ne1 hx, (fun _ z => absurd z List.not_mem_nil)⟩)⟩)⟩)⟩)⟩)⟩)⟩)⟩)⟩)⟩)⟩)⟩)⟩)⟩)⟩)⟩)⟩)⟩)
theorem ne_d {x y : D} (hx : ncl x = true) (hy : ncl y = true) : ∀ e ∈ Ld x y, Ne e := (List.forall_mem_cons.mpr ⟨ne1 hx, (List.forall_mem_cons.mpr ⟨ne1 hx, (List.forall_mem_cons.mpr ⟨ne2 hx hy, (List.forall_mem_cons.mpr ⟨ne0, (List.forall_mem_cons.mpr ⟨ne1 hx, (List.forall_mem_cons.mpr ⟨ne1 hx, (List.forall_mem_cons.mpr ⟨ne1 hx, (List.forall_mem_cons.mpr ⟨ne0, (List.forall_mem_cons.mpr ⟨ne1 hx, (List.forall_mem_cons.mpr ⟨ne1 hx, (List.forall_mem_cons.mpr ⟨ne2 hx hy, (fun _ z => absurd z List.not_mem_nil)⟩)⟩)⟩)⟩)⟩)⟩)⟩)⟩)⟩)⟩)⟩)
theorem ne_all {x y : D} (hx : ncl x = true) (hy : ncl y = true) : ∀ e ∈ LL x y, Ne e := by
  intro e he
  unfold LL at he
  simp only [List.mem_append] at he
  rcases he with ((he | he) | he) | he
  · exact ne_a hx hy e he
  · exact ne_b hx hy e he
  · exact ne_c hx hy e he
  · exact ne_d hx hy e he
theorem ens_fz {L : List En} (h : ∀ e ∈ L, Fe e) : (D.lst false (L.map (en false))).fz = true := by
  simp only [D.fz, Bool.not_false, Bool.true_and]
  rw [fzs_iff]
  intro d hd
  obtain ⟨e, he, rfl⟩ := List.mem_map.mp hd
  simp [en, D.fz, fzs, (h e he).1, (h e he).2]
/-- all entries of drawn things -/
theorem loop2 {m : D} (hx : SelfOk x) (hy : SelfOk y) (nx : ncl x = true) (ny : ncl y = true) (hm : m.frz = .lst false ((LL x y).map (en false))) (h0 : NcE o8 o9 o10 o11 o12) :
    ∃ p7 p8 p9 p10 p11 p12, fo_law_2 (Sl a0 a1 a2 a3 a4 a5 a6 (some m) o8 o9 o10 o11 o12 o13 o14) = .nx (Sl a0 a1 a2 a3 a4 a5 a6 p7 p8 p9 p10 p11 p12 o13 o14) ∧ NcE p8 p9 p10 p11 p12 := by
  have hf := ev_frzv (i := 7) (d := m) (ρ := Sl a0 a1 a2 a3 a4 a5 a6 (some m) o8 o9 o10 o11 o12 o13 o14) rfl
  obtain ⟨p7, hp⟩ : ∃ p7, (if m.fz = true then Sl a0 a1 a2 a3 a4 a5 a6 (some m) o8 o9 o10 o11 o12 o13 o14 else (Sl a0 a1 a2 a3 a4 a5 a6 (some m) o8 o9 o10 o11 o12 o13 o14).set 7 (some m.frz)) = Sl a0 a1 a2 a3 a4 a5 a6 p7 o8 o9 o10 o11 o12 o13 o14 := by
    split
    · exact ⟨_, rfl⟩
    · exact ⟨_, rfl⟩
  rw [hp, hm] at hf
  have q : qA wEnum2 (aCons (eFrz (eVar 7)) aNil) (Sl a0 a1 a2 a3 a4 a5 a6 (some m) o8 o9 o10 o11 o12 o13 o14) = .ok ((LL x y).zipIdx.map fun p => .tup [.int (p.2 : Int), en false p.1]) (Sl a0 a1 a2 a3 a4 a5 a6 p7 o8 o9 o10 o11 o12 o13 o14) :=
    q_A (eva_cons hf eva_nil) (by simp only [fzs, Bool.and_true]; exact ens_fz fun e he => (gd_all hx hy e he).fe) (by
      show some (((LL x y).map (en false)).zipIdx.map fun p => D.tup [.int (p.2 : Int), p.1]) = _
      rw [List.zipIdx_map, List.map_map]
      rfl)
  obtain ⟨ρ', h1, p8, p9, p10, p11, p12, rfl, h2⟩ := (for_all (g := gUnp ((gSet 8) :: ((gUnp ((gSet 9) :: ((gSet 10) :: ((gSet 11) :: ((gSet 12) :: []))))) :: []))) (b := fb_law_2) (fun ρ => ∃ p8 p9 p10 p11 p12, ρ = Sl a0 a1 a2 a3 a4 a5 a6 p7 p8 p9 p10 p11 p12 o13 o14 ∧ NcE p8 p9 p10 p11 p12) (fun _ => true) (fun p : En × Nat => D.tup [.int (p.2 : Int), en false p.1]) (LL x y).zipIdx
    (fun p hp ρ hI => by
      obtain ⟨p8, p9, p10, p11, p12, rfl, hn⟩ := hI
      obtain ⟨e, i⟩ := p
      have he : (LL x y)[i]? = some e := by
        have := List.mem_zipIdx_iff_getElem?.mp hp
        simpa using this
      have hmem := List.mem_of_getElem? he
      have g := gd_all hx hy e hmem
      have n := ne_all nx ny e hmem
      exact ⟨_, rfl, fun _ => ⟨_, turn2 he g, _, _, _, _, _, rfl, en_ncl n.1 n.2 i⟩, fun z => by cases z⟩) _ ⟨o8, o9, o10, o11, o12, rfl, h0⟩).1 (by simp)
  exact ⟨p7, p8, p9, p10, p11, p12, s_for q h1, h2⟩
theorem loop3 {m : D} (hx : SelfOk x) (hy : SelfOk y) (hm : m.frz = .lst false ((LL x y).map (en false))) :
    ∃ p7 p9 p10 p11 p12, fo_law_3 (Sl a0 a1 a2 a3 a4 a5 a6 (some m) o8 o9 o10 o11 o12 o13 o14) = .nx (Sl a0 a1 a2 a3 a4 a5 a6 p7 o8 p9 p10 p11 p12 o13 o14) := by
  have hf := ev_frzv (i := 7) (d := m) (ρ := Sl a0 a1 a2 a3 a4 a5 a6 (some m) o8 o9 o10 o11 o12 o13 o14) rfl
  obtain ⟨p7, hp⟩ : ∃ p7, (if m.fz = true then Sl a0 a1 a2 a3 a4 a5 a6 (some m) o8 o9 o10 o11 o12 o13 o14 else (Sl a0 a1 a2 a3 a4 a5 a6 (some m) o8 o9 o10 o11 o12 o13 o14).set 7 (some m.frz)) = Sl a0 a1 a2 a3 a4 a5 a6 p7 o8 o9 o10 o11 o12 o13 o14 := by
    split
    · exact ⟨_, rfl⟩
    · exact ⟨_, rfl⟩
  rw [hp, hm] at hf
  have q : q1 (eFrz (eVar 7)) (Sl a0 a1 a2 a3 a4 a5 a6 (some m) o8 o9 o10 o11 o12 o13 o14) = .ok ((LL x y).map (en false)) (Sl a0 a1 a2 a3 a4 a5 a6 p7 o8 o9 o10 o11 o12 o13 o14) := q_1 hf rfl
  obtain ⟨ρ', h1, p9, p10, p11, p12, rfl⟩ := (for_all (g := gUnp ((gSet 9) :: ((gSet 10) :: ((gSet 11) :: ((gSet 12) :: []))))) (b := fb_law_3) (fun ρ => ∃ p9 p10 p11 p12, ρ = Sl a0 a1 a2 a3 a4 a5 a6 p7 o8 p9 p10 p11 p12 o13 o14) (fun _ => true) (en false) (LL x y)
    (fun e hmem ρ hI => by
      obtain ⟨p9, p10, p11, p12, rfl⟩ := hI
      exact ⟨_, rfl, fun _ => ⟨_, turn3 hmem (gd_all hx hy e hmem), _, _, _, _, rfl⟩, fun z => by cases z⟩) _ ⟨o9, o10, o11, o12, rfl⟩).1 (by simp)
  exact ⟨p7, p9, p10, p11, p12, s_for q h1⟩
end
/-! ### a turn -/
section
variable {a0 o3 o4 o5 o6 o7 o8 o9 o10 o11 o12 o14 : Option D}
def NcO (o4 o5 o6 o8 o9 o10 o11 o12 : Option D) : Prop := Nc o4 ∧ Nc o5 ∧ Nc o6 ∧ NcE o8 o9 o10 o11 o12
theorem turn1 {n : Nat} {s : D} (hs : St n s) (hn : n < 1000) (hN : NcO o4 o5 o6 o8 o9 o10 o11 o12) :
    ∃ s' p4 p5 p6 p7 p8 p9 p10 p11 p12, fb_law_1 (Sl a0 (some s) (some (.lst false some15)) o3 o4 o5 o6 o7 o8 o9 o10 o11 o12 none none) = .nx (Sl a0 (some s') (some (.lst false some15)) o3 p4 p5 p6 p7 p8 p9 p10 p11 p12 none none) ∧ St (n + 15) s' ∧ NcO p4 p5 p6 p8 p9 p10 p11 p12 := by
  obtain ⟨ys, s', h1, hp, hs'⟩ := mixed_ok hs s15_fz (by decide) (by have : some15.length = 15 := rfl; omega)
  have hl : ys.length = 15 := hp.length_eq
  match ys, hl with
  | x :: y :: z :: r, hl =>
    have mem : ∀ d ∈ x :: y :: z :: r, d ∈ some15 := fun d hd => hp.mem_iff.mp hd
    have fz : ∀ d ∈ x :: y :: z :: r, d.fz = true := fun d hd => fzs_iff.mp s15_fz d (mem d hd)
    have nc : ∀ d ∈ x :: y :: z :: r, ncl d = true := fun d hd => ncls_iff.mp s15_ncl d (mem d hd)
    have hx := s15_self x (mem x (by simp))
    have hy := s15_self y (mem y (by simp))
    have e1 : Ev (eCallM F_law_mixed (eVar 1) (pCons (eVar 2) pNil)) (Sl a0 (some s) (some (.lst false some15)) o3 o4 o5 o6 o7 o8 o9 o10 o11 o12 none none) (.lst true (x :: y :: z :: r)) (Sl a0 (some s') (some (.lst false some15)) o3 o4 o5 o6 o7 o8 o9 o10 o11 o12 none none) :=
      ev_callM (i := 1) rfl (evp_cons (ev_var (i := 2) rfl (by simpa [D.fz] using s15_fz)) evp_nil) rfl (by simp only [frzs, D.frz, frzs_fz s15_fz]; exact h1) (by simp [hs.nfz]) rfl
    have fzl : frzs (x :: y :: z :: r) = x :: y :: z :: r := frzs_fz (fzs_iff.mpr fz)
    have e2 : Ev (eFrz (eOp3 fSl (eCallM F_law_mixed (eVar 1) (pCons (eVar 2) pNil)) (eC .non) (eInt (eC (.int 3))))) (Sl a0 (some s) (some (.lst false some15)) o3 o4 o5 o6 o7 o8 o9 o10 o11 o12 none none) (.lst false [x, y, z]) (Sl a0 (some s') (some (.lst false some15)) o3 o4 o5 o6 o7 o8 o9 o10 o11 o12 none none) := by
      have : Ev (eOp3 fSl (eCallM F_law_mixed (eVar 1) (pCons (eVar 2) pNil)) (eC .non) (eInt (eC (.int 3)))) (Sl a0 (some s) (some (.lst false some15)) o3 o4 o5 o6 o7 o8 o9 o10 o11 o12 none none) (.lst true [x, y, z]) (Sl a0 (some s') (some (.lst false some15)) o3 o4 o5 o6 o7 o8 o9 o10 o11 o12 none none) :=
        ev_o3 e1 ev_c (ev_int ev_c) (by simp only [D.frz, fzl]; exact (fSl_to (m := false) (xs := x :: y :: z :: r) 3 rfl))
      have h := ev_frz this
      have : (D.lst true [x, y, z]).frz = .lst false [x, y, z] := by simp [D.frz, frzs, frz_fz (fz x (by simp)), frz_fz (fz y (by simp)), frz_fz (fz z (by simp))]
      rwa [this] at h
    have g : gUnp ((gSet 4) :: ((gSet 5) :: ((gSet 6) :: []))) (.lst false [x, y, z]) (Sl a0 (some s') (some (.lst false some15)) o3 o4 o5 o6 o7 o8 o9 o10 o11 o12 none none) = some (Sl a0 (some s') (some (.lst false some15)) o3 (some x) (some y) (some z) o7 o8 o9 o10 o11 o12 none none) := rfl
    obtain ⟨p7, p8, p9, p10, p11, p12, h2, h3⟩ := loop2 (a0 := a0) (a1 := some s') (a2 := some (.lst false some15)) (a3 := o3) (a4 := some x) (a5 := some y) (a6 := some z) (o13 := none) (o14 := none) hx hy (nc x (by simp)) (nc y (by simp)) (ALL_frz (fz x (by simp)) (fz y (by simp))) hN.2.2.2
    refine ⟨s', some x, some y, some z, p7, p8, p9, p10, p11, p12, ?_, hs', nc_of (nc x (by simp)), nc_of (nc y (by simp)), nc_of (nc z (by simp)), h3⟩
    exact s_seq (s_asgG e2 g) (s_seq (s_asg (made_ev (fz x (by simp)) (fz y (by simp)) (fz z (by simp)) rfl rfl rfl)) (s_seq (made_x (fz x (by simp)) (fz y (by simp)) (fz z (by simp)) rfl rfl rfl rfl) h2))
end
/-! ### the held list -/
def hV : D := .lst false [.str "v", .str "w"]
def cV (a : Nat) : D := .cel a [.str "v"]
theorem cV_fz (a : Nat) : (cV a).fz = true := rfl
def relE (a : Nat) (zs : List D) (e : En) : En := { e with vs := rels a zs e.vs, due := rels a zs e.due }
theorem rel_L3 (a : Nat) (zs : List D) (x y : D) : (La x y ++ Lb x y ++ Lc x y).map (relE a zs) = La (x.rel a zs) (y.rel a zs) ++ Lb (x.rel a zs) (y.rel a zs) ++ Lc (x.rel a zs) (y.rel a zs) := rfl
theorem rel_Ld (a : Nat) (zs : List D) (x y : D) : (Ld x y).map (relE a zs) = Ld (x.rel a zs) (y.rel a zs) := rfl
theorem en_rel {a : Nat} {zs : List D} {m : Bool} (e : En) : (en m e).rel a zs = en m (relE a zs e) := by simp [en, relE, D.rel, rels]
theorem rels_map {a : Nat} {zs : List D} (ds : List D) : rels a zs ds = ds.map (D.rel a zs) := by induction ds <;> simp_all [rels]
theorem okCs_iff {a : Nat} : ∀ {ds : List D}, okCs a ds = true ↔ ∀ d ∈ ds, d.okC a = true
  | [] => by simp [okCs]
  | d :: ds => by simp [okCs, okCs_iff (ds := ds)]
def Oe (a : Nat) (e : En) : Prop := okCs a e.vs = true ∧ okCs a e.due = true
theorem oe1 {a : Nat} {C f nm : Str} {r : LamR} {x : D} (hx : x.okC a = true) : Oe a (n1 C f nm r x) := ⟨by simp [n1, okCs, hx], by simp [n1, okCs, hx]⟩
theorem oe2 {a : Nat} {C f1 f2 nm : Str} {r : LamR} {x y : D} (hx : x.okC a = true) (hy : y.okC a = true) : Oe a (n2 C f1 f2 nm r x y) := ⟨by simp [n2, okCs, hx, hy], by simp [n2, okCs, hx, hy]⟩
theorem oe0 {a : Nat} {C nm : Str} {r : LamR} : Oe a (n0 C nm r) := ⟨rfl, rfl⟩
theorem oe_a {a : Nat} {x y : D} (hx : x.okC a = true) (hy : y.okC a = true) : ∀ e ∈ La x y, Oe a e := (List.forall_mem_cons.mpr ⟨oe1 hx, (List.forall_mem_cons.mpr ⟨oe1 hx, (List.forall_mem_cons.mpr ⟨oe1 hx, (List.forall_mem_cons.mpr ⟨oe1 hx, (List.forall_mem_cons.mpr ⟨oe1 hx, (List.forall_mem_cons.mpr ⟨oe1 hx, (List.forall_mem_cons.mpr ⟨oe1 hx, (List.forall_mem_cons.mpr ⟨oe1 hx, (List.forall_mem_cons.mpr ⟨oe1 hx, (List.forall_mem_cons.mpr ⟨oe1 hx, (List.forall_mem_cons.mpr ⟨oe1 hx, (List.forall_mem_cons.mpr ⟨oe1 hx, (List.forall_mem_cons.mpr ⟨oe1 hx, (List.forall_mem_cons.mpr ⟨oe1 hx, (List.forall_mem_cons.mpr ⟨oe1 hx, (List.forall_mem_cons.mpr ⟨oe1 hx, (List.forall_mem_cons.mpr ⟨oe1 hx, (List.forall_mem_cons.mpr ⟨oe1 hx, (fun _ z => absurd z List.not_mem_nil)⟩)⟩)⟩)⟩)⟩)⟩)⟩)⟩)⟩)⟩)⟩)⟩)⟩)⟩)⟩)⟩)⟩)⟩)
theorem oe_b {a : Nat} {x y : D} (hx : x.okC a = true) (hy : y.okC a = true) : ∀ e ∈ Lb x y, Oe a e := (List.forall_mem_cons.mpr ⟨oe1 hx, (List.forall_mem_cons.mpr ⟨oe1 hx, (List.forall_mem_cons.mpr ⟨oe1 hx, (List.forall_mem_cons.mpr ⟨oe1 hx, (List.forall_mem_cons.mpr ⟨oe1 hx, (List.forall_mem_cons.mpr ⟨oe1 hx, (List.forall_mem_cons.mpr ⟨oe1 hx, (List.forall_mem_cons.mpr ⟨oe1 hx, (List.forall_mem_cons.mpr ⟨oe1 hx, (List.forall_mem_cons.mpr ⟨oe1 hx, (List.forall_mem_cons.mpr ⟨oe1 hx, (List.forall_mem_cons.mpr ⟨oe1 hx, (List.forall_mem_cons.mpr ⟨oe1 hx, (List.forall_mem_cons.mpr ⟨oe1 hx, (List.forall_mem_cons.mpr ⟨oe1 hx, (List.forall_mem_cons.mpr ⟨oe1 hx, (List.forall_mem_cons.mpr ⟨oe1 hx, (List.forall_mem_cons.mpr ⟨oe1 hx, (fun _ z => absurd z List.not_mem_nil)⟩)⟩)⟩)⟩)⟩)⟩)⟩)⟩)⟩)⟩)⟩)⟩)⟩)⟩)⟩)⟩)⟩)⟩)
theorem oe_c {a : Nat} {x y : D} (hx : x.okC a = true) (hy : y.okC a = true) : ∀ e ∈ Lc x y, Oe a e := (List.forall_mem_cons.mpr ⟨oe1 hx, (List.forall_mem_cons.mpr ⟨oe1 hx, (List.forall_mem_cons.mpr ⟨oe2 hx hy, (List.forall_mem_cons.mpr ⟨oe1 hx, (List.forall_mem_cons.mpr ⟨oe1 hx, (List.forall_mem_cons.mpr ⟨oe1 hx, (List.forall_mem_cons.mpr ⟨oe1 hx, (List.forall_mem_cons.mpr ⟨oe1 hx, (List.forall_mem_cons.mpr ⟨oe1 hx, (List.forall_mem_cons.mpr ⟨oe1 hx, (List.forall_mem_cons.mpr ⟨oe2 hx hy, (List.forall_mem_cons.mpr ⟨oe1 hx, (List.forall_mem_cons.mpr ⟨oe1 hx, (List.forall_mem_cons.mpr ⟨oe1 hx, (List.forall_mem_cons.mpr ⟨oe1 hx, (List.forall_mem_cons.mpr ⟨oe0, (List.forall_mem_cons.mpr ⟨oe1 hx, (List.forall_mem_cons.mpr ⟨oe1 hx, (fun _ z => absurd z List.not_mem_nil)⟩)⟩)⟩)⟩)⟩)⟩)⟩)⟩)⟩)⟩)⟩)⟩)⟩)⟩)⟩)⟩)⟩)⟩)
theorem oe_d {a : Nat} {x y : D} (hx : x.okC a = true) (hy : y.okC a = true) : ∀ e ∈ Ld x y, Oe a e := (List.forall_mem_cons.mpr ⟨oe1 hx, (List.forall_mem_cons.mpr ⟨oe1 hx, (List.forall_mem_cons.mpr ⟨oe2 hx hy, (List.forall_mem_cons.mpr ⟨oe0, (List.forall_mem_cons.mpr ⟨oe1 hx, (List.forall_mem_cons.mpr ⟨oe1 hx, (List.forall_mem_cons.mpr ⟨oe1 hx, (List.forall_mem_cons.mpr ⟨oe0, (List.forall_mem_cons.mpr ⟨oe1 hx, (List.forall_mem_cons.mpr ⟨oe1 hx, (List.forall_mem_cons.mpr ⟨oe2 hx hy, (fun _ z => absurd z List.not_mem_nil)⟩)⟩)⟩)⟩)⟩)⟩)⟩)⟩)⟩)⟩)⟩)
theorem en_ok {a : Nat} {m : Bool} {e : En} (h : Oe a e) : (en m e).okC a = true := by simp [en, D.okC, okCs, h.1, h.2]
theorem rel_made (a : Nat) : relO a [.str "v", .str "w"] (some (.lst true ((La (cV a) (cV a) ++ Lb (cV a) (cV a) ++ Lc (cV a) (cV a)).map (en false) ++ (Ld (cV a) (cV a)).map (en true)))) = some (.lst true ((La hV hV ++ Lb hV hV ++ Lc hV hV).map (en false) ++ (Ld hV hV).map (en true))) := by
  have hc : (cV a).okC a = true := by simp [cV, D.okC]
  have ok : (D.lst true ((La (cV a) (cV a) ++ Lb (cV a) (cV a) ++ Lc (cV a) (cV a)).map (en false) ++ (Ld (cV a) (cV a)).map (en true))).okC a = true := by
    simp only [D.okC]
    rw [okCs_iff]
    intro d hd
    simp only [List.mem_append, List.mem_map] at hd
    rcases hd with ⟨e, (he | he) | he, rfl⟩ | ⟨e, he, rfl⟩
    · exact en_ok (oe_a hc hc e he)
    · exact en_ok (oe_b hc hc e he)
    · exact en_ok (oe_c hc hc e he)
    · exact en_ok (oe_d hc hc e he)
  have er : (cV a).rel a [.str "v", .str "w"] = hV := by simp [cV, D.rel, hV]
  rw [relO, if_pos ok]
  congr 1
  simp only [D.rel, rels_map, List.map_append (f := D.rel a _), List.map_map]
  have f1 : (D.rel a [.str "v", .str "w"] ∘ en false) = en false ∘ relE a [.str "v", .str "w"] := funext fun e => en_rel e
  have f2 : (D.rel a [.str "v", .str "w"] ∘ en true) = en true ∘ relE a [.str "v", .str "w"] := funext fun e => en_rel e
  rw [f1, f2, ← List.map_map, ← List.map_map, rel_L3, rel_Ld, er]
theorem s_cel {i : Nat} {b : S} {y : D} {xs : List D} {ρ : Ro} {r : SR} (h : ρ[i]? = some (some (.lst true xs))) (hat : xs.all D.atom = true) (hl : xs.length < sz) (hb : ∀ a : Nat, celOut i a xs (xs ++ [y]) (b (ρ.set i (some (.cel a xs)))) = r) : sCel i b y ρ = r := by
  unfold sCel
  rw [h]
  simp only [hat, hl, decide_true, Bool.and_self, if_true]
  rw [if_pos fun a => (hb a).trans (hb 0).symm]
  exact hb 0
theorem hV_self : SelfOk hV := ⟨rfl, by kernel_rfl⟩
section
variable {a0 a1 a2 a3 o4 o5 o6 o7 o8 o9 o10 o11 o12 : Option D}
theorem held_ok (n0 : Nc a0) (n1 : Nc a1) (n2 : Nc a2) (n3 : Nc a3) (hN : NcO o4 o5 o6 o8 o9 o10 o11 o12) :
    ∃ b0 b1 b2 b3 b4 b5 b6 b8 b9 b10 b11 b12 b13 b14, sCel 13 (sSeq (sAsg (gSet 7) (eOp2 fAdd (eOp2 fAdd (eCallP F_law_made_a (pCons (eVar 13) (pCons (eVar 13) (pCons (eVar 13) pNil)))) (eCallP F_law_made_b (pCons (eVar 13) (pCons (eVar 13) (pCons (eVar 13) pNil))))) (eCallP F_law_made_c (pCons (eVar 13) (pCons (eVar 13) (pCons (eVar 13) pNil))))))
 (sExp (eMut mExtO (eKd kLst (eVar 7)) (aCons (eCallP F_law_made_d (pCons (eVar 13) (pCons (eVar 13) (pCons (eVar 13) pNil)))) aNil))))
 (.str "w") (Sl a0 a1 a2 a3 o4 o5 o6 o7 o8 o9 o10 o11 o12 (some (.lst true [.str "v"])) none) = .nx (Sl b0 b1 b2 b3 b4 b5 b6 (some (.lst true ((La hV hV ++ Lb hV hV ++ Lc hV hV).map (en false) ++ (Ld hV hV).map (en true)))) b8 b9 b10 b11 b12 b13 b14) := by
  have hb : ∀ a : Nat, celOut 13 a [.str "v"] [.str "v", .str "w"] ((sSeq (sAsg (gSet 7) (eOp2 fAdd (eOp2 fAdd (eCallP F_law_made_a (pCons (eVar 13) (pCons (eVar 13) (pCons (eVar 13) pNil)))) (eCallP F_law_made_b (pCons (eVar 13) (pCons (eVar 13) (pCons (eVar 13) pNil))))) (eCallP F_law_made_c (pCons (eVar 13) (pCons (eVar 13) (pCons (eVar 13) pNil))))))
 (sExp (eMut mExtO (eKd kLst (eVar 7)) (aCons (eCallP F_law_made_d (pCons (eVar 13) (pCons (eVar 13) (pCons (eVar 13) pNil)))) aNil)))) (Sl a0 a1 a2 a3 o4 o5 o6 o7 o8 o9 o10 o11 o12 (some (cV a)) none)) = .nx (Sl (relO 0 [] a0) (relO 0 [] a1) (relO 0 [] a2) (relO 0 [] a3) (relO 0 [] o4) (relO 0 [] o5) (relO 0 [] o6) (some (.lst true ((La hV hV ++ Lb hV hV ++ Lc hV hV).map (en false) ++ (Ld hV hV).map (en true)))) (relO 0 [] o8) (relO 0 [] o9) (relO 0 [] o10) (relO 0 [] o11) (relO 0 [] o12) (some hV) none) := fun a => by
    have e1 := s_seq (s_asg (made_ev (ρ := Sl a0 a1 a2 a3 o4 o5 o6 o7 o8 o9 o10 o11 o12 (some (cV a)) none) (i := 13) (j := 13) (k := 13) (cV_fz a) (cV_fz a) (cV_fz a) rfl rfl rfl) (i := 7)) (made_x (i := 13) (j := 13) (k := 13) (cV_fz a) (cV_fz a) (cV_fz a) rfl rfl rfl rfl)
    rw [e1]
    obtain ⟨m4, m5, m6, m8, m9, m10, m11, m12⟩ := hN
    have hcv : relO a [.str "v", .str "w"] (some (cV a)) = some hV := by simp [relO, cV, D.okC, D.rel, hV]
    have hi : isCel a ((((Sl a0 a1 a2 a3 o4 o5 o6 o7 o8 o9 o10 o11 o12 (some (cV a)) none).set 7 (some (.lst true ((La (cV a) (cV a) ++ Lb (cV a) (cV a) ++ Lc (cV a) (cV a)).map (en false))))).set 7 (some (.lst true ((La (cV a) (cV a) ++ Lb (cV a) (cV a) ++ Lc (cV a) (cV a)).map (en false) ++ (Ld (cV a) (cV a)).map (en true)))))[13]?) = true := by
      show isCel a (some (some (cV a))) = true
      simp [isCel, cV]
    simp only [celOut]
    rw [if_pos hi]
    show SR.nx [relO a _ a0, relO a _ a1, relO a _ a2, relO a _ a3, relO a _ o4, relO a _ o5, relO a _ o6, relO a _ (some _), relO a _ o8, relO a _ o9, relO a _ o10, relO a _ o11, relO a _ o12, relO a _ (some (cV a)), none] = _
    rw [n0, n1, n2, n3, m4, m5, m6, m8, m9, m10, m11, m12, hcv, rel_made]
  refine ⟨relO 0 [] a0, relO 0 [] a1, relO 0 [] a2, relO 0 [] a3, relO 0 [] o4, relO 0 [] o5, relO 0 [] o6, relO 0 [] o8, relO 0 [] o9, relO 0 [] o10, relO 0 [] o11, relO 0 [] o12, some hV, none, ?_⟩
  · exact s_cel rfl rfl (by decide) hb
end
theorem last_kinds : fNotIn (.bl true) (.lst false (kb "NestError" kcl)) = some (.bl true) := by kernel_rfl
end K00M
end
end
section
set_option linter.all false
set_option autoImplicit false
set_option maxRecDepth 100000
set_option maxHeartbeats 4000000
noncomputable section
namespace K00M
open PySem PySem.W L2 IL IS K00
theorem ev_dsp1 {mk mv : Ex} {ρ ρ1 ρ2 : Ro} {k v : D} {j : IL.Key} (h : Ev mk ρ k ρ1) (h2 : Ev mv ρ1 v ρ2) (hj : k.key0 = some j) : Ev (eDsp1 mk mv) ρ (.dct true false [.k j] [v]) ρ2 := by
  obtain ⟨s1, h⟩ := h.own
  obtain ⟨s2, h2⟩ := h2.own
  exact ⟨none, false, by simp [eDsp1, h, h2, hj], .inl rfl⟩
theorem int_fz (ns : List Int) : (D.lst false (ns.map .int)).fz = true := by
  simp only [D.fz, Bool.not_false, Bool.true_and]
  rw [fzs_iff]
  intro d hd
  obtain ⟨i, _, rfl⟩ := List.mem_map.mp hd
  rfl
theorem law_true (d : D) (ns : List Int) (hl : ns.length ≤ 63) (hd : d = .scr ns ∨ d = .lst false (ns.map .int)) : F_law [d] = .ret (.bl true) := by
  have hz : d.fz = true := by
    rcases hd with rfl | rfl
    · rfl
    · exact int_fz ns
  have n0 : Nc (some d) := by
    rcases hd with rfl | rfl
    · exact nc_scr
    · exact nc_of (by simpa [ncl] using ncls_ints ns)
  have hi : d.items = some (ns.map .int) := by rcases hd with rfl | rfl <;> rfl
  have e1 : Ev (eOp1 fList (eVar 0)) [some d] (.lst true (ns.map .int)) [some d] := ev_o1 (ev_var rfl hz) (by rw [frz_fz hz, fList, hi]; rfl)
  have h1 : F_law_start [d] = .ret (str4 ns 0 0 11) := fnP_r (r_ret (ev_lst (eva_cons e1 (eva_cons ev_c (eva_cons ev_c (eva_cons ev_c eva_nil))))))
  have st : St 0 (str4 ns 0 0 11) := ⟨ns, 0, 0, 11, rfl, hl, by omega, by omega, by omega, by omega, by omega⟩
  have a1 : sAsg (gSet 1) (eCallP F_law_start (pCons (eVar 0) pNil)) (Sl (some d) none none none none none none none none none none none none none none) = .nx (Sl (some d) (some (str4 ns 0 0 11)) none none none none none none none none none none none none none) :=
    s_asg (ev_call (evp_cons (ev_var rfl hz) evp_nil) (by simp only [frzs, frz_fz hz]; exact h1))
  have a2 : ∀ {ρ : Ro}, Ev (eFrz (eLst (aCons (eC .non) (aCons (eC (.int 5)) (aCons (eOp1 fNeg (eC (.int 1))) (aCons (eC (.bl true)) (aCons (eC (.str "a")) (aCons (eC (.str "")) (aCons (eLst (aCons (eC (.int 1)) (aCons (eC (.str "b")) aNil))) (aCons (eTup (aCons (eC (.int 2)) (aCons (eC .non) aNil))) (aCons (eDsp1 (eC (.str "a")) (eC (.int 1))) (aCons (eLst (aCons (eLst (aCons (eC (.str "x")) aNil)) aNil)) (aCons (eOp2 fPow (eC (.int 10)) (eC (.int 30))) (aCons (eTup (aCons (eC (.str "s")) (aCons (eC (.int 3)) aNil))) (aCons (eC (.bl false)) (aCons (eC (.int 0)) (aCons (eC (.int 1)) aNil))))))))))))))))) ρ (.lst false some15) ρ := fun {ρ} =>
    ev_frz (d := .lst true [.non, .int 5, .int (-1), .bl true, .str "a", .str "", .lst true [.int 1, .str "b"], .tup [.int 2, .non], .dct true false [.k (.inr "a")] [.int 1], .lst true [.lst true [.str "x"]], .int (10 ^ 30), .tup [.str "s", .int 3], .bl false, .int 0, .int 1])
      (ev_lst (eva_cons ev_c (eva_cons ev_c (eva_cons (ev_o1 ev_c rfl) (eva_cons ev_c (eva_cons ev_c (eva_cons ev_c (eva_cons (ev_lst (eva_cons ev_c (eva_cons ev_c eva_nil))) (eva_cons (ev_tup (eva_cons ev_c (eva_cons ev_c eva_nil))) (eva_cons (ev_dsp1 ev_c ev_c rfl) (eva_cons (ev_lst (eva_cons (ev_lst (eva_cons ev_c eva_nil)) eva_nil)) (eva_cons (ev_o2 ev_c ev_c (fPow_p (i := 10) (j := 30) (by omega) (by omega) (by decide))) (eva_cons (ev_tup (eva_cons ev_c (eva_cons ev_c eva_nil))) (eva_cons ev_c (eva_cons ev_c (eva_cons ev_c eva_nil))))))))))))))))
  have q : qA wRange1 (aCons (eC (.int 2)) aNil) (Sl (some d) (some (str4 ns 0 0 11)) (some (.lst false some15)) none none none none none none none none none none none none) = .ok ((List.range 2).map fun (i : Nat) => .int (i : Int)) (Sl (some d) (some (str4 ns 0 0 11)) (some (.lst false some15)) none none none none none none none none none none none none) := q_A (eva_cons ev_c eva_nil) rfl (wR1 (n := 2) (by omega))
  have nn : NcO none none none none none none none none := ⟨nc_none, nc_none, nc_none, nc_none, nc_none, nc_none, nc_none, nc_none⟩
  obtain ⟨ρ', f1, s', o3, o4, o5, o6, o7, o8, o9, o10, o11, o12, rfl, hs', hN, n3⟩ := for_inv (g := gSet 3) (b := fb_law_1) (fun k ρ => ∃ s' o3 o4 o5 o6 o7 o8 o9 o10 o11 o12, ρ = Sl (some d) (some s') (some (.lst false some15)) o3 o4 o5 o6 o7 o8 o9 o10 o11 o12 none none ∧ St (15 * k) s' ∧ NcO o4 o5 o6 o8 o9 o10 o11 o12 ∧ Nc o3) ((List.range 2).map fun (i : Nat) => D.int (i : Int)) (Sl (some d) (some (str4 ns 0 0 11)) (some (.lst false some15)) none none none none none none none none none none none none) 0
    (fun i dd ρ hi hI => by
      obtain ⟨s', o3, o4, o5, o6, o7, o8, o9, o10, o11, o12, rfl, hs, hN, _⟩ := hI
      have hil : i < 2 := by
        have := (List.getElem?_eq_some_iff.mp hi).1
        simpa using this
      have hdd : dd = .int (i : Int) := by
        rw [List.getElem?_map, List.getElem?_range hil] at hi
        simpa using hi.symm
      subst hdd
      refine ⟨_, rfl, ?_⟩
      obtain ⟨s2, p4, p5, p6, p7, p8, p9, p10, p11, p12, hb, hs2, hN2⟩ := turn1 (a0 := some d) (o3 := some (.int (i : Int))) (o7 := o7) hs (by omega) hN
      exact ⟨_, hb, s2, _, _, _, _, _, _, _, _, _, _, rfl, hs2.mono (by omega), hN2, nc_of rfl⟩) ⟨str4 ns 0 0 11, none, none, none, none, none, none, none, none, none, none, rfl, st, nn, nc_none⟩
  have a3 : sAsg (gSet 13) (eLst (aCons (eC (.str "v")) aNil)) (Sl (some d) (some s') (some (.lst false some15)) o3 o4 o5 o6 o7 o8 o9 o10 o11 o12 none none) = .nx (Sl (some d) (some s') (some (.lst false some15)) o3 o4 o5 o6 o7 o8 o9 o10 o11 o12 (some (.lst true [.str "v"])) none) := s_asg (ev_lst (eva_cons ev_c eva_nil))
  obtain ⟨b0, b1, b2, b3, b4, b5, b6, b8, b9, b10, b11, b12, b13, b14, f2⟩ := held_ok (a3 := o3) (o7 := o7) n0 (nc_of (st_ncl hs')) (nc_of (d := .lst false some15) (by simpa [ncl] using s15_ncl)) n3 hN
  obtain ⟨p7, p9, p10, p11, p12, f3⟩ := loop3 (a0 := b0) (a1 := b1) (a2 := b2) (a3 := b3) (a4 := b4) (a5 := b5) (a6 := b6) (o8 := b8) (o9 := b9) (o10 := b10) (o11 := b11) (o12 := b12) (o13 := b13) (o14 := b14) hV_self hV_self (ALL_frz rfl rfl)
  have a4 : sAsg (gSet 14) (eFrz (eErr0 "NestError")) (Sl b0 b1 b2 b3 b4 b5 b6 p7 b8 p9 p10 p11 p12 b13 b14) = .nx (Sl b0 b1 b2 b3 b4 b5 b6 p7 b8 p9 p10 p11 p12 b13 (some (.err "NestError" [] []))) := s_asg (ev_frz ev_err0)
  have hNE : ("NestError" : Str) ∈ erl := by decide +kernel
  have x1 : Ev (eOp2 (fIsiE erl "NestError") (eVar 14) (eC (.ty "ValueError"))) (Sl b0 b1 b2 b3 b4 b5 b6 p7 b8 p9 p10 p11 p12 b13 (some (.err "NestError" [] []))) (.bl true) (Sl b0 b1 b2 b3 b4 b5 b6 p7 b8 p9 p10 p11 p12 b13 (some (.err "NestError" [] []))) :=
    ev_o2 (ev_var rfl rfl) ev_c (by simp only [D.frz, fIsiE]; rw [if_pos hNE]; rfl)
  have x2 : Ev (eOp2 fNotIn (eC (.bl true)) (eCallP F_law_kinds (pCons (eVar 14) pNil))) (Sl b0 b1 b2 b3 b4 b5 b6 p7 b8 p9 p10 p11 p12 b13 (some (.err "NestError" [] []))) (.bl true) (Sl b0 b1 b2 b3 b4 b5 b6 p7 b8 p9 p10 p11 p12 b13 (some (.err "NestError" [] []))) :=
    ev_o2 ev_c (ev_call (evp_cons (ev_var (i := 14) (d := .err "NestError" [] []) rfl rfl) evp_nil) (kinds_ok (C := "NestError") (fs := []) (vs := []) hNE rfl)) (by simp only [D.frz, kb_frz]; exact last_kinds)
  have fin := r_ret (ev_T (evt_and0 (evt_B x1) fun _ => evt_B x2))
  unfold F_law s_law
  exact fnP_r (r_seq a1 (r_seq (s_asg a2) (r_seq (s_for q f1) (r_seq a3 (r_seq f2 (r_seq f3 (r_seq a4 fin)))))))
end K00M
end
end
section
set_option Elab.async false
set_option linter.all false
set_option autoImplicit false
set_option maxRecDepth 100000
set_option maxHeartbeats 8000000
namespace K00
open PySem PySem.Spec PySem.W PyProof.Rows L2 IL LamX IS

/-- what the defs ask of the module -/
structure Fx (K : PySem.W.Frag) (mg : Str → Option Value) : Prop where
  b_len : mg "len" = none
  b_isinstance : mg "isinstance" = none
  b_all : mg "all" = none
  b_list : mg "list" = none
  b_tuple : mg "tuple" = none
  b_int : mg "int" = none
  b_str : mg "str" = none
  b_dict : mg "dict" = none
  b_bool : mg "bool" = none
  b_range : mg "range" = none
  b_enumerate : mg "enumerate" = none
  b_zip : mg "zip" = none
  b_ValueError : mg "ValueError" = none
  b_LookupError : mg "LookupError" = none
  b_ArithmeticError : mg "ArithmeticError" = none
  b_TypeError : mg "TypeError" = none
  fng : FnG K glf
  g_NestError : mg "NestError" = some (.ref (ga K "NestError"))
  g_BadDeed : mg "BadDeed" = some (.ref (ga K "BadDeed"))
  g_BadForest : mg "BadForest" = some (.ref (ga K "BadForest"))
  g_BadForm : mg "BadForm" = some (.ref (ga K "BadForm"))
  g_BadFrame : mg "BadFrame" = some (.ref (ga K "BadFrame"))
  g_BadFrames : mg "BadFrames" = some (.ref (ga K "BadFrames"))
  g_BadGauge : mg "BadGauge" = some (.ref (ga K "BadGauge"))
  g_BadGrove : mg "BadGrove" = some (.ref (ga K "BadGrove"))
  g_BadHeight : mg "BadHeight" = some (.ref (ga K "BadHeight"))
  g_BadHigh : mg "BadHigh" = some (.ref (ga K "BadHigh"))
  g_BadHollow : mg "BadHollow" = some (.ref (ga K "BadHollow"))
  g_BadKind : mg "BadKind" = some (.ref (ga K "BadKind"))
  g_BadLevels : mg "BadLevels" = some (.ref (ga K "BadLevels"))
  g_BadLosses : mg "BadLosses" = some (.ref (ga K "BadLosses"))
  g_BadLot : mg "BadLot" = some (.ref (ga K "BadLot"))
  g_BadLots : mg "BadLots" = some (.ref (ga K "BadLots"))
  g_BadLow : mg "BadLow" = some (.ref (ga K "BadLow"))
  g_BadMany : mg "BadMany" = some (.ref (ga K "BadMany"))
  g_BadMost : mg "BadMost" = some (.ref (ga K "BadMost"))
  g_BadName : mg "BadName" = some (.ref (ga K "BadName"))
  g_BadNest : mg "BadNest" = some (.ref (ga K "BadNest"))
  g_BadNumber : mg "BadNumber" = some (.ref (ga K "BadNumber"))
  g_BadOrder : mg "BadOrder" = some (.ref (ga K "BadOrder"))
  g_BadOther : mg "BadOther" = some (.ref (ga K "BadOther"))
  g_BadParting : mg "BadParting" = some (.ref (ga K "BadParting"))
  g_BadPicture : mg "BadPicture" = some (.ref (ga K "BadPicture"))
  g_BadPlaces : mg "BadPlaces" = some (.ref (ga K "BadPlaces"))
  g_BadPrice : mg "BadPrice" = some (.ref (ga K "BadPrice"))
  g_BadPriced : mg "BadPriced" = some (.ref (ga K "BadPriced"))
  g_BadPulls : mg "BadPulls" = some (.ref (ga K "BadPulls"))
  g_BadQuestion : mg "BadQuestion" = some (.ref (ga K "BadQuestion"))
  g_BadRoots : mg "BadRoots" = some (.ref (ga K "BadRoots"))
  g_BadRows : mg "BadRows" = some (.ref (ga K "BadRows"))
  g_BadSession : mg "BadSession" = some (.ref (ga K "BadSession"))
  g_BadSharing : mg "BadSharing" = some (.ref (ga K "BadSharing"))
  g_BadSome : mg "BadSome" = some (.ref (ga K "BadSome"))
  g_BadSorter : mg "BadSorter" = some (.ref (ga K "BadSorter"))
  g_BadSplit : mg "BadSplit" = some (.ref (ga K "BadSplit"))
  g_BadTable : mg "BadTable" = some (.ref (ga K "BadTable"))
  g_BadText : mg "BadText" = some (.ref (ga K "BadText"))
  g_BadTies : mg "BadTies" = some (.ref (ga K "BadTies"))
  g_BadTold : mg "BadTold" = some (.ref (ga K "BadTold"))
  g_BadTree : mg "BadTree" = some (.ref (ga K "BadTree"))
  g_BadTriple : mg "BadTriple" = some (.ref (ga K "BadTriple"))
  g_BadTriples : mg "BadTriples" = some (.ref (ga K "BadTriples"))
  g_BadTwice : mg "BadTwice" = some (.ref (ga K "BadTwice"))
  g_BadWeb : mg "BadWeb" = some (.ref (ga K "BadWeb"))
  g_Crossing : mg "Crossing" = some (.ref (ga K "Crossing"))
  g_InUse : mg "InUse" = some (.ref (ga K "InUse"))
  g_IsThere : mg "IsThere" = some (.ref (ga K "IsThere"))
  g_IsWatched : mg "IsWatched" = some (.ref (ga K "IsWatched"))
  g_NoCount : mg "NoCount" = some (.ref (ga K "NoCount"))
  g_NoFrame : mg "NoFrame" = some (.ref (ga K "NoFrame"))
  g_NoLot : mg "NoLot" = some (.ref (ga K "NoLot"))
  g_NoParts : mg "NoParts" = some (.ref (ga K "NoParts"))
  g_NoPlace : mg "NoPlace" = some (.ref (ga K "NoPlace"))
  g_NoRoot : mg "NoRoot" = some (.ref (ga K "NoRoot"))
  g_NoTie : mg "NoTie" = some (.ref (ga K "NoTie"))
  g_NotFull : mg "NotFull" = some (.ref (ga K "NotFull"))
  g_NotNow : mg "NotNow" = some (.ref (ga K "NotNow"))
  g_NotThere : mg "NotThere" = some (.ref (ga K "NotThere"))
  g_NotWatched : mg "NotWatched" = some (.ref (ga K "NotWatched"))
  g_OtherPlaces : mg "OtherPlaces" = some (.ref (ga K "OtherPlaces"))
  g_SamePlace : mg "SamePlace" = some (.ref (ga K "SamePlace"))
  g_SavesNothing : mg "SavesNothing" = some (.ref (ga K "SavesNothing"))
  g_WouldChange : mg "WouldChange" = some (.ref (ga K "WouldChange"))
  ei : EIs K erl "NestError"
  ef_fault : ∀ C ∈ erl, PySem.W.findIn K (.ref (ga K C)) "fault" = some none
  ef_index : ∀ C ∈ erl, PySem.W.findIn K (.ref (ga K C)) "index" = some none
  ef_line : ∀ C ∈ erl, PySem.W.findIn K (.ref (ga K C)) "line" = some none
  ef_lot : ∀ C ∈ erl, PySem.W.findIn K (.ref (ga K C)) "lot" = some none
  ef_one : ∀ C ∈ erl, PySem.W.findIn K (.ref (ga K C)) "one" = some none
  ef_other : ∀ C ∈ erl, PySem.W.findIn K (.ref (ga K C)) "other" = some none
  ef_place : ∀ C ∈ erl, PySem.W.findIn K (.ref (ga K C)) "place" = some none
  ef_question : ∀ C ∈ erl, PySem.W.findIn K (.ref (ga K C)) "question" = some none
  ef_sign : ∀ C ∈ erl, PySem.W.findIn K (.ref (ga K C)) "sign" = some none
  ef_thing : ∀ C ∈ erl, PySem.W.findIn K (.ref (ga K C)) "thing" = some none
  ef_why : ∀ C ∈ erl, PySem.W.findIn K (.ref (ga K C)) "why" = some none
end K00
end
section
set_option Elab.async false
set_option linter.all false
set_option autoImplicit false
set_option maxRecDepth 100000
set_option maxHeartbeats 8000000
namespace K00
open PySem PySem.Spec PySem.W PyProof.Rows L2 IL LamX IS
section
variable {P : Program} {w : World} {K : PySem.W.Frag} {mg : Str → Option Value} {base : Heap} {T : Tb}
/-! ### _law_start -/
abbrev st_law_start : Stmt := (top 68)
theorem sc_law_start : FnScope ["script"] ["script"] (defScope st_law_start) := ⟨rfl, rfl, rfl, by decide +kernel, rfl, by decide +kernel, by decide +kernel⟩
theorem n_law_start (fx : Fx K mg) {fd : FuncData} (Fd : FunD K "_law_start" "_law_start" (defArgs st_law_start) (defBody st_law_start) (defScope st_law_start) [] [] (ga K "_law_start") fd) : FnOk P w K mg base (L2.CX P w) 1 (ga K "_law_start") fd ["script"] (spP K T 1 F_law_start) :=
  fnok_P (k := 0) (n := 0) Fd sc_law_start rfl fun cdv A outer s H E hr => by
    have R0 := hr.mono (Nat.zero_le _)
    have nd := sc_law_start.nd
    have tk : L2.Takes (cxOf (L2.CX P w) P w K mg base ["script"] "_law_start" (defScope st_law_start) (ga K "_law_start") cdv A outer s H E) (fun c d _ H => E c d H) := takes_of rfl rfl rfl rfl
    have px : Passes (L2.CX P w) (cxOf (L2.CX P w) P w K mg base ["script"] "_law_start" (defScope st_law_start) (ga K "_law_start") cdv A outer s H E) E := passes_call tk fun _ _ _ _ z => z
    have pown : PassesOwn (model P w) (cxOf (L2.CX P w) P w K mg base ["script"] "_law_start" (defScope st_law_start) (ga K "_law_start") cdv A outer s H E).A (cxOf (L2.CX P w) P w K mg base ["script"] "_law_start" (defScope st_law_start) (ga K "_law_start") cdv A outer s H E).env (cxOf (L2.CX P w) P w K mg base ["script"] "_law_start" (defScope st_law_start) (ga K "_law_start") cdv A outer s H E).xe := passes_of rfl
    exact (pss_one' (ps_ret' (pe_lstN (pa_cons' (pe_t1 (fList_ok rfl) fx.b_list PyProof.Rows.boot_list (pe_v 0)) (pa_cons' pe_i (pa_cons' pe_i (pa_cons' pe_i pa_nil')))) (an_cons (an_cons (an_cons (an_cons an_nil)))))))
theorem d_law_start (fx : Fx K mg) {fd : FuncData} (Fd : FunD K "_law_start" "_law_start" (defArgs st_law_start) (defBody st_law_start) (defScope st_law_start) [] [] (ga K "_law_start") fd) (hm : mg "_law_start" = some (.ref (ga K "_law_start"))) : Cal P w K mg base "_law_start" ["script"] (spP K T 1 F_law_start) 1 :=
  ⟨⟨fd, n_law_start fx Fd, Fd.bindsN (fun _ _ _ _ _ _ us hl => match us, hl with | [_], _ => rfl)⟩, hm, Fd.kp⟩
end
end K00
end
section
set_option Elab.async false
set_option linter.all false
set_option autoImplicit false
set_option maxRecDepth 100000
set_option maxHeartbeats 8000000
namespace K00
open PySem PySem.Spec PySem.W PyProof.Rows L2 IL LamX IS
section
variable {P : Program} {w : World} {K : PySem.W.Frag} {mg : Str → Option Value} {base : Heap} {T : Tb}
/-! ### _law_made_c -/
abbrev st_law_made_c : Stmt := (top 73)
theorem sc_law_made_c : FnScope ["x", "y", "z", "found"] ["x", "y", "z"] (defScope st_law_made_c) := ⟨rfl, rfl, rfl, by decide +kernel, rfl, by decide +kernel, by decide +kernel⟩
theorem lok_law_made_c0 (fx : Fx K mg) : LamOk P w K mg base 1 lr_law_made_c0 (spP K T 1 F_law_made_c0) :=
  lok_P (k := 0) (ps := ["e"]) (NdefX.nscope_by (by kernel_rfl)) (fun c' pm ctv us hl => match us, hl with | [_], _ => rfl) (fun f c' A outer s H E hrL => by
    have R0 := hrL.mono (Nat.zero_le _)
    exact (pe_lstN (pa_cons' (pe_errFs (pe_v 0) fx.ei fx.ef_thing) pa_nil') (an_cons an_nil)))
theorem lok_law_made_c1 (fx : Fx K mg) : LamOk P w K mg base 1 lr_law_made_c1 (spP K T 1 F_law_made_c1) :=
  lok_P (k := 0) (ps := ["e"]) (NdefX.nscope_by (by kernel_rfl)) (fun c' pm ctv us hl => match us, hl with | [_], _ => rfl) (fun f c' A outer s H E hrL => by
    have R0 := hrL.mono (Nat.zero_le _)
    exact (pe_lstN (pa_cons' (pe_errFs (pe_v 0) fx.ei fx.ef_thing) pa_nil') (an_cons an_nil)))
theorem lok_law_made_c2 (fx : Fx K mg) : LamOk P w K mg base 1 lr_law_made_c2 (spP K T 1 F_law_made_c2) :=
  lok_P (k := 0) (ps := ["e"]) (NdefX.nscope_by (by kernel_rfl)) (fun c' pm ctv us hl => match us, hl with | [_], _ => rfl) (fun f c' A outer s H E hrL => by
    have R0 := hrL.mono (Nat.zero_le _)
    exact (pe_lstN (pa_cons' (pe_errFs (pe_v 0) fx.ei fx.ef_line) (pa_cons' (pe_errFs (pe_v 0) fx.ei fx.ef_sign) pa_nil')) (an_cons (an_cons an_nil))))
theorem lok_law_made_c3 (fx : Fx K mg) : LamOk P w K mg base 1 lr_law_made_c3 (spP K T 1 F_law_made_c3) :=
  lok_P (k := 0) (ps := ["e"]) (NdefX.nscope_by (by kernel_rfl)) (fun c' pm ctv us hl => match us, hl with | [_], _ => rfl) (fun f c' A outer s H E hrL => by
    have R0 := hrL.mono (Nat.zero_le _)
    exact (pe_lstN (pa_cons' (pe_errFs (pe_v 0) fx.ei fx.ef_index) pa_nil') (an_cons an_nil)))
theorem lok_law_made_c4 (fx : Fx K mg) : LamOk P w K mg base 1 lr_law_made_c4 (spP K T 1 F_law_made_c4) :=
  lok_P (k := 0) (ps := ["e"]) (NdefX.nscope_by (by kernel_rfl)) (fun c' pm ctv us hl => match us, hl with | [_], _ => rfl) (fun f c' A outer s H E hrL => by
    have R0 := hrL.mono (Nat.zero_le _)
    exact (pe_lstN (pa_cons' (pe_errFs (pe_v 0) fx.ei fx.ef_index) pa_nil') (an_cons an_nil)))
theorem lok_law_made_c5 (fx : Fx K mg) : LamOk P w K mg base 1 lr_law_made_c5 (spP K T 1 F_law_made_c5) :=
  lok_P (k := 0) (ps := ["e"]) (NdefX.nscope_by (by kernel_rfl)) (fun c' pm ctv us hl => match us, hl with | [_], _ => rfl) (fun f c' A outer s H E hrL => by
    have R0 := hrL.mono (Nat.zero_le _)
    exact (pe_lstN (pa_cons' (pe_errFs (pe_v 0) fx.ei fx.ef_thing) pa_nil') (an_cons an_nil)))
theorem lok_law_made_c6 (fx : Fx K mg) : LamOk P w K mg base 1 lr_law_made_c6 (spP K T 1 F_law_made_c6) :=
  lok_P (k := 0) (ps := ["e"]) (NdefX.nscope_by (by kernel_rfl)) (fun c' pm ctv us hl => match us, hl with | [_], _ => rfl) (fun f c' A outer s H E hrL => by
    have R0 := hrL.mono (Nat.zero_le _)
    exact (pe_lstN (pa_cons' (pe_errFs (pe_v 0) fx.ei fx.ef_thing) pa_nil') (an_cons an_nil)))
theorem lok_law_made_c7 (fx : Fx K mg) : LamOk P w K mg base 1 lr_law_made_c7 (spP K T 1 F_law_made_c7) :=
  lok_P (k := 0) (ps := ["e"]) (NdefX.nscope_by (by kernel_rfl)) (fun c' pm ctv us hl => match us, hl with | [_], _ => rfl) (fun f c' A outer s H E hrL => by
    have R0 := hrL.mono (Nat.zero_le _)
    exact (pe_lstN (pa_cons' (pe_errFs (pe_v 0) fx.ei fx.ef_index) pa_nil') (an_cons an_nil)))
theorem lok_law_made_c8 (fx : Fx K mg) : LamOk P w K mg base 1 lr_law_made_c8 (spP K T 1 F_law_made_c8) :=
  lok_P (k := 0) (ps := ["e"]) (NdefX.nscope_by (by kernel_rfl)) (fun c' pm ctv us hl => match us, hl with | [_], _ => rfl) (fun f c' A outer s H E hrL => by
    have R0 := hrL.mono (Nat.zero_le _)
    exact (pe_lstN (pa_cons' (pe_errFs (pe_v 0) fx.ei fx.ef_thing) pa_nil') (an_cons an_nil)))
theorem lok_law_made_c9 (fx : Fx K mg) : LamOk P w K mg base 1 lr_law_made_c9 (spP K T 1 F_law_made_c9) :=
  lok_P (k := 0) (ps := ["e"]) (NdefX.nscope_by (by kernel_rfl)) (fun c' pm ctv us hl => match us, hl with | [_], _ => rfl) (fun f c' A outer s H E hrL => by
    have R0 := hrL.mono (Nat.zero_le _)
    exact (pe_lstN (pa_cons' (pe_errFs (pe_v 0) fx.ei fx.ef_thing) pa_nil') (an_cons an_nil)))
theorem lok_law_made_c10 (fx : Fx K mg) : LamOk P w K mg base 1 lr_law_made_c10 (spP K T 1 F_law_made_c10) :=
  lok_P (k := 0) (ps := ["e"]) (NdefX.nscope_by (by kernel_rfl)) (fun c' pm ctv us hl => match us, hl with | [_], _ => rfl) (fun f c' A outer s H E hrL => by
    have R0 := hrL.mono (Nat.zero_le _)
    exact (pe_lstN (pa_cons' (pe_errFs (pe_v 0) fx.ei fx.ef_lot) (pa_cons' (pe_errFs (pe_v 0) fx.ei fx.ef_other) pa_nil')) (an_cons (an_cons an_nil))))
theorem lok_law_made_c11 (fx : Fx K mg) : LamOk P w K mg base 1 lr_law_made_c11 (spP K T 1 F_law_made_c11) :=
  lok_P (k := 0) (ps := ["e"]) (NdefX.nscope_by (by kernel_rfl)) (fun c' pm ctv us hl => match us, hl with | [_], _ => rfl) (fun f c' A outer s H E hrL => by
    have R0 := hrL.mono (Nat.zero_le _)
    exact (pe_lstN (pa_cons' (pe_errFs (pe_v 0) fx.ei fx.ef_question) pa_nil') (an_cons an_nil)))
theorem lok_law_made_c12 (fx : Fx K mg) : LamOk P w K mg base 1 lr_law_made_c12 (spP K T 1 F_law_made_c12) :=
  lok_P (k := 0) (ps := ["e"]) (NdefX.nscope_by (by kernel_rfl)) (fun c' pm ctv us hl => match us, hl with | [_], _ => rfl) (fun f c' A outer s H E hrL => by
    have R0 := hrL.mono (Nat.zero_le _)
    exact (pe_lstN (pa_cons' (pe_errFs (pe_v 0) fx.ei fx.ef_lot) pa_nil') (an_cons an_nil)))
theorem lok_law_made_c13 (fx : Fx K mg) : LamOk P w K mg base 1 lr_law_made_c13 (spP K T 1 F_law_made_c13) :=
  lok_P (k := 0) (ps := ["e"]) (NdefX.nscope_by (by kernel_rfl)) (fun c' pm ctv us hl => match us, hl with | [_], _ => rfl) (fun f c' A outer s H E hrL => by
    have R0 := hrL.mono (Nat.zero_le _)
    exact (pe_lstN (pa_cons' (pe_errFs (pe_v 0) fx.ei fx.ef_question) pa_nil') (an_cons an_nil)))
theorem lok_law_made_c14 (fx : Fx K mg) : LamOk P w K mg base 1 lr_law_made_c14 (spP K T 1 F_law_made_c14) :=
  lok_P (k := 0) (ps := ["e"]) (NdefX.nscope_by (by kernel_rfl)) (fun c' pm ctv us hl => match us, hl with | [_], _ => rfl) (fun f c' A outer s H E hrL => by
    have R0 := hrL.mono (Nat.zero_le _)
    exact (pe_lstN (pa_cons' (pe_errFs (pe_v 0) fx.ei fx.ef_thing) pa_nil') (an_cons an_nil)))
theorem lok_law_made_c15 (fx : Fx K mg) : LamOk P w K mg base 1 lr_law_made_c15 (spP K T 1 F_law_made_c15) :=
  lok_P (k := 0) (ps := ["e"]) (NdefX.nscope_by (by kernel_rfl)) (fun c' pm ctv us hl => match us, hl with | [_], _ => rfl) (fun f c' A outer s H E hrL => by
    have R0 := hrL.mono (Nat.zero_le _)
    exact (pe_lstN pa_nil' an_nil))
theorem lok_law_made_c16 (fx : Fx K mg) : LamOk P w K mg base 1 lr_law_made_c16 (spP K T 1 F_law_made_c16) :=
  lok_P (k := 0) (ps := ["e"]) (NdefX.nscope_by (by kernel_rfl)) (fun c' pm ctv us hl => match us, hl with | [_], _ => rfl) (fun f c' A outer s H E hrL => by
    have R0 := hrL.mono (Nat.zero_le _)
    exact (pe_lstN (pa_cons' (pe_errFs (pe_v 0) fx.ei fx.ef_thing) pa_nil') (an_cons an_nil)))
theorem lok_law_made_c17 (fx : Fx K mg) : LamOk P w K mg base 1 lr_law_made_c17 (spP K T 1 F_law_made_c17) :=
  lok_P (k := 0) (ps := ["e"]) (NdefX.nscope_by (by kernel_rfl)) (fun c' pm ctv us hl => match us, hl with | [_], _ => rfl) (fun f c' A outer s H E hrL => by
    have R0 := hrL.mono (Nat.zero_le _)
    exact (pe_lstN (pa_cons' (pe_errFs (pe_v 0) fx.ei fx.ef_lot) pa_nil') (an_cons an_nil)))
theorem n_law_made_c (fx : Fx K mg) (ez_BadSplit : Ez P w K mg base "BadSplit" ["thing"] [0] ["thing"] [0]) (ez_BadTable : Ez P w K mg base "BadTable" ["thing"] [0] ["thing"] [0]) (ez_BadText : Ez P w K mg base "BadText" ["sign", "line"] [1, 0] ["sign", "line"] [1, 0]) (ez_BadTies : Ez P w K mg base "BadTies" ["index"] [0] ["index"] [0]) (ez_BadTold : Ez P w K mg base "BadTold" ["index"] [0] ["index"] [0]) (ez_BadTree : Ez P w K mg base "BadTree" ["thing"] [0] ["thing"] [0]) (ez_BadTriple : Ez P w K mg base "BadTriple" ["thing"] [0] ["thing"] [0]) (ez_BadTriples : Ez P w K mg base "BadTriples" ["index"] [0] ["index"] [0]) (ez_BadTwice : Ez P w K mg base "BadTwice" ["thing"] [0] ["thing"] [0]) (ez_BadWeb : Ez P w K mg base "BadWeb" ["thing"] [0] ["thing"] [0]) (ez_Crossing : Ez P w K mg base "Crossing" ["other", "lot"] [1, 0] ["other", "lot"] [1, 0]) (ez_InUse : Ez P w K mg base "InUse" ["question"] [0] ["question"] [0]) (ez_IsThere : Ez P w K mg base "IsThere" ["lot"] [0] ["lot"] [0]) (ez_IsWatched : Ez P w K mg base "IsWatched" ["question"] [0] ["question"] [0]) (ez_NoCount : Ez P w K mg base "NoCount" ["thing"] [0] ["thing"] [0]) (ez_NoFrame : Ez0 K mg "NoFrame") (ez_NoLot : Ez P w K mg base "NoLot" ["thing"] [0] ["thing"] [0]) (ez_NoParts : Ez P w K mg base "NoParts" ["lot"] [0] ["lot"] [0]) (TB : TabB base mg (He.cT K ("_law_made_c", none)).1 (He.cT K ("_law_made_c", none)).2) (hmT : ((He.cT K ("_law_made_c", none)).2, ("_law_made_c" : Str) ++ ".<locals>." ++ "<lambda>") ∈ T) (hu : ∀ p ∈ T, p.1 = (He.cT K ("_law_made_c", none)).2 → p.2 = ("_law_made_c" : Str) ++ ".<locals>." ++ "<lambda>") {fd : FuncData} (Fd : FunD K "_law_made_c" "_law_made_c" (defArgs st_law_made_c) (defBody st_law_made_c) (defScope st_law_made_c) [] [] (ga K "_law_made_c") fd) : FnOk P w K mg base (L2.CX P w) 4 (ga K "_law_made_c") fd ["x", "y", "z"] (spP K T 3 F_law_made_c) :=
  fnok_Pk ("_law_made_c", none) (k := 3) (n := 1) Fd sc_law_made_c rfl fun cdv A outer s H E hr hcd => by
    have R0 := hr.mono (Nat.zero_le _)
    have nd := sc_law_made_c.nd
    have tk : L2.Takes (cxOf (L2.CX P w) P w K mg base ["x", "y", "z", "found"] "_law_made_c" (defScope st_law_made_c) (ga K "_law_made_c") cdv A outer s H E) (fun c d _ H => E c d H) := takes_of rfl rfl rfl rfl
    have px : Passes (L2.CX P w) (cxOf (L2.CX P w) P w K mg base ["x", "y", "z", "found"] "_law_made_c" (defScope st_law_made_c) (ga K "_law_made_c") cdv A outer s H E) E := passes_call tk fun _ _ _ _ z => z
    have pown : PassesOwn (model P w) (cxOf (L2.CX P w) P w K mg base ["x", "y", "z", "found"] "_law_made_c" (defScope st_law_made_c) (ga K "_law_made_c") cdv A outer s H E).A (cxOf (L2.CX P w) P w K mg base ["x", "y", "z", "found"] "_law_made_c" (defScope st_law_made_c) (ga K "_law_made_c") cdv A outer s H E).env (cxOf (L2.CX P w) P w K mg base ["x", "y", "z", "found"] "_law_made_c" (defScope st_law_made_c) (ga K "_law_made_c") cdv A outer s H E).xe := passes_of rfl
    exact (pss_cons' (ps_asg' (ps_asg (pe_own (pe_lstN pa_nil' an_nil)) (pg_set (pg_name nd (i := 3) rfl (by first | exact Or.inl rfl | exact Or.inr rfl)) trivial)))
 (pss_cons' (ps_exp (ps_expr (pe_mut (pe_w PySem.F.plainAttrs_list PySem.F.slot_list_append PySem.F.type_list_append mt_append (pe_v 3) (pa_cons' (pe_tupN (pa_cons' (pe_ez ez_BadSplit hr (pa_cons' (pe_v 0) pa_nil')) (pa_cons' (pe_ezK ez_BadSplit hr (ka_cons' (pe_v 0) ka_nil')) (pa_cons' (pe_lamR "law_made_c0" lr_law_made_c0 TB hcd hmT hu (by kernel_rfl)) (pa_cons' (pe_lstN (pa_cons' (pe_v 0) pa_nil') (an_cons an_nil)) pa_nil')))) (an_cons (an_cons (an_cons (an_cons an_nil))))) pa_nil')) (fun _ _ _ _ _ r h => kLst_ty r h) mAppend_ok)))
 (pss_cons' (ps_exp (ps_expr (pe_mut (pe_w PySem.F.plainAttrs_list PySem.F.slot_list_append PySem.F.type_list_append mt_append (pe_v 3) (pa_cons' (pe_tupN (pa_cons' (pe_ez ez_BadTable hr (pa_cons' (pe_v 0) pa_nil')) (pa_cons' (pe_ezK ez_BadTable hr (ka_cons' (pe_v 0) ka_nil')) (pa_cons' (pe_lamR "law_made_c1" lr_law_made_c1 TB hcd hmT hu (by kernel_rfl)) (pa_cons' (pe_lstN (pa_cons' (pe_v 0) pa_nil') (an_cons an_nil)) pa_nil')))) (an_cons (an_cons (an_cons (an_cons an_nil))))) pa_nil')) (fun _ _ _ _ _ r h => kLst_ty r h) mAppend_ok)))
 (pss_cons' (ps_exp (ps_expr (pe_mut (pe_w PySem.F.plainAttrs_list PySem.F.slot_list_append PySem.F.type_list_append mt_append (pe_v 3) (pa_cons' (pe_tupN (pa_cons' (pe_ez ez_BadText hr (pa_cons' (pe_v 0) (pa_cons' (pe_v 1) pa_nil'))) (pa_cons' (pe_ezK ez_BadText hr (ka_cons' (pe_v 1) (ka_cons' (pe_v 0) ka_nil'))) (pa_cons' (pe_lamR "law_made_c2" lr_law_made_c2 TB hcd hmT hu (by kernel_rfl)) (pa_cons' (pe_lstN (pa_cons' (pe_v 0) (pa_cons' (pe_v 1) pa_nil')) (an_cons (an_cons an_nil))) pa_nil')))) (an_cons (an_cons (an_cons (an_cons an_nil))))) pa_nil')) (fun _ _ _ _ _ r h => kLst_ty r h) mAppend_ok)))
 (pss_cons' (ps_exp (ps_expr (pe_mut (pe_w PySem.F.plainAttrs_list PySem.F.slot_list_append PySem.F.type_list_append mt_append (pe_v 3) (pa_cons' (pe_tupN (pa_cons' (pe_ez ez_BadTies hr (pa_cons' (pe_v 0) pa_nil')) (pa_cons' (pe_ezK ez_BadTies hr (ka_cons' (pe_v 0) ka_nil')) (pa_cons' (pe_lamR "law_made_c3" lr_law_made_c3 TB hcd hmT hu (by kernel_rfl)) (pa_cons' (pe_lstN (pa_cons' (pe_v 0) pa_nil') (an_cons an_nil)) pa_nil')))) (an_cons (an_cons (an_cons (an_cons an_nil))))) pa_nil')) (fun _ _ _ _ _ r h => kLst_ty r h) mAppend_ok)))
 (pss_cons' (ps_exp (ps_expr (pe_mut (pe_w PySem.F.plainAttrs_list PySem.F.slot_list_append PySem.F.type_list_append mt_append (pe_v 3) (pa_cons' (pe_tupN (pa_cons' (pe_ez ez_BadTold hr (pa_cons' (pe_v 0) pa_nil')) (pa_cons' (pe_ezK ez_BadTold hr (ka_cons' (pe_v 0) ka_nil')) (pa_cons' (pe_lamR "law_made_c4" lr_law_made_c4 TB hcd hmT hu (by kernel_rfl)) (pa_cons' (pe_lstN (pa_cons' (pe_v 0) pa_nil') (an_cons an_nil)) pa_nil')))) (an_cons (an_cons (an_cons (an_cons an_nil))))) pa_nil')) (fun _ _ _ _ _ r h => kLst_ty r h) mAppend_ok)))
 (pss_cons' (ps_exp (ps_expr (pe_mut (pe_w PySem.F.plainAttrs_list PySem.F.slot_list_append PySem.F.type_list_append mt_append (pe_v 3) (pa_cons' (pe_tupN (pa_cons' (pe_ez ez_BadTree hr (pa_cons' (pe_v 0) pa_nil')) (pa_cons' (pe_ezK ez_BadTree hr (ka_cons' (pe_v 0) ka_nil')) (pa_cons' (pe_lamR "law_made_c5" lr_law_made_c5 TB hcd hmT hu (by kernel_rfl)) (pa_cons' (pe_lstN (pa_cons' (pe_v 0) pa_nil') (an_cons an_nil)) pa_nil')))) (an_cons (an_cons (an_cons (an_cons an_nil))))) pa_nil')) (fun _ _ _ _ _ r h => kLst_ty r h) mAppend_ok)))
 (pss_cons' (ps_exp (ps_expr (pe_mut (pe_w PySem.F.plainAttrs_list PySem.F.slot_list_append PySem.F.type_list_append mt_append (pe_v 3) (pa_cons' (pe_tupN (pa_cons' (pe_ez ez_BadTriple hr (pa_cons' (pe_v 0) pa_nil')) (pa_cons' (pe_ezK ez_BadTriple hr (ka_cons' (pe_v 0) ka_nil')) (pa_cons' (pe_lamR "law_made_c6" lr_law_made_c6 TB hcd hmT hu (by kernel_rfl)) (pa_cons' (pe_lstN (pa_cons' (pe_v 0) pa_nil') (an_cons an_nil)) pa_nil')))) (an_cons (an_cons (an_cons (an_cons an_nil))))) pa_nil')) (fun _ _ _ _ _ r h => kLst_ty r h) mAppend_ok)))
 (pss_cons' (ps_exp (ps_expr (pe_mut (pe_w PySem.F.plainAttrs_list PySem.F.slot_list_append PySem.F.type_list_append mt_append (pe_v 3) (pa_cons' (pe_tupN (pa_cons' (pe_ez ez_BadTriples hr (pa_cons' (pe_v 0) pa_nil')) (pa_cons' (pe_ezK ez_BadTriples hr (ka_cons' (pe_v 0) ka_nil')) (pa_cons' (pe_lamR "law_made_c7" lr_law_made_c7 TB hcd hmT hu (by kernel_rfl)) (pa_cons' (pe_lstN (pa_cons' (pe_v 0) pa_nil') (an_cons an_nil)) pa_nil')))) (an_cons (an_cons (an_cons (an_cons an_nil))))) pa_nil')) (fun _ _ _ _ _ r h => kLst_ty r h) mAppend_ok)))
 (pss_cons' (ps_exp (ps_expr (pe_mut (pe_w PySem.F.plainAttrs_list PySem.F.slot_list_append PySem.F.type_list_append mt_append (pe_v 3) (pa_cons' (pe_tupN (pa_cons' (pe_ez ez_BadTwice hr (pa_cons' (pe_v 0) pa_nil')) (pa_cons' (pe_ezK ez_BadTwice hr (ka_cons' (pe_v 0) ka_nil')) (pa_cons' (pe_lamR "law_made_c8" lr_law_made_c8 TB hcd hmT hu (by kernel_rfl)) (pa_cons' (pe_lstN (pa_cons' (pe_v 0) pa_nil') (an_cons an_nil)) pa_nil')))) (an_cons (an_cons (an_cons (an_cons an_nil))))) pa_nil')) (fun _ _ _ _ _ r h => kLst_ty r h) mAppend_ok)))
 (pss_cons' (ps_exp (ps_expr (pe_mut (pe_w PySem.F.plainAttrs_list PySem.F.slot_list_append PySem.F.type_list_append mt_append (pe_v 3) (pa_cons' (pe_tupN (pa_cons' (pe_ez ez_BadWeb hr (pa_cons' (pe_v 0) pa_nil')) (pa_cons' (pe_ezK ez_BadWeb hr (ka_cons' (pe_v 0) ka_nil')) (pa_cons' (pe_lamR "law_made_c9" lr_law_made_c9 TB hcd hmT hu (by kernel_rfl)) (pa_cons' (pe_lstN (pa_cons' (pe_v 0) pa_nil') (an_cons an_nil)) pa_nil')))) (an_cons (an_cons (an_cons (an_cons an_nil))))) pa_nil')) (fun _ _ _ _ _ r h => kLst_ty r h) mAppend_ok)))
 (pss_cons' (ps_exp (ps_expr (pe_mut (pe_w PySem.F.plainAttrs_list PySem.F.slot_list_append PySem.F.type_list_append mt_append (pe_v 3) (pa_cons' (pe_tupN (pa_cons' (pe_ez ez_Crossing hr (pa_cons' (pe_v 0) (pa_cons' (pe_v 1) pa_nil'))) (pa_cons' (pe_ezK ez_Crossing hr (ka_cons' (pe_v 1) (ka_cons' (pe_v 0) ka_nil'))) (pa_cons' (pe_lamR "law_made_c10" lr_law_made_c10 TB hcd hmT hu (by kernel_rfl)) (pa_cons' (pe_lstN (pa_cons' (pe_v 0) (pa_cons' (pe_v 1) pa_nil')) (an_cons (an_cons an_nil))) pa_nil')))) (an_cons (an_cons (an_cons (an_cons an_nil))))) pa_nil')) (fun _ _ _ _ _ r h => kLst_ty r h) mAppend_ok)))
 (pss_cons' (ps_exp (ps_expr (pe_mut (pe_w PySem.F.plainAttrs_list PySem.F.slot_list_append PySem.F.type_list_append mt_append (pe_v 3) (pa_cons' (pe_tupN (pa_cons' (pe_ez ez_InUse hr (pa_cons' (pe_v 0) pa_nil')) (pa_cons' (pe_ezK ez_InUse hr (ka_cons' (pe_v 0) ka_nil')) (pa_cons' (pe_lamR "law_made_c11" lr_law_made_c11 TB hcd hmT hu (by kernel_rfl)) (pa_cons' (pe_lstN (pa_cons' (pe_v 0) pa_nil') (an_cons an_nil)) pa_nil')))) (an_cons (an_cons (an_cons (an_cons an_nil))))) pa_nil')) (fun _ _ _ _ _ r h => kLst_ty r h) mAppend_ok)))
 (pss_cons' (ps_exp (ps_expr (pe_mut (pe_w PySem.F.plainAttrs_list PySem.F.slot_list_append PySem.F.type_list_append mt_append (pe_v 3) (pa_cons' (pe_tupN (pa_cons' (pe_ez ez_IsThere hr (pa_cons' (pe_v 0) pa_nil')) (pa_cons' (pe_ezK ez_IsThere hr (ka_cons' (pe_v 0) ka_nil')) (pa_cons' (pe_lamR "law_made_c12" lr_law_made_c12 TB hcd hmT hu (by kernel_rfl)) (pa_cons' (pe_lstN (pa_cons' (pe_v 0) pa_nil') (an_cons an_nil)) pa_nil')))) (an_cons (an_cons (an_cons (an_cons an_nil))))) pa_nil')) (fun _ _ _ _ _ r h => kLst_ty r h) mAppend_ok)))
 (pss_cons' (ps_exp (ps_expr (pe_mut (pe_w PySem.F.plainAttrs_list PySem.F.slot_list_append PySem.F.type_list_append mt_append (pe_v 3) (pa_cons' (pe_tupN (pa_cons' (pe_ez ez_IsWatched hr (pa_cons' (pe_v 0) pa_nil')) (pa_cons' (pe_ezK ez_IsWatched hr (ka_cons' (pe_v 0) ka_nil')) (pa_cons' (pe_lamR "law_made_c13" lr_law_made_c13 TB hcd hmT hu (by kernel_rfl)) (pa_cons' (pe_lstN (pa_cons' (pe_v 0) pa_nil') (an_cons an_nil)) pa_nil')))) (an_cons (an_cons (an_cons (an_cons an_nil))))) pa_nil')) (fun _ _ _ _ _ r h => kLst_ty r h) mAppend_ok)))
 (pss_cons' (ps_exp (ps_expr (pe_mut (pe_w PySem.F.plainAttrs_list PySem.F.slot_list_append PySem.F.type_list_append mt_append (pe_v 3) (pa_cons' (pe_tupN (pa_cons' (pe_ez ez_NoCount hr (pa_cons' (pe_v 0) pa_nil')) (pa_cons' (pe_ezK ez_NoCount hr (ka_cons' (pe_v 0) ka_nil')) (pa_cons' (pe_lamR "law_made_c14" lr_law_made_c14 TB hcd hmT hu (by kernel_rfl)) (pa_cons' (pe_lstN (pa_cons' (pe_v 0) pa_nil') (an_cons an_nil)) pa_nil')))) (an_cons (an_cons (an_cons (an_cons an_nil))))) pa_nil')) (fun _ _ _ _ _ r h => kLst_ty r h) mAppend_ok)))
 (pss_cons' (ps_exp (ps_expr (pe_mut (pe_w PySem.F.plainAttrs_list PySem.F.slot_list_append PySem.F.type_list_append mt_append (pe_v 3) (pa_cons' (pe_tupN (pa_cons' (pe_ez0 ez_NoFrame) (pa_cons' (pe_ez0 ez_NoFrame) (pa_cons' (pe_lamR "law_made_c15" lr_law_made_c15 TB hcd hmT hu (by kernel_rfl)) (pa_cons' (pe_lstN pa_nil' an_nil) pa_nil')))) (an_cons (an_cons (an_cons (an_cons an_nil))))) pa_nil')) (fun _ _ _ _ _ r h => kLst_ty r h) mAppend_ok)))
 (pss_cons' (ps_exp (ps_expr (pe_mut (pe_w PySem.F.plainAttrs_list PySem.F.slot_list_append PySem.F.type_list_append mt_append (pe_v 3) (pa_cons' (pe_tupN (pa_cons' (pe_ez ez_NoLot hr (pa_cons' (pe_v 0) pa_nil')) (pa_cons' (pe_ezK ez_NoLot hr (ka_cons' (pe_v 0) ka_nil')) (pa_cons' (pe_lamR "law_made_c16" lr_law_made_c16 TB hcd hmT hu (by kernel_rfl)) (pa_cons' (pe_lstN (pa_cons' (pe_v 0) pa_nil') (an_cons an_nil)) pa_nil')))) (an_cons (an_cons (an_cons (an_cons an_nil))))) pa_nil')) (fun _ _ _ _ _ r h => kLst_ty r h) mAppend_ok)))
 (pss_cons' (ps_exp (ps_expr (pe_mut (pe_w PySem.F.plainAttrs_list PySem.F.slot_list_append PySem.F.type_list_append mt_append (pe_v 3) (pa_cons' (pe_tupN (pa_cons' (pe_ez ez_NoParts hr (pa_cons' (pe_v 0) pa_nil')) (pa_cons' (pe_ezK ez_NoParts hr (ka_cons' (pe_v 0) ka_nil')) (pa_cons' (pe_lamR "law_made_c17" lr_law_made_c17 TB hcd hmT hu (by kernel_rfl)) (pa_cons' (pe_lstN (pa_cons' (pe_v 0) pa_nil') (an_cons an_nil)) pa_nil')))) (an_cons (an_cons (an_cons (an_cons an_nil))))) pa_nil')) (fun _ _ _ _ _ r h => kLst_ty r h) mAppend_ok)))
 (pss_one' (ps_ret' (pe_vm 3))))))))))))))))))))))
theorem d_law_made_c (fx : Fx K mg) (ez_BadSplit : Ez P w K mg base "BadSplit" ["thing"] [0] ["thing"] [0]) (ez_BadTable : Ez P w K mg base "BadTable" ["thing"] [0] ["thing"] [0]) (ez_BadText : Ez P w K mg base "BadText" ["sign", "line"] [1, 0] ["sign", "line"] [1, 0]) (ez_BadTies : Ez P w K mg base "BadTies" ["index"] [0] ["index"] [0]) (ez_BadTold : Ez P w K mg base "BadTold" ["index"] [0] ["index"] [0]) (ez_BadTree : Ez P w K mg base "BadTree" ["thing"] [0] ["thing"] [0]) (ez_BadTriple : Ez P w K mg base "BadTriple" ["thing"] [0] ["thing"] [0]) (ez_BadTriples : Ez P w K mg base "BadTriples" ["index"] [0] ["index"] [0]) (ez_BadTwice : Ez P w K mg base "BadTwice" ["thing"] [0] ["thing"] [0]) (ez_BadWeb : Ez P w K mg base "BadWeb" ["thing"] [0] ["thing"] [0]) (ez_Crossing : Ez P w K mg base "Crossing" ["other", "lot"] [1, 0] ["other", "lot"] [1, 0]) (ez_InUse : Ez P w K mg base "InUse" ["question"] [0] ["question"] [0]) (ez_IsThere : Ez P w K mg base "IsThere" ["lot"] [0] ["lot"] [0]) (ez_IsWatched : Ez P w K mg base "IsWatched" ["question"] [0] ["question"] [0]) (ez_NoCount : Ez P w K mg base "NoCount" ["thing"] [0] ["thing"] [0]) (ez_NoFrame : Ez0 K mg "NoFrame") (ez_NoLot : Ez P w K mg base "NoLot" ["thing"] [0] ["thing"] [0]) (ez_NoParts : Ez P w K mg base "NoParts" ["lot"] [0] ["lot"] [0]) (TB : TabB base mg (He.cT K ("_law_made_c", none)).1 (He.cT K ("_law_made_c", none)).2) (hmT : ((He.cT K ("_law_made_c", none)).2, ("_law_made_c" : Str) ++ ".<locals>." ++ "<lambda>") ∈ T) (hu : ∀ p ∈ T, p.1 = (He.cT K ("_law_made_c", none)).2 → p.2 = ("_law_made_c" : Str) ++ ".<locals>." ++ "<lambda>") {fd : FuncData} (Fd : FunD K "_law_made_c" "_law_made_c" (defArgs st_law_made_c) (defBody st_law_made_c) (defScope st_law_made_c) [] [] (ga K "_law_made_c") fd) (hm : mg "_law_made_c" = some (.ref (ga K "_law_made_c"))) : Cal P w K mg base "_law_made_c" ["x", "y", "z"] (spP K T 3 F_law_made_c) 4 :=
  ⟨⟨fd, n_law_made_c fx ez_BadSplit ez_BadTable ez_BadText ez_BadTies ez_BadTold ez_BadTree ez_BadTriple ez_BadTriples ez_BadTwice ez_BadWeb ez_Crossing ez_InUse ez_IsThere ez_IsWatched ez_NoCount ez_NoFrame ez_NoLot ez_NoParts TB hmT hu Fd, Fd.bindsN (fun _ _ _ _ _ _ us hl => match us, hl with | [_, _, _], _ => rfl)⟩, hm, Fd.kp⟩
end
end K00
end
section
set_option Elab.async false
set_option linter.all false
set_option autoImplicit false
set_option maxRecDepth 100000
set_option maxHeartbeats 8000000
namespace K00
open PySem PySem.Spec PySem.W PyProof.Rows L2 IL LamX IS
section
variable {P : Program} {w : World} {K : PySem.W.Frag} {mg : Str → Option Value} {base : Heap} {T : Tb}
/-! ### _law_made_d -/
abbrev st_law_made_d : Stmt := (top 74)
theorem sc_law_made_d : FnScope ["x", "y", "z", "found"] ["x", "y", "z"] (defScope st_law_made_d) := ⟨rfl, rfl, rfl, by decide +kernel, rfl, by decide +kernel, by decide +kernel⟩
theorem lok_law_made_d0 (fx : Fx K mg) : LamOk P w K mg base 1 lr_law_made_d0 (spP K T 1 F_law_made_d0) :=
  lok_P (k := 0) (ps := ["e"]) (NdefX.nscope_by (by kernel_rfl)) (fun c' pm ctv us hl => match us, hl with | [_], _ => rfl) (fun f c' A outer s H E hrL => by
    have R0 := hrL.mono (Nat.zero_le _)
    exact (pe_lstN (pa_cons' (pe_errFs (pe_v 0) fx.ei fx.ef_thing) pa_nil') (an_cons an_nil)))
theorem lok_law_made_d1 (fx : Fx K mg) : LamOk P w K mg base 1 lr_law_made_d1 (spP K T 1 F_law_made_d1) :=
  lok_P (k := 0) (ps := ["e"]) (NdefX.nscope_by (by kernel_rfl)) (fun c' pm ctv us hl => match us, hl with | [_], _ => rfl) (fun f c' A outer s H E hrL => by
    have R0 := hrL.mono (Nat.zero_le _)
    exact (pe_lstN (pa_cons' (pe_errFs (pe_v 0) fx.ei fx.ef_place) pa_nil') (an_cons an_nil)))
theorem lok_law_made_d2 (fx : Fx K mg) : LamOk P w K mg base 1 lr_law_made_d2 (spP K T 1 F_law_made_d2) :=
  lok_P (k := 0) (ps := ["e"]) (NdefX.nscope_by (by kernel_rfl)) (fun c' pm ctv us hl => match us, hl with | [_], _ => rfl) (fun f c' A outer s H E hrL => by
    have R0 := hrL.mono (Nat.zero_le _)
    exact (pe_lstN (pa_cons' (pe_errFs (pe_v 0) fx.ei fx.ef_one) (pa_cons' (pe_errFs (pe_v 0) fx.ei fx.ef_other) pa_nil')) (an_cons (an_cons an_nil))))
theorem lok_law_made_d3 (fx : Fx K mg) : LamOk P w K mg base 1 lr_law_made_d3 (spP K T 1 F_law_made_d3) :=
  lok_P (k := 0) (ps := ["e"]) (NdefX.nscope_by (by kernel_rfl)) (fun c' pm ctv us hl => match us, hl with | [_], _ => rfl) (fun f c' A outer s H E hrL => by
    have R0 := hrL.mono (Nat.zero_le _)
    exact (pe_lstN pa_nil' an_nil))
theorem lok_law_made_d4 (fx : Fx K mg) : LamOk P w K mg base 1 lr_law_made_d4 (spP K T 1 F_law_made_d4) :=
  lok_P (k := 0) (ps := ["e"]) (NdefX.nscope_by (by kernel_rfl)) (fun c' pm ctv us hl => match us, hl with | [_], _ => rfl) (fun f c' A outer s H E hrL => by
    have R0 := hrL.mono (Nat.zero_le _)
    exact (pe_lstN (pa_cons' (pe_errFs (pe_v 0) fx.ei fx.ef_why) pa_nil') (an_cons an_nil)))
theorem lok_law_made_d5 (fx : Fx K mg) : LamOk P w K mg base 1 lr_law_made_d5 (spP K T 1 F_law_made_d5) :=
  lok_P (k := 0) (ps := ["e"]) (NdefX.nscope_by (by kernel_rfl)) (fun c' pm ctv us hl => match us, hl with | [_], _ => rfl) (fun f c' A outer s H E hrL => by
    have R0 := hrL.mono (Nat.zero_le _)
    exact (pe_lstN (pa_cons' (pe_errFs (pe_v 0) fx.ei fx.ef_lot) pa_nil') (an_cons an_nil)))
theorem lok_law_made_d6 (fx : Fx K mg) : LamOk P w K mg base 1 lr_law_made_d6 (spP K T 1 F_law_made_d6) :=
  lok_P (k := 0) (ps := ["e"]) (NdefX.nscope_by (by kernel_rfl)) (fun c' pm ctv us hl => match us, hl with | [_], _ => rfl) (fun f c' A outer s H E hrL => by
    have R0 := hrL.mono (Nat.zero_le _)
    exact (pe_lstN (pa_cons' (pe_errFs (pe_v 0) fx.ei fx.ef_question) pa_nil') (an_cons an_nil)))
theorem lok_law_made_d7 (fx : Fx K mg) : LamOk P w K mg base 1 lr_law_made_d7 (spP K T 1 F_law_made_d7) :=
  lok_P (k := 0) (ps := ["e"]) (NdefX.nscope_by (by kernel_rfl)) (fun c' pm ctv us hl => match us, hl with | [_], _ => rfl) (fun f c' A outer s H E hrL => by
    have R0 := hrL.mono (Nat.zero_le _)
    exact (pe_lstN pa_nil' an_nil))
theorem lok_law_made_d8 (fx : Fx K mg) : LamOk P w K mg base 1 lr_law_made_d8 (spP K T 1 F_law_made_d8) :=
  lok_P (k := 0) (ps := ["e"]) (NdefX.nscope_by (by kernel_rfl)) (fun c' pm ctv us hl => match us, hl with | [_], _ => rfl) (fun f c' A outer s H E hrL => by
    have R0 := hrL.mono (Nat.zero_le _)
    exact (pe_lstN (pa_cons' (pe_errFs (pe_v 0) fx.ei fx.ef_thing) pa_nil') (an_cons an_nil)))
theorem lok_law_made_d9 (fx : Fx K mg) : LamOk P w K mg base 1 lr_law_made_d9 (spP K T 1 F_law_made_d9) :=
  lok_P (k := 0) (ps := ["e"]) (NdefX.nscope_by (by kernel_rfl)) (fun c' pm ctv us hl => match us, hl with | [_], _ => rfl) (fun f c' A outer s H E hrL => by
    have R0 := hrL.mono (Nat.zero_le _)
    exact (pe_lstN (pa_cons' (pe_errFs (pe_v 0) fx.ei fx.ef_lot) pa_nil') (an_cons an_nil)))
theorem lok_law_made_d10 (fx : Fx K mg) : LamOk P w K mg base 1 lr_law_made_d10 (spP K T 1 F_law_made_d10) :=
  lok_P (k := 0) (ps := ["e"]) (NdefX.nscope_by (by kernel_rfl)) (fun c' pm ctv us hl => match us, hl with | [_], _ => rfl) (fun f c' A outer s H E hrL => by
    have R0 := hrL.mono (Nat.zero_le _)
    exact (pe_lstN (pa_cons' (pe_errFs (pe_v 0) fx.ei fx.ef_question) (pa_cons' (pe_errFs (pe_v 0) fx.ei fx.ef_why) pa_nil')) (an_cons (an_cons an_nil))))
theorem n_law_made_d (fx : Fx K mg) (ez_NoPlace : Ez P w K mg base "NoPlace" ["thing"] [0] ["thing"] [0]) (ez_NoRoot : Ez P w K mg base "NoRoot" ["place"] [0] ["place"] [0]) (ez_NoTie : Ez P w K mg base "NoTie" ["other", "one"] [1, 0] ["other", "one"] [1, 0]) (ez_NotFull : Ez0 K mg "NotFull") (ez_NotNow : Ez P w K mg base "NotNow" ["why"] [0] ["why"] [0]) (ez_NotThere : Ez P w K mg base "NotThere" ["lot"] [0] ["lot"] [0]) (ez_NotWatched : Ez P w K mg base "NotWatched" ["question"] [0] ["question"] [0]) (ez_OtherPlaces : Ez0 K mg "OtherPlaces") (ez_SamePlace : Ez P w K mg base "SamePlace" ["thing"] [0] ["thing"] [0]) (ez_SavesNothing : Ez P w K mg base "SavesNothing" ["lot"] [0] ["lot"] [0]) (ez_WouldChange : Ez P w K mg base "WouldChange" ["why", "question"] [1, 0] ["why", "question"] [1, 0]) (TB : TabB base mg (He.cT K ("_law_made_d", none)).1 (He.cT K ("_law_made_d", none)).2) (hmT : ((He.cT K ("_law_made_d", none)).2, ("_law_made_d" : Str) ++ ".<locals>." ++ "<lambda>") ∈ T) (hu : ∀ p ∈ T, p.1 = (He.cT K ("_law_made_d", none)).2 → p.2 = ("_law_made_d" : Str) ++ ".<locals>." ++ "<lambda>") {fd : FuncData} (Fd : FunD K "_law_made_d" "_law_made_d" (defArgs st_law_made_d) (defBody st_law_made_d) (defScope st_law_made_d) [] [] (ga K "_law_made_d") fd) : FnOk P w K mg base (L2.CX P w) 4 (ga K "_law_made_d") fd ["x", "y", "z"] (spP K T 3 F_law_made_d) :=
  fnok_Pk ("_law_made_d", none) (k := 3) (n := 1) Fd sc_law_made_d rfl fun cdv A outer s H E hr hcd => by
    have R0 := hr.mono (Nat.zero_le _)
    have nd := sc_law_made_d.nd
    have tk : L2.Takes (cxOf (L2.CX P w) P w K mg base ["x", "y", "z", "found"] "_law_made_d" (defScope st_law_made_d) (ga K "_law_made_d") cdv A outer s H E) (fun c d _ H => E c d H) := takes_of rfl rfl rfl rfl
    have px : Passes (L2.CX P w) (cxOf (L2.CX P w) P w K mg base ["x", "y", "z", "found"] "_law_made_d" (defScope st_law_made_d) (ga K "_law_made_d") cdv A outer s H E) E := passes_call tk fun _ _ _ _ z => z
    have pown : PassesOwn (model P w) (cxOf (L2.CX P w) P w K mg base ["x", "y", "z", "found"] "_law_made_d" (defScope st_law_made_d) (ga K "_law_made_d") cdv A outer s H E).A (cxOf (L2.CX P w) P w K mg base ["x", "y", "z", "found"] "_law_made_d" (defScope st_law_made_d) (ga K "_law_made_d") cdv A outer s H E).env (cxOf (L2.CX P w) P w K mg base ["x", "y", "z", "found"] "_law_made_d" (defScope st_law_made_d) (ga K "_law_made_d") cdv A outer s H E).xe := passes_of rfl
    exact (pss_cons' (ps_asg' (ps_asg (pe_own (pe_lstN pa_nil' an_nil)) (pg_set (pg_name nd (i := 3) rfl (by first | exact Or.inl rfl | exact Or.inr rfl)) trivial)))
 (pss_cons' (ps_exp (ps_expr (pe_mut (pe_w PySem.F.plainAttrs_list PySem.F.slot_list_append PySem.F.type_list_append mt_append (pe_v 3) (pa_cons' (pe_tupN (pa_cons' (pe_ez ez_NoPlace hr (pa_cons' (pe_v 0) pa_nil')) (pa_cons' (pe_ezK ez_NoPlace hr (ka_cons' (pe_v 0) ka_nil')) (pa_cons' (pe_lamR "law_made_d0" lr_law_made_d0 TB hcd hmT hu (by kernel_rfl)) (pa_cons' (pe_lstN (pa_cons' (pe_v 0) pa_nil') (an_cons an_nil)) pa_nil')))) (an_cons (an_cons (an_cons (an_cons an_nil))))) pa_nil')) (fun _ _ _ _ _ r h => kLst_ty r h) mAppend_ok)))
 (pss_cons' (ps_exp (ps_expr (pe_mut (pe_w PySem.F.plainAttrs_list PySem.F.slot_list_append PySem.F.type_list_append mt_append (pe_v 3) (pa_cons' (pe_tupN (pa_cons' (pe_ez ez_NoRoot hr (pa_cons' (pe_v 0) pa_nil')) (pa_cons' (pe_ezK ez_NoRoot hr (ka_cons' (pe_v 0) ka_nil')) (pa_cons' (pe_lamR "law_made_d1" lr_law_made_d1 TB hcd hmT hu (by kernel_rfl)) (pa_cons' (pe_lstN (pa_cons' (pe_v 0) pa_nil') (an_cons an_nil)) pa_nil')))) (an_cons (an_cons (an_cons (an_cons an_nil))))) pa_nil')) (fun _ _ _ _ _ r h => kLst_ty r h) mAppend_ok)))
 (pss_cons' (ps_exp (ps_expr (pe_mut (pe_w PySem.F.plainAttrs_list PySem.F.slot_list_append PySem.F.type_list_append mt_append (pe_v 3) (pa_cons' (pe_tupN (pa_cons' (pe_ez ez_NoTie hr (pa_cons' (pe_v 0) (pa_cons' (pe_v 1) pa_nil'))) (pa_cons' (pe_ezK ez_NoTie hr (ka_cons' (pe_v 1) (ka_cons' (pe_v 0) ka_nil'))) (pa_cons' (pe_lamR "law_made_d2" lr_law_made_d2 TB hcd hmT hu (by kernel_rfl)) (pa_cons' (pe_lstN (pa_cons' (pe_v 0) (pa_cons' (pe_v 1) pa_nil')) (an_cons (an_cons an_nil))) pa_nil')))) (an_cons (an_cons (an_cons (an_cons an_nil))))) pa_nil')) (fun _ _ _ _ _ r h => kLst_ty r h) mAppend_ok)))
 (pss_cons' (ps_exp (ps_expr (pe_mut (pe_w PySem.F.plainAttrs_list PySem.F.slot_list_append PySem.F.type_list_append mt_append (pe_v 3) (pa_cons' (pe_tupN (pa_cons' (pe_ez0 ez_NotFull) (pa_cons' (pe_ez0 ez_NotFull) (pa_cons' (pe_lamR "law_made_d3" lr_law_made_d3 TB hcd hmT hu (by kernel_rfl)) (pa_cons' (pe_lstN pa_nil' an_nil) pa_nil')))) (an_cons (an_cons (an_cons (an_cons an_nil))))) pa_nil')) (fun _ _ _ _ _ r h => kLst_ty r h) mAppend_ok)))
 (pss_cons' (ps_exp (ps_expr (pe_mut (pe_w PySem.F.plainAttrs_list PySem.F.slot_list_append PySem.F.type_list_append mt_append (pe_v 3) (pa_cons' (pe_tupN (pa_cons' (pe_ez ez_NotNow hr (pa_cons' (pe_v 0) pa_nil')) (pa_cons' (pe_ezK ez_NotNow hr (ka_cons' (pe_v 0) ka_nil')) (pa_cons' (pe_lamR "law_made_d4" lr_law_made_d4 TB hcd hmT hu (by kernel_rfl)) (pa_cons' (pe_lstN (pa_cons' (pe_v 0) pa_nil') (an_cons an_nil)) pa_nil')))) (an_cons (an_cons (an_cons (an_cons an_nil))))) pa_nil')) (fun _ _ _ _ _ r h => kLst_ty r h) mAppend_ok)))
 (pss_cons' (ps_exp (ps_expr (pe_mut (pe_w PySem.F.plainAttrs_list PySem.F.slot_list_append PySem.F.type_list_append mt_append (pe_v 3) (pa_cons' (pe_tupN (pa_cons' (pe_ez ez_NotThere hr (pa_cons' (pe_v 0) pa_nil')) (pa_cons' (pe_ezK ez_NotThere hr (ka_cons' (pe_v 0) ka_nil')) (pa_cons' (pe_lamR "law_made_d5" lr_law_made_d5 TB hcd hmT hu (by kernel_rfl)) (pa_cons' (pe_lstN (pa_cons' (pe_v 0) pa_nil') (an_cons an_nil)) pa_nil')))) (an_cons (an_cons (an_cons (an_cons an_nil))))) pa_nil')) (fun _ _ _ _ _ r h => kLst_ty r h) mAppend_ok)))
 (pss_cons' (ps_exp (ps_expr (pe_mut (pe_w PySem.F.plainAttrs_list PySem.F.slot_list_append PySem.F.type_list_append mt_append (pe_v 3) (pa_cons' (pe_tupN (pa_cons' (pe_ez ez_NotWatched hr (pa_cons' (pe_v 0) pa_nil')) (pa_cons' (pe_ezK ez_NotWatched hr (ka_cons' (pe_v 0) ka_nil')) (pa_cons' (pe_lamR "law_made_d6" lr_law_made_d6 TB hcd hmT hu (by kernel_rfl)) (pa_cons' (pe_lstN (pa_cons' (pe_v 0) pa_nil') (an_cons an_nil)) pa_nil')))) (an_cons (an_cons (an_cons (an_cons an_nil))))) pa_nil')) (fun _ _ _ _ _ r h => kLst_ty r h) mAppend_ok)))
 (pss_cons' (ps_exp (ps_expr (pe_mut (pe_w PySem.F.plainAttrs_list PySem.F.slot_list_append PySem.F.type_list_append mt_append (pe_v 3) (pa_cons' (pe_tupN (pa_cons' (pe_ez0 ez_OtherPlaces) (pa_cons' (pe_ez0 ez_OtherPlaces) (pa_cons' (pe_lamR "law_made_d7" lr_law_made_d7 TB hcd hmT hu (by kernel_rfl)) (pa_cons' (pe_lstN pa_nil' an_nil) pa_nil')))) (an_cons (an_cons (an_cons (an_cons an_nil))))) pa_nil')) (fun _ _ _ _ _ r h => kLst_ty r h) mAppend_ok)))
 (pss_cons' (ps_exp (ps_expr (pe_mut (pe_w PySem.F.plainAttrs_list PySem.F.slot_list_append PySem.F.type_list_append mt_append (pe_v 3) (pa_cons' (pe_tupN (pa_cons' (pe_ez ez_SamePlace hr (pa_cons' (pe_v 0) pa_nil')) (pa_cons' (pe_ezK ez_SamePlace hr (ka_cons' (pe_v 0) ka_nil')) (pa_cons' (pe_lamR "law_made_d8" lr_law_made_d8 TB hcd hmT hu (by kernel_rfl)) (pa_cons' (pe_lstN (pa_cons' (pe_v 0) pa_nil') (an_cons an_nil)) pa_nil')))) (an_cons (an_cons (an_cons (an_cons an_nil))))) pa_nil')) (fun _ _ _ _ _ r h => kLst_ty r h) mAppend_ok)))
 (pss_cons' (ps_exp (ps_expr (pe_mut (pe_w PySem.F.plainAttrs_list PySem.F.slot_list_append PySem.F.type_list_append mt_append (pe_v 3) (pa_cons' (pe_tupN (pa_cons' (pe_ez ez_SavesNothing hr (pa_cons' (pe_v 0) pa_nil')) (pa_cons' (pe_ezK ez_SavesNothing hr (ka_cons' (pe_v 0) ka_nil')) (pa_cons' (pe_lamR "law_made_d9" lr_law_made_d9 TB hcd hmT hu (by kernel_rfl)) (pa_cons' (pe_lstN (pa_cons' (pe_v 0) pa_nil') (an_cons an_nil)) pa_nil')))) (an_cons (an_cons (an_cons (an_cons an_nil))))) pa_nil')) (fun _ _ _ _ _ r h => kLst_ty r h) mAppend_ok)))
 (pss_cons' (ps_exp (ps_expr (pe_mut (pe_w PySem.F.plainAttrs_list PySem.F.slot_list_append PySem.F.type_list_append mt_append (pe_v 3) (pa_cons' (pe_tupN (pa_cons' (pe_ez ez_WouldChange hr (pa_cons' (pe_v 0) (pa_cons' (pe_v 1) pa_nil'))) (pa_cons' (pe_ezK ez_WouldChange hr (ka_cons' (pe_v 1) (ka_cons' (pe_v 0) ka_nil'))) (pa_cons' (pe_lamR "law_made_d10" lr_law_made_d10 TB hcd hmT hu (by kernel_rfl)) (pa_cons' (pe_lstN (pa_cons' (pe_v 0) (pa_cons' (pe_v 1) pa_nil')) (an_cons (an_cons an_nil))) pa_nil')))) (an_cons (an_cons (an_cons (an_cons an_nil))))) pa_nil')) (fun _ _ _ _ _ r h => kLst_ty r h) mAppend_ok)))
 (pss_one' (ps_ret' (pe_vm 3)))))))))))))))
theorem d_law_made_d (fx : Fx K mg) (ez_NoPlace : Ez P w K mg base "NoPlace" ["thing"] [0] ["thing"] [0]) (ez_NoRoot : Ez P w K mg base "NoRoot" ["place"] [0] ["place"] [0]) (ez_NoTie : Ez P w K mg base "NoTie" ["other", "one"] [1, 0] ["other", "one"] [1, 0]) (ez_NotFull : Ez0 K mg "NotFull") (ez_NotNow : Ez P w K mg base "NotNow" ["why"] [0] ["why"] [0]) (ez_NotThere : Ez P w K mg base "NotThere" ["lot"] [0] ["lot"] [0]) (ez_NotWatched : Ez P w K mg base "NotWatched" ["question"] [0] ["question"] [0]) (ez_OtherPlaces : Ez0 K mg "OtherPlaces") (ez_SamePlace : Ez P w K mg base "SamePlace" ["thing"] [0] ["thing"] [0]) (ez_SavesNothing : Ez P w K mg base "SavesNothing" ["lot"] [0] ["lot"] [0]) (ez_WouldChange : Ez P w K mg base "WouldChange" ["why", "question"] [1, 0] ["why", "question"] [1, 0]) (TB : TabB base mg (He.cT K ("_law_made_d", none)).1 (He.cT K ("_law_made_d", none)).2) (hmT : ((He.cT K ("_law_made_d", none)).2, ("_law_made_d" : Str) ++ ".<locals>." ++ "<lambda>") ∈ T) (hu : ∀ p ∈ T, p.1 = (He.cT K ("_law_made_d", none)).2 → p.2 = ("_law_made_d" : Str) ++ ".<locals>." ++ "<lambda>") {fd : FuncData} (Fd : FunD K "_law_made_d" "_law_made_d" (defArgs st_law_made_d) (defBody st_law_made_d) (defScope st_law_made_d) [] [] (ga K "_law_made_d") fd) (hm : mg "_law_made_d" = some (.ref (ga K "_law_made_d"))) : Cal P w K mg base "_law_made_d" ["x", "y", "z"] (spP K T 3 F_law_made_d) 4 :=
  ⟨⟨fd, n_law_made_d fx ez_NoPlace ez_NoRoot ez_NoTie ez_NotFull ez_NotNow ez_NotThere ez_NotWatched ez_OtherPlaces ez_SamePlace ez_SavesNothing ez_WouldChange TB hmT hu Fd, Fd.bindsN (fun _ _ _ _ _ _ us hl => match us, hl with | [_, _, _], _ => rfl)⟩, hm, Fd.kp⟩
end
end K00
end
section
set_option Elab.async false
set_option linter.all false
set_option autoImplicit false
set_option maxRecDepth 100000
set_option maxHeartbeats 8000000
namespace K00
open PySem PySem.Spec PySem.W PyProof.Rows L2 IL LamX IS
section
variable {P : Program} {w : World} {K : PySem.W.Frag} {mg : Str → Option Value} {base : Heap} {T : Tb}
/-! ### _law_draw -/
abbrev st_law_draw : Stmt := (top 69)
theorem sc_law_draw : FnScope ["stream", "many", "cell", "digit", "mixed"] ["stream", "many"] (defScope st_law_draw) := ⟨rfl, rfl, rfl, by decide +kernel, rfl, by decide +kernel, by decide +kernel⟩
theorem n_law_draw (fx : Fx K mg) {fd : FuncData} (Fd : FunD K "_law_draw" "_law_draw" (defArgs st_law_draw) (defBody st_law_draw) (defScope st_law_draw) [] [] (ga K "_law_draw") fd) : FnOk P w K mg base (L2.CX P w) 1 (ga K "_law_draw") fd ["stream", "many"] (spM K T 1 F_law_draw) :=
  fnok_M (k := 0) (n := 3) Fd sc_law_draw rfl (by decide) fun cdv A outer s H E hr => by
    have R0 := hr.mono (Nat.zero_le _)
    have nd := sc_law_draw.nd
    have tk : L2.Takes (cxOf (L2.CX P w) P w K mg base ["stream", "many", "cell", "digit", "mixed"] "_law_draw" (defScope st_law_draw) (ga K "_law_draw") cdv A outer s H E) (fun c d _ H => E c d H) := takes_of rfl rfl rfl rfl
    have px : Passes (L2.CX P w) (cxOf (L2.CX P w) P w K mg base ["stream", "many", "cell", "digit", "mixed"] "_law_draw" (defScope st_law_draw) (ga K "_law_draw") cdv A outer s H E) E := passes_call tk fun _ _ _ _ z => z
    have pown : PassesOwn (model P w) (cxOf (L2.CX P w) P w K mg base ["stream", "many", "cell", "digit", "mixed"] "_law_draw" (defScope st_law_draw) (ga K "_law_draw") cdv A outer s H E).A (cxOf (L2.CX P w) P w K mg base ["stream", "many", "cell", "digit", "mixed"] "_law_draw" (defScope st_law_draw) (ga K "_law_draw") cdv A outer s H E).env (cxOf (L2.CX P w) P w K mg base ["stream", "many", "cell", "digit", "mixed"] "_law_draw" (defScope st_law_draw) (ga K "_law_draw") cdv A outer s H E).xe := passes_of rfl
    exact (pss_cons' (ps_putS R0 (pe_bin2 fAdd_ok (pe_sub' R0 (pe_v 0) pe_i (fun _ _ => rfl)) pe_i) (pe_v 0) pe_i)
 (pss_cons' (ps_while' (ps_while pown (PW.pt (pw_and' (pt_cmp2 (fEq_ok R0) (pe_sub' R0 (pe_v 0) pe_i (fun _ _ => rfl)) pe_i rfl) (pw_and1 (pt_cmp2 (fNe_ok R0) (pe_sub' R0 (pe_v 0) pe_i (fun _ _ => rfl)) (pe_lstN pa_nil' an_nil) rfl))))
 (pss_cons' (ps_asg' (ps_asg (pe_own (pe_frz (pe_mut (pe_w PySem.F.plainAttrs_list PySem.F.slot_list_pop PySem.F.type_list_pop mt_pops (pe_sub' R0 (pe_v 0) pe_i (fun _ _ => rfl)) (pa_cons' pe_i pa_nil')) (fun _ _ _ _ _ r h => kLst_ty r h) mPop_ok))) (pg_set (pg_name nd (i := 2) rfl (by first | exact Or.inl rfl | exact Or.inr rfl)) (by decide))))
 (pss_cons' (ps_putS R0 (pe_bin2 fMod_ok (pe_t1 fIntOf_ok fx.b_int PyProof.Rows.boot_int (pe_bin2 fAdd_ok (pe_bin2 fAdd_ok (pe_bin2 fMul_ok (pe_sub' R0 (pe_v 0) pe_i (fun _ _ => rfl)) pe_i) (pe_v 2)) pe_i)) pe_i) (pe_v 0) pe_i)
 (pss_one' (ps_putS R0 (pe_if' (pt_cmp2 (fGe_ok R0) (pe_v 2) (pe_bin2 fPow_ok pe_i pe_i) rfl) (pe_v 2) pe_i) (pe_v 0) pe_i))))))
 (pss_cons' (ps_if' (pt_cmp2 (fGt_ok R0) (pe_sub' R0 (pe_v 0) pe_i (fun _ _ => rfl)) pe_i rfl) (pss_cons' (ps_asg' (ps_asg (pe_own (pe_frz (pe_bin2 fMod_ok (pe_t1 fIntOf_ok fx.b_int PyProof.Rows.boot_int (pe_sub' R0 (pe_v 0) pe_i (fun _ _ => rfl))) (pe_v 1)))) (pg_set (pg_name nd (i := 3) rfl (by first | exact Or.inl rfl | exact Or.inr rfl)) (by decide))))
 (pss_cons' (ps_putS R0 (pe_bin2 fDiv_ok (pe_sub' R0 (pe_v 0) pe_i (fun _ _ => rfl)) (pe_v 1)) (pe_v 0) pe_i)
 (pss_one' (ps_ret' (pe_v 3))))) pss_nil')
 (pss_cons' (ps_asg' (ps_asg (pe_own (pe_frz (pe_bin2 fMod_ok (pe_t1 fIntOf_ok fx.b_int PyProof.Rows.boot_int (pe_bin2 fPow_ok (pe_bin2 fAdd_ok (pe_bin2 fAdd_ok (pe_sub' R0 (pe_v 0) pe_i (fun _ _ => rfl)) (pe_bin2 fMul_ok pe_i (pe_sub' R0 (pe_v 0) pe_i (fun _ _ => rfl)))) pe_i) pe_i)) pe_i))) (pg_set (pg_name nd (i := 4) rfl (by first | exact Or.inl rfl | exact Or.inr rfl)) (by decide))))
 (pss_one' (ps_ret' (pe_bin2 fMod_ok (pe_bin2 fMod_ok (pe_t1 fIntOf_ok fx.b_int PyProof.Rows.boot_int (pe_bin2 fPow_ok (pe_bin2 fAdd_ok (pe_bin2 fAdd_ok (pe_bin2 fMul_ok (pe_v 4) pe_i) (pe_bin2 fMul_ok pe_i (pe_sub' R0 (pe_v 0) pe_i (fun _ _ => rfl)))) pe_i) pe_i)) pe_i) (pe_v 1))))))))
theorem d_law_draw (fx : Fx K mg) {fd : FuncData} (Fd : FunD K "_law_draw" "_law_draw" (defArgs st_law_draw) (defBody st_law_draw) (defScope st_law_draw) [] [] (ga K "_law_draw") fd) (hm : mg "_law_draw" = some (.ref (ga K "_law_draw"))) : Cal P w K mg base "_law_draw" ["stream", "many"] (spM K T 1 F_law_draw) 1 :=
  ⟨⟨fd, n_law_draw fx Fd, Fd.bindsN (fun _ _ _ _ _ _ us hl => match us, hl with | [_, _], _ => rfl)⟩, hm, Fd.kp⟩
end
end K00
end
section
set_option Elab.async false
set_option linter.all false
set_option autoImplicit false
set_option maxRecDepth 100000
set_option maxHeartbeats 8000000
namespace K00
open PySem PySem.Spec PySem.W PyProof.Rows L2 IL LamX IS
section
variable {P : Program} {w : World} {K : PySem.W.Frag} {mg : Str → Option Value} {base : Heap} {T : Tb}
/-! ### _law_mixed -/
abbrev st_law_mixed : Stmt := (top 70)
theorem sc_law_mixed : FnScope ["stream", "some", "left", "k"] ["stream", "some"] (defScope st_law_mixed) := ⟨rfl, rfl, rfl, by decide +kernel, rfl, by decide +kernel, by decide +kernel⟩
theorem n_law_mixed (fx : Fx K mg) (c_law_draw : Cal P w K mg base "_law_draw" ["stream", "many"] (spM K T 1 F_law_draw) 1) {fd : FuncData} (Fd : FunD K "_law_mixed" "_law_mixed" (defArgs st_law_mixed) (defBody st_law_mixed) (defScope st_law_mixed) [] [] (ga K "_law_mixed") fd) : FnOk P w K mg base (L2.CX P w) 2 (ga K "_law_mixed") fd ["stream", "some"] (spM K T 1 F_law_mixed) :=
  fnok_M (k := 1) (n := 2) Fd sc_law_mixed rfl (by decide) fun cdv A outer s H E hr => by
    have R0 := hr.mono (Nat.zero_le _)
    have nd := sc_law_mixed.nd
    have tk : L2.Takes (cxOf (L2.CX P w) P w K mg base ["stream", "some", "left", "k"] "_law_mixed" (defScope st_law_mixed) (ga K "_law_mixed") cdv A outer s H E) (fun c d _ H => E c d H) := takes_of rfl rfl rfl rfl
    have px : Passes (L2.CX P w) (cxOf (L2.CX P w) P w K mg base ["stream", "some", "left", "k"] "_law_mixed" (defScope st_law_mixed) (ga K "_law_mixed") cdv A outer s H E) E := passes_call tk fun _ _ _ _ z => z
    have pown : PassesOwn (model P w) (cxOf (L2.CX P w) P w K mg base ["stream", "some", "left", "k"] "_law_mixed" (defScope st_law_mixed) (ga K "_law_mixed") cdv A outer s H E).A (cxOf (L2.CX P w) P w K mg base ["stream", "some", "left", "k"] "_law_mixed" (defScope st_law_mixed) (ga K "_law_mixed") cdv A outer s H E).env (cxOf (L2.CX P w) P w K mg base ["stream", "some", "left", "k"] "_law_mixed" (defScope st_law_mixed) (ga K "_law_mixed") cdv A outer s H E).xe := passes_of rfl
    exact (pss_cons' (ps_asg' (ps_asg (pe_own (pe_t1 (fList_ok rfl) fx.b_list PyProof.Rows.boot_list (pe_v 1))) (pg_set (pg_name nd (i := 2) rfl (by first | exact Or.inl rfl | exact Or.inr rfl)) (by decide))))
 (pss_one' (ps_ret' (pe_lc' (own := [("k", 3)]) rfl nd (pi_range1' rfl fx.b_range (pa_cons' (pe_b1 fLen_ok fx.b_len PySem.boot_len (pe_v 2)) pa_nil')) (blkOk_by (by kernel_rfl)) (fun _ _ _ _ _ => (pg_set (pg_name nd (i := 3) rfl (by first | exact Or.inl rfl | exact Or.inr rfl)) (by simp))) (fun _ _ _ _ _ => pts_nil') (fun _ _ _ _ _ => (pe_mut (pe_w PySem.F.plainAttrs_list PySem.F.slot_list_pop PySem.F.type_list_pop mt_pops (pe_v 2) (pa_cons' (pe_fM c_law_draw hr px_blk (pe_v 0) (pp_cons (pe_b1 fLen_ok fx.b_len PySem.boot_len (pe_v 2)) pp_nil) (pn_cons pn_nil)) pa_nil')) (fun _ _ _ _ _ r h => kLst_ty r h) mPop_ok))))))
theorem d_law_mixed (fx : Fx K mg) (c_law_draw : Cal P w K mg base "_law_draw" ["stream", "many"] (spM K T 1 F_law_draw) 1) {fd : FuncData} (Fd : FunD K "_law_mixed" "_law_mixed" (defArgs st_law_mixed) (defBody st_law_mixed) (defScope st_law_mixed) [] [] (ga K "_law_mixed") fd) (hm : mg "_law_mixed" = some (.ref (ga K "_law_mixed"))) : Cal P w K mg base "_law_mixed" ["stream", "some"] (spM K T 1 F_law_mixed) 2 :=
  ⟨⟨fd, n_law_mixed fx c_law_draw Fd, Fd.bindsN (fun _ _ _ _ _ _ us hl => match us, hl with | [_, _], _ => rfl)⟩, hm, Fd.kp⟩
end
end K00
end
section
set_option Elab.async false
set_option linter.all false
set_option autoImplicit false
set_option maxRecDepth 100000
set_option maxHeartbeats 8000000
namespace K00
open PySem PySem.Spec PySem.W PyProof.Rows L2 IL LamX IS
section
variable {P : Program} {w : World} {K : PySem.W.Frag} {mg : Str → Option Value} {base : Heap} {T : Tb}
/-! ### _law_made_a -/
abbrev st_law_made_a : Stmt := (top 71)
theorem sc_law_made_a : FnScope ["x", "y", "z", "found"] ["x", "y", "z"] (defScope st_law_made_a) := ⟨rfl, rfl, rfl, by decide +kernel, rfl, by decide +kernel, by decide +kernel⟩
theorem lok_law_made_a0 (fx : Fx K mg) : LamOk P w K mg base 1 lr_law_made_a0 (spP K T 1 F_law_made_a0) :=
  lok_P (k := 0) (ps := ["e"]) (NdefX.nscope_by (by kernel_rfl)) (fun c' pm ctv us hl => match us, hl with | [_], _ => rfl) (fun f c' A outer s H E hrL => by
    have R0 := hrL.mono (Nat.zero_le _)
    exact (pe_lstN (pa_cons' (pe_errFs (pe_v 0) fx.ei fx.ef_thing) pa_nil') (an_cons an_nil)))
theorem lok_law_made_a1 (fx : Fx K mg) : LamOk P w K mg base 1 lr_law_made_a1 (spP K T 1 F_law_made_a1) :=
  lok_P (k := 0) (ps := ["e"]) (NdefX.nscope_by (by kernel_rfl)) (fun c' pm ctv us hl => match us, hl with | [_], _ => rfl) (fun f c' A outer s H E hrL => by
    have R0 := hrL.mono (Nat.zero_le _)
    exact (pe_lstN (pa_cons' (pe_errFs (pe_v 0) fx.ei fx.ef_thing) pa_nil') (an_cons an_nil)))
theorem lok_law_made_a2 (fx : Fx K mg) : LamOk P w K mg base 1 lr_law_made_a2 (spP K T 1 F_law_made_a2) :=
  lok_P (k := 0) (ps := ["e"]) (NdefX.nscope_by (by kernel_rfl)) (fun c' pm ctv us hl => match us, hl with | [_], _ => rfl) (fun f c' A outer s H E hrL => by
    have R0 := hrL.mono (Nat.zero_le _)
    exact (pe_lstN (pa_cons' (pe_errFs (pe_v 0) fx.ei fx.ef_thing) pa_nil') (an_cons an_nil)))
theorem lok_law_made_a3 (fx : Fx K mg) : LamOk P w K mg base 1 lr_law_made_a3 (spP K T 1 F_law_made_a3) :=
  lok_P (k := 0) (ps := ["e"]) (NdefX.nscope_by (by kernel_rfl)) (fun c' pm ctv us hl => match us, hl with | [_], _ => rfl) (fun f c' A outer s H E hrL => by
    have R0 := hrL.mono (Nat.zero_le _)
    exact (pe_lstN (pa_cons' (pe_errFs (pe_v 0) fx.ei fx.ef_thing) pa_nil') (an_cons an_nil)))
theorem lok_law_made_a4 (fx : Fx K mg) : LamOk P w K mg base 1 lr_law_made_a4 (spP K T 1 F_law_made_a4) :=
  lok_P (k := 0) (ps := ["e"]) (NdefX.nscope_by (by kernel_rfl)) (fun c' pm ctv us hl => match us, hl with | [_], _ => rfl) (fun f c' A outer s H E hrL => by
    have R0 := hrL.mono (Nat.zero_le _)
    exact (pe_lstN (pa_cons' (pe_errFs (pe_v 0) fx.ei fx.ef_index) pa_nil') (an_cons an_nil)))
theorem lok_law_made_a5 (fx : Fx K mg) : LamOk P w K mg base 1 lr_law_made_a5 (spP K T 1 F_law_made_a5) :=
  lok_P (k := 0) (ps := ["e"]) (NdefX.nscope_by (by kernel_rfl)) (fun c' pm ctv us hl => match us, hl with | [_], _ => rfl) (fun f c' A outer s H E hrL => by
    have R0 := hrL.mono (Nat.zero_le _)
    exact (pe_lstN (pa_cons' (pe_errFs (pe_v 0) fx.ei fx.ef_thing) pa_nil') (an_cons an_nil)))
theorem lok_law_made_a6 (fx : Fx K mg) : LamOk P w K mg base 1 lr_law_made_a6 (spP K T 1 F_law_made_a6) :=
  lok_P (k := 0) (ps := ["e"]) (NdefX.nscope_by (by kernel_rfl)) (fun c' pm ctv us hl => match us, hl with | [_], _ => rfl) (fun f c' A outer s H E hrL => by
    have R0 := hrL.mono (Nat.zero_le _)
    exact (pe_lstN (pa_cons' (pe_errFs (pe_v 0) fx.ei fx.ef_thing) pa_nil') (an_cons an_nil)))
theorem lok_law_made_a7 (fx : Fx K mg) : LamOk P w K mg base 1 lr_law_made_a7 (spP K T 1 F_law_made_a7) :=
  lok_P (k := 0) (ps := ["e"]) (NdefX.nscope_by (by kernel_rfl)) (fun c' pm ctv us hl => match us, hl with | [_], _ => rfl) (fun f c' A outer s H E hrL => by
    have R0 := hrL.mono (Nat.zero_le _)
    exact (pe_lstN (pa_cons' (pe_errFs (pe_v 0) fx.ei fx.ef_thing) pa_nil') (an_cons an_nil)))
theorem lok_law_made_a8 (fx : Fx K mg) : LamOk P w K mg base 1 lr_law_made_a8 (spP K T 1 F_law_made_a8) :=
  lok_P (k := 0) (ps := ["e"]) (NdefX.nscope_by (by kernel_rfl)) (fun c' pm ctv us hl => match us, hl with | [_], _ => rfl) (fun f c' A outer s H E hrL => by
    have R0 := hrL.mono (Nat.zero_le _)
    exact (pe_lstN (pa_cons' (pe_errFs (pe_v 0) fx.ei fx.ef_thing) pa_nil') (an_cons an_nil)))
theorem lok_law_made_a9 (fx : Fx K mg) : LamOk P w K mg base 1 lr_law_made_a9 (spP K T 1 F_law_made_a9) :=
  lok_P (k := 0) (ps := ["e"]) (NdefX.nscope_by (by kernel_rfl)) (fun c' pm ctv us hl => match us, hl with | [_], _ => rfl) (fun f c' A outer s H E hrL => by
    have R0 := hrL.mono (Nat.zero_le _)
    exact (pe_lstN (pa_cons' (pe_errFs (pe_v 0) fx.ei fx.ef_thing) pa_nil') (an_cons an_nil)))
theorem lok_law_made_a10 (fx : Fx K mg) : LamOk P w K mg base 1 lr_law_made_a10 (spP K T 1 F_law_made_a10) :=
  lok_P (k := 0) (ps := ["e"]) (NdefX.nscope_by (by kernel_rfl)) (fun c' pm ctv us hl => match us, hl with | [_], _ => rfl) (fun f c' A outer s H E hrL => by
    have R0 := hrL.mono (Nat.zero_le _)
    exact (pe_lstN (pa_cons' (pe_errFs (pe_v 0) fx.ei fx.ef_thing) pa_nil') (an_cons an_nil)))
theorem lok_law_made_a11 (fx : Fx K mg) : LamOk P w K mg base 1 lr_law_made_a11 (spP K T 1 F_law_made_a11) :=
  lok_P (k := 0) (ps := ["e"]) (NdefX.nscope_by (by kernel_rfl)) (fun c' pm ctv us hl => match us, hl with | [_], _ => rfl) (fun f c' A outer s H E hrL => by
    have R0 := hrL.mono (Nat.zero_le _)
    exact (pe_lstN (pa_cons' (pe_errFs (pe_v 0) fx.ei fx.ef_thing) pa_nil') (an_cons an_nil)))
theorem lok_law_made_a12 (fx : Fx K mg) : LamOk P w K mg base 1 lr_law_made_a12 (spP K T 1 F_law_made_a12) :=
  lok_P (k := 0) (ps := ["e"]) (NdefX.nscope_by (by kernel_rfl)) (fun c' pm ctv us hl => match us, hl with | [_], _ => rfl) (fun f c' A outer s H E hrL => by
    have R0 := hrL.mono (Nat.zero_le _)
    exact (pe_lstN (pa_cons' (pe_errFs (pe_v 0) fx.ei fx.ef_fault) pa_nil') (an_cons an_nil)))
theorem lok_law_made_a13 (fx : Fx K mg) : LamOk P w K mg base 1 lr_law_made_a13 (spP K T 1 F_law_made_a13) :=
  lok_P (k := 0) (ps := ["e"]) (NdefX.nscope_by (by kernel_rfl)) (fun c' pm ctv us hl => match us, hl with | [_], _ => rfl) (fun f c' A outer s H E hrL => by
    have R0 := hrL.mono (Nat.zero_le _)
    exact (pe_lstN (pa_cons' (pe_errFs (pe_v 0) fx.ei fx.ef_index) pa_nil') (an_cons an_nil)))
theorem lok_law_made_a14 (fx : Fx K mg) : LamOk P w K mg base 1 lr_law_made_a14 (spP K T 1 F_law_made_a14) :=
  lok_P (k := 0) (ps := ["e"]) (NdefX.nscope_by (by kernel_rfl)) (fun c' pm ctv us hl => match us, hl with | [_], _ => rfl) (fun f c' A outer s H E hrL => by
    have R0 := hrL.mono (Nat.zero_le _)
    exact (pe_lstN (pa_cons' (pe_errFs (pe_v 0) fx.ei fx.ef_index) pa_nil') (an_cons an_nil)))
theorem lok_law_made_a15 (fx : Fx K mg) : LamOk P w K mg base 1 lr_law_made_a15 (spP K T 1 F_law_made_a15) :=
  lok_P (k := 0) (ps := ["e"]) (NdefX.nscope_by (by kernel_rfl)) (fun c' pm ctv us hl => match us, hl with | [_], _ => rfl) (fun f c' A outer s H E hrL => by
    have R0 := hrL.mono (Nat.zero_le _)
    exact (pe_lstN (pa_cons' (pe_errFs (pe_v 0) fx.ei fx.ef_thing) pa_nil') (an_cons an_nil)))
theorem lok_law_made_a16 (fx : Fx K mg) : LamOk P w K mg base 1 lr_law_made_a16 (spP K T 1 F_law_made_a16) :=
  lok_P (k := 0) (ps := ["e"]) (NdefX.nscope_by (by kernel_rfl)) (fun c' pm ctv us hl => match us, hl with | [_], _ => rfl) (fun f c' A outer s H E hrL => by
    have R0 := hrL.mono (Nat.zero_le _)
    exact (pe_lstN (pa_cons' (pe_errFs (pe_v 0) fx.ei fx.ef_thing) pa_nil') (an_cons an_nil)))
theorem lok_law_made_a17 (fx : Fx K mg) : LamOk P w K mg base 1 lr_law_made_a17 (spP K T 1 F_law_made_a17) :=
  lok_P (k := 0) (ps := ["e"]) (NdefX.nscope_by (by kernel_rfl)) (fun c' pm ctv us hl => match us, hl with | [_], _ => rfl) (fun f c' A outer s H E hrL => by
    have R0 := hrL.mono (Nat.zero_le _)
    exact (pe_lstN (pa_cons' (pe_errFs (pe_v 0) fx.ei fx.ef_thing) pa_nil') (an_cons an_nil)))
theorem n_law_made_a (fx : Fx K mg) (ez_BadDeed : Ez P w K mg base "BadDeed" ["thing"] [0] ["thing"] [0]) (ez_BadForest : Ez P w K mg base "BadForest" ["thing"] [0] ["thing"] [0]) (ez_BadForm : Ez P w K mg base "BadForm" ["thing"] [0] ["thing"] [0]) (ez_BadFrame : Ez P w K mg base "BadFrame" ["thing"] [0] ["thing"] [0]) (ez_BadFrames : Ez P w K mg base "BadFrames" ["index"] [0] ["index"] [0]) (ez_BadGauge : Ez P w K mg base "BadGauge" ["thing"] [0] ["thing"] [0]) (ez_BadGrove : Ez P w K mg base "BadGrove" ["thing"] [0] ["thing"] [0]) (ez_BadHeight : Ez P w K mg base "BadHeight" ["thing"] [0] ["thing"] [0]) (ez_BadHigh : Ez P w K mg base "BadHigh" ["thing"] [0] ["thing"] [0]) (ez_BadHollow : Ez P w K mg base "BadHollow" ["thing"] [0] ["thing"] [0]) (ez_BadKind : Ez P w K mg base "BadKind" ["thing"] [0] ["thing"] [0]) (ez_BadLevels : Ez P w K mg base "BadLevels" ["thing"] [0] ["thing"] [0]) (ez_BadLosses : Ez P w K mg base "BadLosses" ["fault"] [0] ["fault"] [0]) (ez_BadLot : Ez P w K mg base "BadLot" ["index"] [0] ["index"] [0]) (ez_BadLots : Ez P w K mg base "BadLots" ["index"] [0] ["index"] [0]) (ez_BadLow : Ez P w K mg base "BadLow" ["thing"] [0] ["thing"] [0]) (ez_BadMany : Ez P w K mg base "BadMany" ["thing"] [0] ["thing"] [0]) (ez_BadMost : Ez P w K mg base "BadMost" ["thing"] [0] ["thing"] [0]) (TB : TabB base mg (He.cT K ("_law_made_a", none)).1 (He.cT K ("_law_made_a", none)).2) (hmT : ((He.cT K ("_law_made_a", none)).2, ("_law_made_a" : Str) ++ ".<locals>." ++ "<lambda>") ∈ T) (hu : ∀ p ∈ T, p.1 = (He.cT K ("_law_made_a", none)).2 → p.2 = ("_law_made_a" : Str) ++ ".<locals>." ++ "<lambda>") {fd : FuncData} (Fd : FunD K "_law_made_a" "_law_made_a" (defArgs st_law_made_a) (defBody st_law_made_a) (defScope st_law_made_a) [] [] (ga K "_law_made_a") fd) : FnOk P w K mg base (L2.CX P w) 4 (ga K "_law_made_a") fd ["x", "y", "z"] (spP K T 3 F_law_made_a) :=
  fnok_Pk ("_law_made_a", none) (k := 3) (n := 1) Fd sc_law_made_a rfl fun cdv A outer s H E hr hcd => by
    have R0 := hr.mono (Nat.zero_le _)
    have nd := sc_law_made_a.nd
    have tk : L2.Takes (cxOf (L2.CX P w) P w K mg base ["x", "y", "z", "found"] "_law_made_a" (defScope st_law_made_a) (ga K "_law_made_a") cdv A outer s H E) (fun c d _ H => E c d H) := takes_of rfl rfl rfl rfl
    have px : Passes (L2.CX P w) (cxOf (L2.CX P w) P w K mg base ["x", "y", "z", "found"] "_law_made_a" (defScope st_law_made_a) (ga K "_law_made_a") cdv A outer s H E) E := passes_call tk fun _ _ _ _ z => z
    have pown : PassesOwn (model P w) (cxOf (L2.CX P w) P w K mg base ["x", "y", "z", "found"] "_law_made_a" (defScope st_law_made_a) (ga K "_law_made_a") cdv A outer s H E).A (cxOf (L2.CX P w) P w K mg base ["x", "y", "z", "found"] "_law_made_a" (defScope st_law_made_a) (ga K "_law_made_a") cdv A outer s H E).env (cxOf (L2.CX P w) P w K mg base ["x", "y", "z", "found"] "_law_made_a" (defScope st_law_made_a) (ga K "_law_made_a") cdv A outer s H E).xe := passes_of rfl
    exact (pss_cons' (ps_asg' (ps_asg (pe_own (pe_lstN pa_nil' an_nil)) (pg_set (pg_name nd (i := 3) rfl (by first | exact Or.inl rfl | exact Or.inr rfl)) trivial)))
 (pss_cons' (ps_exp (ps_expr (pe_mut (pe_w PySem.F.plainAttrs_list PySem.F.slot_list_append PySem.F.type_list_append mt_append (pe_v 3) (pa_cons' (pe_tupN (pa_cons' (pe_ez ez_BadDeed hr (pa_cons' (pe_v 0) pa_nil')) (pa_cons' (pe_ezK ez_BadDeed hr (ka_cons' (pe_v 0) ka_nil')) (pa_cons' (pe_lamR "law_made_a0" lr_law_made_a0 TB hcd hmT hu (by kernel_rfl)) (pa_cons' (pe_lstN (pa_cons' (pe_v 0) pa_nil') (an_cons an_nil)) pa_nil')))) (an_cons (an_cons (an_cons (an_cons an_nil))))) pa_nil')) (fun _ _ _ _ _ r h => kLst_ty r h) mAppend_ok)))
 (pss_cons' (ps_exp (ps_expr (pe_mut (pe_w PySem.F.plainAttrs_list PySem.F.slot_list_append PySem.F.type_list_append mt_append (pe_v 3) (pa_cons' (pe_tupN (pa_cons' (pe_ez ez_BadForest hr (pa_cons' (pe_v 0) pa_nil')) (pa_cons' (pe_ezK ez_BadForest hr (ka_cons' (pe_v 0) ka_nil')) (pa_cons' (pe_lamR "law_made_a1" lr_law_made_a1 TB hcd hmT hu (by kernel_rfl)) (pa_cons' (pe_lstN (pa_cons' (pe_v 0) pa_nil') (an_cons an_nil)) pa_nil')))) (an_cons (an_cons (an_cons (an_cons an_nil))))) pa_nil')) (fun _ _ _ _ _ r h => kLst_ty r h) mAppend_ok)))
 (pss_cons' (ps_exp (ps_expr (pe_mut (pe_w PySem.F.plainAttrs_list PySem.F.slot_list_append PySem.F.type_list_append mt_append (pe_v 3) (pa_cons' (pe_tupN (pa_cons' (pe_ez ez_BadForm hr (pa_cons' (pe_v 0) pa_nil')) (pa_cons' (pe_ezK ez_BadForm hr (ka_cons' (pe_v 0) ka_nil')) (pa_cons' (pe_lamR "law_made_a2" lr_law_made_a2 TB hcd hmT hu (by kernel_rfl)) (pa_cons' (pe_lstN (pa_cons' (pe_v 0) pa_nil') (an_cons an_nil)) pa_nil')))) (an_cons (an_cons (an_cons (an_cons an_nil))))) pa_nil')) (fun _ _ _ _ _ r h => kLst_ty r h) mAppend_ok)))
 (pss_cons' (ps_exp (ps_expr (pe_mut (pe_w PySem.F.plainAttrs_list PySem.F.slot_list_append PySem.F.type_list_append mt_append (pe_v 3) (pa_cons' (pe_tupN (pa_cons' (pe_ez ez_BadFrame hr (pa_cons' (pe_v 0) pa_nil')) (pa_cons' (pe_ezK ez_BadFrame hr (ka_cons' (pe_v 0) ka_nil')) (pa_cons' (pe_lamR "law_made_a3" lr_law_made_a3 TB hcd hmT hu (by kernel_rfl)) (pa_cons' (pe_lstN (pa_cons' (pe_v 0) pa_nil') (an_cons an_nil)) pa_nil')))) (an_cons (an_cons (an_cons (an_cons an_nil))))) pa_nil')) (fun _ _ _ _ _ r h => kLst_ty r h) mAppend_ok)))
 (pss_cons' (ps_exp (ps_expr (pe_mut (pe_w PySem.F.plainAttrs_list PySem.F.slot_list_append PySem.F.type_list_append mt_append (pe_v 3) (pa_cons' (pe_tupN (pa_cons' (pe_ez ez_BadFrames hr (pa_cons' (pe_v 0) pa_nil')) (pa_cons' (pe_ezK ez_BadFrames hr (ka_cons' (pe_v 0) ka_nil')) (pa_cons' (pe_lamR "law_made_a4" lr_law_made_a4 TB hcd hmT hu (by kernel_rfl)) (pa_cons' (pe_lstN (pa_cons' (pe_v 0) pa_nil') (an_cons an_nil)) pa_nil')))) (an_cons (an_cons (an_cons (an_cons an_nil))))) pa_nil')) (fun _ _ _ _ _ r h => kLst_ty r h) mAppend_ok)))
 (pss_cons' (ps_exp (ps_expr (pe_mut (pe_w PySem.F.plainAttrs_list PySem.F.slot_list_append PySem.F.type_list_append mt_append (pe_v 3) (pa_cons' (pe_tupN (pa_cons' (pe_ez ez_BadGauge hr (pa_cons' (pe_v 0) pa_nil')) (pa_cons' (pe_ezK ez_BadGauge hr (ka_cons' (pe_v 0) ka_nil')) (pa_cons' (pe_lamR "law_made_a5" lr_law_made_a5 TB hcd hmT hu (by kernel_rfl)) (pa_cons' (pe_lstN (pa_cons' (pe_v 0) pa_nil') (an_cons an_nil)) pa_nil')))) (an_cons (an_cons (an_cons (an_cons an_nil))))) pa_nil')) (fun _ _ _ _ _ r h => kLst_ty r h) mAppend_ok)))
 (pss_cons' (ps_exp (ps_expr (pe_mut (pe_w PySem.F.plainAttrs_list PySem.F.slot_list_append PySem.F.type_list_append mt_append (pe_v 3) (pa_cons' (pe_tupN (pa_cons' (pe_ez ez_BadGrove hr (pa_cons' (pe_v 0) pa_nil')) (pa_cons' (pe_ezK ez_BadGrove hr (ka_cons' (pe_v 0) ka_nil')) (pa_cons' (pe_lamR "law_made_a6" lr_law_made_a6 TB hcd hmT hu (by kernel_rfl)) (pa_cons' (pe_lstN (pa_cons' (pe_v 0) pa_nil') (an_cons an_nil)) pa_nil')))) (an_cons (an_cons (an_cons (an_cons an_nil))))) pa_nil')) (fun _ _ _ _ _ r h => kLst_ty r h) mAppend_ok)))
 (pss_cons' (ps_exp (ps_expr (pe_mut (pe_w PySem.F.plainAttrs_list PySem.F.slot_list_append PySem.F.type_list_append mt_append (pe_v 3) (pa_cons' (pe_tupN (pa_cons' (pe_ez ez_BadHeight hr (pa_cons' (pe_v 0) pa_nil')) (pa_cons' (pe_ezK ez_BadHeight hr (ka_cons' (pe_v 0) ka_nil')) (pa_cons' (pe_lamR "law_made_a7" lr_law_made_a7 TB hcd hmT hu (by kernel_rfl)) (pa_cons' (pe_lstN (pa_cons' (pe_v 0) pa_nil') (an_cons an_nil)) pa_nil')))) (an_cons (an_cons (an_cons (an_cons an_nil))))) pa_nil')) (fun _ _ _ _ _ r h => kLst_ty r h) mAppend_ok)))
 (pss_cons' (ps_exp (ps_expr (pe_mut (pe_w PySem.F.plainAttrs_list PySem.F.slot_list_append PySem.F.type_list_append mt_append (pe_v 3) (pa_cons' (pe_tupN (pa_cons' (pe_ez ez_BadHigh hr (pa_cons' (pe_v 0) pa_nil')) (pa_cons' (pe_ezK ez_BadHigh hr (ka_cons' (pe_v 0) ka_nil')) (pa_cons' (pe_lamR "law_made_a8" lr_law_made_a8 TB hcd hmT hu (by kernel_rfl)) (pa_cons' (pe_lstN (pa_cons' (pe_v 0) pa_nil') (an_cons an_nil)) pa_nil')))) (an_cons (an_cons (an_cons (an_cons an_nil))))) pa_nil')) (fun _ _ _ _ _ r h => kLst_ty r h) mAppend_ok)))
 (pss_cons' (ps_exp (ps_expr (pe_mut (pe_w PySem.F.plainAttrs_list PySem.F.slot_list_append PySem.F.type_list_append mt_append (pe_v 3) (pa_cons' (pe_tupN (pa_cons' (pe_ez ez_BadHollow hr (pa_cons' (pe_v 0) pa_nil')) (pa_cons' (pe_ezK ez_BadHollow hr (ka_cons' (pe_v 0) ka_nil')) (pa_cons' (pe_lamR "law_made_a9" lr_law_made_a9 TB hcd hmT hu (by kernel_rfl)) (pa_cons' (pe_lstN (pa_cons' (pe_v 0) pa_nil') (an_cons an_nil)) pa_nil')))) (an_cons (an_cons (an_cons (an_cons an_nil))))) pa_nil')) (fun _ _ _ _ _ r h => kLst_ty r h) mAppend_ok)))
 (pss_cons' (ps_exp (ps_expr (pe_mut (pe_w PySem.F.plainAttrs_list PySem.F.slot_list_append PySem.F.type_list_append mt_append (pe_v 3) (pa_cons' (pe_tupN (pa_cons' (pe_ez ez_BadKind hr (pa_cons' (pe_v 0) pa_nil')) (pa_cons' (pe_ezK ez_BadKind hr (ka_cons' (pe_v 0) ka_nil')) (pa_cons' (pe_lamR "law_made_a10" lr_law_made_a10 TB hcd hmT hu (by kernel_rfl)) (pa_cons' (pe_lstN (pa_cons' (pe_v 0) pa_nil') (an_cons an_nil)) pa_nil')))) (an_cons (an_cons (an_cons (an_cons an_nil))))) pa_nil')) (fun _ _ _ _ _ r h => kLst_ty r h) mAppend_ok)))
 (pss_cons' (ps_exp (ps_expr (pe_mut (pe_w PySem.F.plainAttrs_list PySem.F.slot_list_append PySem.F.type_list_append mt_append (pe_v 3) (pa_cons' (pe_tupN (pa_cons' (pe_ez ez_BadLevels hr (pa_cons' (pe_v 0) pa_nil')) (pa_cons' (pe_ezK ez_BadLevels hr (ka_cons' (pe_v 0) ka_nil')) (pa_cons' (pe_lamR "law_made_a11" lr_law_made_a11 TB hcd hmT hu (by kernel_rfl)) (pa_cons' (pe_lstN (pa_cons' (pe_v 0) pa_nil') (an_cons an_nil)) pa_nil')))) (an_cons (an_cons (an_cons (an_cons an_nil))))) pa_nil')) (fun _ _ _ _ _ r h => kLst_ty r h) mAppend_ok)))
 (pss_cons' (ps_exp (ps_expr (pe_mut (pe_w PySem.F.plainAttrs_list PySem.F.slot_list_append PySem.F.type_list_append mt_append (pe_v 3) (pa_cons' (pe_tupN (pa_cons' (pe_ez ez_BadLosses hr (pa_cons' (pe_v 0) pa_nil')) (pa_cons' (pe_ezK ez_BadLosses hr (ka_cons' (pe_v 0) ka_nil')) (pa_cons' (pe_lamR "law_made_a12" lr_law_made_a12 TB hcd hmT hu (by kernel_rfl)) (pa_cons' (pe_lstN (pa_cons' (pe_v 0) pa_nil') (an_cons an_nil)) pa_nil')))) (an_cons (an_cons (an_cons (an_cons an_nil))))) pa_nil')) (fun _ _ _ _ _ r h => kLst_ty r h) mAppend_ok)))
 (pss_cons' (ps_exp (ps_expr (pe_mut (pe_w PySem.F.plainAttrs_list PySem.F.slot_list_append PySem.F.type_list_append mt_append (pe_v 3) (pa_cons' (pe_tupN (pa_cons' (pe_ez ez_BadLot hr (pa_cons' (pe_v 0) pa_nil')) (pa_cons' (pe_ezK ez_BadLot hr (ka_cons' (pe_v 0) ka_nil')) (pa_cons' (pe_lamR "law_made_a13" lr_law_made_a13 TB hcd hmT hu (by kernel_rfl)) (pa_cons' (pe_lstN (pa_cons' (pe_v 0) pa_nil') (an_cons an_nil)) pa_nil')))) (an_cons (an_cons (an_cons (an_cons an_nil))))) pa_nil')) (fun _ _ _ _ _ r h => kLst_ty r h) mAppend_ok)))
 (pss_cons' (ps_exp (ps_expr (pe_mut (pe_w PySem.F.plainAttrs_list PySem.F.slot_list_append PySem.F.type_list_append mt_append (pe_v 3) (pa_cons' (pe_tupN (pa_cons' (pe_ez ez_BadLots hr (pa_cons' (pe_v 0) pa_nil')) (pa_cons' (pe_ezK ez_BadLots hr (ka_cons' (pe_v 0) ka_nil')) (pa_cons' (pe_lamR "law_made_a14" lr_law_made_a14 TB hcd hmT hu (by kernel_rfl)) (pa_cons' (pe_lstN (pa_cons' (pe_v 0) pa_nil') (an_cons an_nil)) pa_nil')))) (an_cons (an_cons (an_cons (an_cons an_nil))))) pa_nil')) (fun _ _ _ _ _ r h => kLst_ty r h) mAppend_ok)))
 (pss_cons' (ps_exp (ps_expr (pe_mut (pe_w PySem.F.plainAttrs_list PySem.F.slot_list_append PySem.F.type_list_append mt_append (pe_v 3) (pa_cons' (pe_tupN (pa_cons' (pe_ez ez_BadLow hr (pa_cons' (pe_v 0) pa_nil')) (pa_cons' (pe_ezK ez_BadLow hr (ka_cons' (pe_v 0) ka_nil')) (pa_cons' (pe_lamR "law_made_a15" lr_law_made_a15 TB hcd hmT hu (by kernel_rfl)) (pa_cons' (pe_lstN (pa_cons' (pe_v 0) pa_nil') (an_cons an_nil)) pa_nil')))) (an_cons (an_cons (an_cons (an_cons an_nil))))) pa_nil')) (fun _ _ _ _ _ r h => kLst_ty r h) mAppend_ok)))
 (pss_cons' (ps_exp (ps_expr (pe_mut (pe_w PySem.F.plainAttrs_list PySem.F.slot_list_append PySem.F.type_list_append mt_append (pe_v 3) (pa_cons' (pe_tupN (pa_cons' (pe_ez ez_BadMany hr (pa_cons' (pe_v 0) pa_nil')) (pa_cons' (pe_ezK ez_BadMany hr (ka_cons' (pe_v 0) ka_nil')) (pa_cons' (pe_lamR "law_made_a16" lr_law_made_a16 TB hcd hmT hu (by kernel_rfl)) (pa_cons' (pe_lstN (pa_cons' (pe_v 0) pa_nil') (an_cons an_nil)) pa_nil')))) (an_cons (an_cons (an_cons (an_cons an_nil))))) pa_nil')) (fun _ _ _ _ _ r h => kLst_ty r h) mAppend_ok)))
 (pss_cons' (ps_exp (ps_expr (pe_mut (pe_w PySem.F.plainAttrs_list PySem.F.slot_list_append PySem.F.type_list_append mt_append (pe_v 3) (pa_cons' (pe_tupN (pa_cons' (pe_ez ez_BadMost hr (pa_cons' (pe_v 0) pa_nil')) (pa_cons' (pe_ezK ez_BadMost hr (ka_cons' (pe_v 0) ka_nil')) (pa_cons' (pe_lamR "law_made_a17" lr_law_made_a17 TB hcd hmT hu (by kernel_rfl)) (pa_cons' (pe_lstN (pa_cons' (pe_v 0) pa_nil') (an_cons an_nil)) pa_nil')))) (an_cons (an_cons (an_cons (an_cons an_nil))))) pa_nil')) (fun _ _ _ _ _ r h => kLst_ty r h) mAppend_ok)))
 (pss_one' (ps_ret' (pe_vm 3))))))))))))))))))))))
theorem d_law_made_a (fx : Fx K mg) (ez_BadDeed : Ez P w K mg base "BadDeed" ["thing"] [0] ["thing"] [0]) (ez_BadForest : Ez P w K mg base "BadForest" ["thing"] [0] ["thing"] [0]) (ez_BadForm : Ez P w K mg base "BadForm" ["thing"] [0] ["thing"] [0]) (ez_BadFrame : Ez P w K mg base "BadFrame" ["thing"] [0] ["thing"] [0]) (ez_BadFrames : Ez P w K mg base "BadFrames" ["index"] [0] ["index"] [0]) (ez_BadGauge : Ez P w K mg base "BadGauge" ["thing"] [0] ["thing"] [0]) (ez_BadGrove : Ez P w K mg base "BadGrove" ["thing"] [0] ["thing"] [0]) (ez_BadHeight : Ez P w K mg base "BadHeight" ["thing"] [0] ["thing"] [0]) (ez_BadHigh : Ez P w K mg base "BadHigh" ["thing"] [0] ["thing"] [0]) (ez_BadHollow : Ez P w K mg base "BadHollow" ["thing"] [0] ["thing"] [0]) (ez_BadKind : Ez P w K mg base "BadKind" ["thing"] [0] ["thing"] [0]) (ez_BadLevels : Ez P w K mg base "BadLevels" ["thing"] [0] ["thing"] [0]) (ez_BadLosses : Ez P w K mg base "BadLosses" ["fault"] [0] ["fault"] [0]) (ez_BadLot : Ez P w K mg base "BadLot" ["index"] [0] ["index"] [0]) (ez_BadLots : Ez P w K mg base "BadLots" ["index"] [0] ["index"] [0]) (ez_BadLow : Ez P w K mg base "BadLow" ["thing"] [0] ["thing"] [0]) (ez_BadMany : Ez P w K mg base "BadMany" ["thing"] [0] ["thing"] [0]) (ez_BadMost : Ez P w K mg base "BadMost" ["thing"] [0] ["thing"] [0]) (TB : TabB base mg (He.cT K ("_law_made_a", none)).1 (He.cT K ("_law_made_a", none)).2) (hmT : ((He.cT K ("_law_made_a", none)).2, ("_law_made_a" : Str) ++ ".<locals>." ++ "<lambda>") ∈ T) (hu : ∀ p ∈ T, p.1 = (He.cT K ("_law_made_a", none)).2 → p.2 = ("_law_made_a" : Str) ++ ".<locals>." ++ "<lambda>") {fd : FuncData} (Fd : FunD K "_law_made_a" "_law_made_a" (defArgs st_law_made_a) (defBody st_law_made_a) (defScope st_law_made_a) [] [] (ga K "_law_made_a") fd) (hm : mg "_law_made_a" = some (.ref (ga K "_law_made_a"))) : Cal P w K mg base "_law_made_a" ["x", "y", "z"] (spP K T 3 F_law_made_a) 4 :=
  ⟨⟨fd, n_law_made_a fx ez_BadDeed ez_BadForest ez_BadForm ez_BadFrame ez_BadFrames ez_BadGauge ez_BadGrove ez_BadHeight ez_BadHigh ez_BadHollow ez_BadKind ez_BadLevels ez_BadLosses ez_BadLot ez_BadLots ez_BadLow ez_BadMany ez_BadMost TB hmT hu Fd, Fd.bindsN (fun _ _ _ _ _ _ us hl => match us, hl with | [_, _, _], _ => rfl)⟩, hm, Fd.kp⟩
end
end K00
end
section
set_option Elab.async false
set_option linter.all false
set_option autoImplicit false
set_option maxRecDepth 100000
set_option maxHeartbeats 8000000
namespace K00
open PySem PySem.Spec PySem.W PyProof.Rows L2 IL LamX IS
section
variable {P : Program} {w : World} {K : PySem.W.Frag} {mg : Str → Option Value} {base : Heap} {T : Tb}
/-! ### _law_made_b -/
abbrev st_law_made_b : Stmt := (top 72)
theorem sc_law_made_b : FnScope ["x", "y", "z", "found"] ["x", "y", "z"] (defScope st_law_made_b) := ⟨rfl, rfl, rfl, by decide +kernel, rfl, by decide +kernel, by decide +kernel⟩
theorem lok_law_made_b0 (fx : Fx K mg) : LamOk P w K mg base 1 lr_law_made_b0 (spP K T 1 F_law_made_b0) :=
  lok_P (k := 0) (ps := ["e"]) (NdefX.nscope_by (by kernel_rfl)) (fun c' pm ctv us hl => match us, hl with | [_], _ => rfl) (fun f c' A outer s H E hrL => by
    have R0 := hrL.mono (Nat.zero_le _)
    exact (pe_lstN (pa_cons' (pe_errFs (pe_v 0) fx.ei fx.ef_thing) pa_nil') (an_cons an_nil)))
theorem lok_law_made_b1 (fx : Fx K mg) : LamOk P w K mg base 1 lr_law_made_b1 (spP K T 1 F_law_made_b1) :=
  lok_P (k := 0) (ps := ["e"]) (NdefX.nscope_by (by kernel_rfl)) (fun c' pm ctv us hl => match us, hl with | [_], _ => rfl) (fun f c' A outer s H E hrL => by
    have R0 := hrL.mono (Nat.zero_le _)
    exact (pe_lstN (pa_cons' (pe_errFs (pe_v 0) fx.ei fx.ef_thing) pa_nil') (an_cons an_nil)))
theorem lok_law_made_b2 (fx : Fx K mg) : LamOk P w K mg base 1 lr_law_made_b2 (spP K T 1 F_law_made_b2) :=
  lok_P (k := 0) (ps := ["e"]) (NdefX.nscope_by (by kernel_rfl)) (fun c' pm ctv us hl => match us, hl with | [_], _ => rfl) (fun f c' A outer s H E hrL => by
    have R0 := hrL.mono (Nat.zero_le _)
    exact (pe_lstN (pa_cons' (pe_errFs (pe_v 0) fx.ei fx.ef_thing) pa_nil') (an_cons an_nil)))
theorem lok_law_made_b3 (fx : Fx K mg) : LamOk P w K mg base 1 lr_law_made_b3 (spP K T 1 F_law_made_b3) :=
  lok_P (k := 0) (ps := ["e"]) (NdefX.nscope_by (by kernel_rfl)) (fun c' pm ctv us hl => match us, hl with | [_], _ => rfl) (fun f c' A outer s H E hrL => by
    have R0 := hrL.mono (Nat.zero_le _)
    exact (pe_lstN (pa_cons' (pe_errFs (pe_v 0) fx.ei fx.ef_index) pa_nil') (an_cons an_nil)))
theorem lok_law_made_b4 (fx : Fx K mg) : LamOk P w K mg base 1 lr_law_made_b4 (spP K T 1 F_law_made_b4) :=
  lok_P (k := 0) (ps := ["e"]) (NdefX.nscope_by (by kernel_rfl)) (fun c' pm ctv us hl => match us, hl with | [_], _ => rfl) (fun f c' A outer s H E hrL => by
    have R0 := hrL.mono (Nat.zero_le _)
    exact (pe_lstN (pa_cons' (pe_errFs (pe_v 0) fx.ei fx.ef_thing) pa_nil') (an_cons an_nil)))
theorem lok_law_made_b5 (fx : Fx K mg) : LamOk P w K mg base 1 lr_law_made_b5 (spP K T 1 F_law_made_b5) :=
  lok_P (k := 0) (ps := ["e"]) (NdefX.nscope_by (by kernel_rfl)) (fun c' pm ctv us hl => match us, hl with | [_], _ => rfl) (fun f c' A outer s H E hrL => by
    have R0 := hrL.mono (Nat.zero_le _)
    exact (pe_lstN (pa_cons' (pe_errFs (pe_v 0) fx.ei fx.ef_thing) pa_nil') (an_cons an_nil)))
theorem lok_law_made_b6 (fx : Fx K mg) : LamOk P w K mg base 1 lr_law_made_b6 (spP K T 1 F_law_made_b6) :=
  lok_P (k := 0) (ps := ["e"]) (NdefX.nscope_by (by kernel_rfl)) (fun c' pm ctv us hl => match us, hl with | [_], _ => rfl) (fun f c' A outer s H E hrL => by
    have R0 := hrL.mono (Nat.zero_le _)
    exact (pe_lstN (pa_cons' (pe_errFs (pe_v 0) fx.ei fx.ef_thing) pa_nil') (an_cons an_nil)))
theorem lok_law_made_b7 (fx : Fx K mg) : LamOk P w K mg base 1 lr_law_made_b7 (spP K T 1 F_law_made_b7) :=
  lok_P (k := 0) (ps := ["e"]) (NdefX.nscope_by (by kernel_rfl)) (fun c' pm ctv us hl => match us, hl with | [_], _ => rfl) (fun f c' A outer s H E hrL => by
    have R0 := hrL.mono (Nat.zero_le _)
    exact (pe_lstN (pa_cons' (pe_errFs (pe_v 0) fx.ei fx.ef_index) pa_nil') (an_cons an_nil)))
theorem lok_law_made_b8 (fx : Fx K mg) : LamOk P w K mg base 1 lr_law_made_b8 (spP K T 1 F_law_made_b8) :=
  lok_P (k := 0) (ps := ["e"]) (NdefX.nscope_by (by kernel_rfl)) (fun c' pm ctv us hl => match us, hl with | [_], _ => rfl) (fun f c' A outer s H E hrL => by
    have R0 := hrL.mono (Nat.zero_le _)
    exact (pe_lstN (pa_cons' (pe_errFs (pe_v 0) fx.ei fx.ef_thing) pa_nil') (an_cons an_nil)))
theorem lok_law_made_b9 (fx : Fx K mg) : LamOk P w K mg base 1 lr_law_made_b9 (spP K T 1 F_law_made_b9) :=
  lok_P (k := 0) (ps := ["e"]) (NdefX.nscope_by (by kernel_rfl)) (fun c' pm ctv us hl => match us, hl with | [_], _ => rfl) (fun f c' A outer s H E hrL => by
    have R0 := hrL.mono (Nat.zero_le _)
    exact (pe_lstN (pa_cons' (pe_errFs (pe_v 0) fx.ei fx.ef_thing) pa_nil') (an_cons an_nil)))
theorem lok_law_made_b10 (fx : Fx K mg) : LamOk P w K mg base 1 lr_law_made_b10 (spP K T 1 F_law_made_b10) :=
  lok_P (k := 0) (ps := ["e"]) (NdefX.nscope_by (by kernel_rfl)) (fun c' pm ctv us hl => match us, hl with | [_], _ => rfl) (fun f c' A outer s H E hrL => by
    have R0 := hrL.mono (Nat.zero_le _)
    exact (pe_lstN (pa_cons' (pe_errFs (pe_v 0) fx.ei fx.ef_thing) pa_nil') (an_cons an_nil)))
theorem lok_law_made_b11 (fx : Fx K mg) : LamOk P w K mg base 1 lr_law_made_b11 (spP K T 1 F_law_made_b11) :=
  lok_P (k := 0) (ps := ["e"]) (NdefX.nscope_by (by kernel_rfl)) (fun c' pm ctv us hl => match us, hl with | [_], _ => rfl) (fun f c' A outer s H E hrL => by
    have R0 := hrL.mono (Nat.zero_le _)
    exact (pe_lstN (pa_cons' (pe_errFs (pe_v 0) fx.ei fx.ef_thing) pa_nil') (an_cons an_nil)))
theorem lok_law_made_b12 (fx : Fx K mg) : LamOk P w K mg base 1 lr_law_made_b12 (spP K T 1 F_law_made_b12) :=
  lok_P (k := 0) (ps := ["e"]) (NdefX.nscope_by (by kernel_rfl)) (fun c' pm ctv us hl => match us, hl with | [_], _ => rfl) (fun f c' A outer s H E hrL => by
    have R0 := hrL.mono (Nat.zero_le _)
    exact (pe_lstN (pa_cons' (pe_errFs (pe_v 0) fx.ei fx.ef_index) pa_nil') (an_cons an_nil)))
theorem lok_law_made_b13 (fx : Fx K mg) : LamOk P w K mg base 1 lr_law_made_b13 (spP K T 1 F_law_made_b13) :=
  lok_P (k := 0) (ps := ["e"]) (NdefX.nscope_by (by kernel_rfl)) (fun c' pm ctv us hl => match us, hl with | [_], _ => rfl) (fun f c' A outer s H E hrL => by
    have R0 := hrL.mono (Nat.zero_le _)
    exact (pe_lstN (pa_cons' (pe_errFs (pe_v 0) fx.ei fx.ef_index) pa_nil') (an_cons an_nil)))
theorem lok_law_made_b14 (fx : Fx K mg) : LamOk P w K mg base 1 lr_law_made_b14 (spP K T 1 F_law_made_b14) :=
  lok_P (k := 0) (ps := ["e"]) (NdefX.nscope_by (by kernel_rfl)) (fun c' pm ctv us hl => match us, hl with | [_], _ => rfl) (fun f c' A outer s H E hrL => by
    have R0 := hrL.mono (Nat.zero_le _)
    exact (pe_lstN (pa_cons' (pe_errFs (pe_v 0) fx.ei fx.ef_thing) pa_nil') (an_cons an_nil)))
theorem lok_law_made_b15 (fx : Fx K mg) : LamOk P w K mg base 1 lr_law_made_b15 (spP K T 1 F_law_made_b15) :=
  lok_P (k := 0) (ps := ["e"]) (NdefX.nscope_by (by kernel_rfl)) (fun c' pm ctv us hl => match us, hl with | [_], _ => rfl) (fun f c' A outer s H E hrL => by
    have R0 := hrL.mono (Nat.zero_le _)
    exact (pe_lstN (pa_cons' (pe_errFs (pe_v 0) fx.ei fx.ef_thing) pa_nil') (an_cons an_nil)))
theorem lok_law_made_b16 (fx : Fx K mg) : LamOk P w K mg base 1 lr_law_made_b16 (spP K T 1 F_law_made_b16) :=
  lok_P (k := 0) (ps := ["e"]) (NdefX.nscope_by (by kernel_rfl)) (fun c' pm ctv us hl => match us, hl with | [_], _ => rfl) (fun f c' A outer s H E hrL => by
    have R0 := hrL.mono (Nat.zero_le _)
    exact (pe_lstN (pa_cons' (pe_errFs (pe_v 0) fx.ei fx.ef_index) pa_nil') (an_cons an_nil)))
theorem lok_law_made_b17 (fx : Fx K mg) : LamOk P w K mg base 1 lr_law_made_b17 (spP K T 1 F_law_made_b17) :=
  lok_P (k := 0) (ps := ["e"]) (NdefX.nscope_by (by kernel_rfl)) (fun c' pm ctv us hl => match us, hl with | [_], _ => rfl) (fun f c' A outer s H E hrL => by
    have R0 := hrL.mono (Nat.zero_le _)
    exact (pe_lstN (pa_cons' (pe_errFs (pe_v 0) fx.ei fx.ef_thing) pa_nil') (an_cons an_nil)))
theorem n_law_made_b (fx : Fx K mg) (ez_BadName : Ez P w K mg base "BadName" ["thing"] [0] ["thing"] [0]) (ez_BadNest : Ez P w K mg base "BadNest" ["thing"] [0] ["thing"] [0]) (ez_BadNumber : Ez P w K mg base "BadNumber" ["thing"] [0] ["thing"] [0]) (ez_BadOrder : Ez P w K mg base "BadOrder" ["index"] [0] ["index"] [0]) (ez_BadOther : Ez P w K mg base "BadOther" ["thing"] [0] ["thing"] [0]) (ez_BadParting : Ez P w K mg base "BadParting" ["thing"] [0] ["thing"] [0]) (ez_BadPicture : Ez P w K mg base "BadPicture" ["thing"] [0] ["thing"] [0]) (ez_BadPlaces : Ez P w K mg base "BadPlaces" ["index"] [0] ["index"] [0]) (ez_BadPrice : Ez P w K mg base "BadPrice" ["thing"] [0] ["thing"] [0]) (ez_BadPriced : Ez P w K mg base "BadPriced" ["thing"] [0] ["thing"] [0]) (ez_BadPulls : Ez P w K mg base "BadPulls" ["thing"] [0] ["thing"] [0]) (ez_BadQuestion : Ez P w K mg base "BadQuestion" ["thing"] [0] ["thing"] [0]) (ez_BadRoots : Ez P w K mg base "BadRoots" ["index"] [0] ["index"] [0]) (ez_BadRows : Ez P w K mg base "BadRows" ["index"] [0] ["index"] [0]) (ez_BadSession : Ez P w K mg base "BadSession" ["thing"] [0] ["thing"] [0]) (ez_BadSharing : Ez P w K mg base "BadSharing" ["thing"] [0] ["thing"] [0]) (ez_BadSome : Ez P w K mg base "BadSome" ["index"] [0] ["index"] [0]) (ez_BadSorter : Ez P w K mg base "BadSorter" ["thing"] [0] ["thing"] [0]) (TB : TabB base mg (He.cT K ("_law_made_b", none)).1 (He.cT K ("_law_made_b", none)).2) (hmT : ((He.cT K ("_law_made_b", none)).2, ("_law_made_b" : Str) ++ ".<locals>." ++ "<lambda>") ∈ T) (hu : ∀ p ∈ T, p.1 = (He.cT K ("_law_made_b", none)).2 → p.2 = ("_law_made_b" : Str) ++ ".<locals>." ++ "<lambda>") {fd : FuncData} (Fd : FunD K "_law_made_b" "_law_made_b" (defArgs st_law_made_b) (defBody st_law_made_b) (defScope st_law_made_b) [] [] (ga K "_law_made_b") fd) : FnOk P w K mg base (L2.CX P w) 4 (ga K "_law_made_b") fd ["x", "y", "z"] (spP K T 3 F_law_made_b) :=
  fnok_Pk ("_law_made_b", none) (k := 3) (n := 1) Fd sc_law_made_b rfl fun cdv A outer s H E hr hcd => by
    have R0 := hr.mono (Nat.zero_le _)
    have nd := sc_law_made_b.nd
    have tk : L2.Takes (cxOf (L2.CX P w) P w K mg base ["x", "y", "z", "found"] "_law_made_b" (defScope st_law_made_b) (ga K "_law_made_b") cdv A outer s H E) (fun c d _ H => E c d H) := takes_of rfl rfl rfl rfl
    have px : Passes (L2.CX P w) (cxOf (L2.CX P w) P w K mg base ["x", "y", "z", "found"] "_law_made_b" (defScope st_law_made_b) (ga K "_law_made_b") cdv A outer s H E) E := passes_call tk fun _ _ _ _ z => z
    have pown : PassesOwn (model P w) (cxOf (L2.CX P w) P w K mg base ["x", "y", "z", "found"] "_law_made_b" (defScope st_law_made_b) (ga K "_law_made_b") cdv A outer s H E).A (cxOf (L2.CX P w) P w K mg base ["x", "y", "z", "found"] "_law_made_b" (defScope st_law_made_b) (ga K "_law_made_b") cdv A outer s H E).env (cxOf (L2.CX P w) P w K mg base ["x", "y", "z", "found"] "_law_made_b" (defScope st_law_made_b) (ga K "_law_made_b") cdv A outer s H E).xe := passes_of rfl
    exact (pss_cons' (ps_asg' (ps_asg (pe_own (pe_lstN pa_nil' an_nil)) (pg_set (pg_name nd (i := 3) rfl (by first | exact Or.inl rfl | exact Or.inr rfl)) trivial)))
 (pss_cons' (ps_exp (ps_expr (pe_mut (pe_w PySem.F.plainAttrs_list PySem.F.slot_list_append PySem.F.type_list_append mt_append (pe_v 3) (pa_cons' (pe_tupN (pa_cons' (pe_ez ez_BadName hr (pa_cons' (pe_v 0) pa_nil')) (pa_cons' (pe_ezK ez_BadName hr (ka_cons' (pe_v 0) ka_nil')) (pa_cons' (pe_lamR "law_made_b0" lr_law_made_b0 TB hcd hmT hu (by kernel_rfl)) (pa_cons' (pe_lstN (pa_cons' (pe_v 0) pa_nil') (an_cons an_nil)) pa_nil')))) (an_cons (an_cons (an_cons (an_cons an_nil))))) pa_nil')) (fun _ _ _ _ _ r h => kLst_ty r h) mAppend_ok)))
 (pss_cons' (ps_exp (ps_expr (pe_mut (pe_w PySem.F.plainAttrs_list PySem.F.slot_list_append PySem.F.type_list_append mt_append (pe_v 3) (pa_cons' (pe_tupN (pa_cons' (pe_ez ez_BadNest hr (pa_cons' (pe_v 0) pa_nil')) (pa_cons' (pe_ezK ez_BadNest hr (ka_cons' (pe_v 0) ka_nil')) (pa_cons' (pe_lamR "law_made_b1" lr_law_made_b1 TB hcd hmT hu (by kernel_rfl)) (pa_cons' (pe_lstN (pa_cons' (pe_v 0) pa_nil') (an_cons an_nil)) pa_nil')))) (an_cons (an_cons (an_cons (an_cons an_nil))))) pa_nil')) (fun _ _ _ _ _ r h => kLst_ty r h) mAppend_ok)))
 (pss_cons' (ps_exp (ps_expr (pe_mut (pe_w PySem.F.plainAttrs_list PySem.F.slot_list_append PySem.F.type_list_append mt_append (pe_v 3) (pa_cons' (pe_tupN (pa_cons' (pe_ez ez_BadNumber hr (pa_cons' (pe_v 0) pa_nil')) (pa_cons' (pe_ezK ez_BadNumber hr (ka_cons' (pe_v 0) ka_nil')) (pa_cons' (pe_lamR "law_made_b2" lr_law_made_b2 TB hcd hmT hu (by kernel_rfl)) (pa_cons' (pe_lstN (pa_cons' (pe_v 0) pa_nil') (an_cons an_nil)) pa_nil')))) (an_cons (an_cons (an_cons (an_cons an_nil))))) pa_nil')) (fun _ _ _ _ _ r h => kLst_ty r h) mAppend_ok)))
 (pss_cons' (ps_exp (ps_expr (pe_mut (pe_w PySem.F.plainAttrs_list PySem.F.slot_list_append PySem.F.type_list_append mt_append (pe_v 3) (pa_cons' (pe_tupN (pa_cons' (pe_ez ez_BadOrder hr (pa_cons' (pe_v 0) pa_nil')) (pa_cons' (pe_ezK ez_BadOrder hr (ka_cons' (pe_v 0) ka_nil')) (pa_cons' (pe_lamR "law_made_b3" lr_law_made_b3 TB hcd hmT hu (by kernel_rfl)) (pa_cons' (pe_lstN (pa_cons' (pe_v 0) pa_nil') (an_cons an_nil)) pa_nil')))) (an_cons (an_cons (an_cons (an_cons an_nil))))) pa_nil')) (fun _ _ _ _ _ r h => kLst_ty r h) mAppend_ok)))
 (pss_cons' (ps_exp (ps_expr (pe_mut (pe_w PySem.F.plainAttrs_list PySem.F.slot_list_append PySem.F.type_list_append mt_append (pe_v 3) (pa_cons' (pe_tupN (pa_cons' (pe_ez ez_BadOther hr (pa_cons' (pe_v 0) pa_nil')) (pa_cons' (pe_ezK ez_BadOther hr (ka_cons' (pe_v 0) ka_nil')) (pa_cons' (pe_lamR "law_made_b4" lr_law_made_b4 TB hcd hmT hu (by kernel_rfl)) (pa_cons' (pe_lstN (pa_cons' (pe_v 0) pa_nil') (an_cons an_nil)) pa_nil')))) (an_cons (an_cons (an_cons (an_cons an_nil))))) pa_nil')) (fun _ _ _ _ _ r h => kLst_ty r h) mAppend_ok)))
 (pss_cons' (ps_exp (ps_expr (pe_mut (pe_w PySem.F.plainAttrs_list PySem.F.slot_list_append PySem.F.type_list_append mt_append (pe_v 3) (pa_cons' (pe_tupN (pa_cons' (pe_ez ez_BadParting hr (pa_cons' (pe_v 0) pa_nil')) (pa_cons' (pe_ezK ez_BadParting hr (ka_cons' (pe_v 0) ka_nil')) (pa_cons' (pe_lamR "law_made_b5" lr_law_made_b5 TB hcd hmT hu (by kernel_rfl)) (pa_cons' (pe_lstN (pa_cons' (pe_v 0) pa_nil') (an_cons an_nil)) pa_nil')))) (an_cons (an_cons (an_cons (an_cons an_nil))))) pa_nil')) (fun _ _ _ _ _ r h => kLst_ty r h) mAppend_ok)))
 (pss_cons' (ps_exp (ps_expr (pe_mut (pe_w PySem.F.plainAttrs_list PySem.F.slot_list_append PySem.F.type_list_append mt_append (pe_v 3) (pa_cons' (pe_tupN (pa_cons' (pe_ez ez_BadPicture hr (pa_cons' (pe_v 0) pa_nil')) (pa_cons' (pe_ezK ez_BadPicture hr (ka_cons' (pe_v 0) ka_nil')) (pa_cons' (pe_lamR "law_made_b6" lr_law_made_b6 TB hcd hmT hu (by kernel_rfl)) (pa_cons' (pe_lstN (pa_cons' (pe_v 0) pa_nil') (an_cons an_nil)) pa_nil')))) (an_cons (an_cons (an_cons (an_cons an_nil))))) pa_nil')) (fun _ _ _ _ _ r h => kLst_ty r h) mAppend_ok)))
 (pss_cons' (ps_exp (ps_expr (pe_mut (pe_w PySem.F.plainAttrs_list PySem.F.slot_list_append PySem.F.type_list_append mt_append (pe_v 3) (pa_cons' (pe_tupN (pa_cons' (pe_ez ez_BadPlaces hr (pa_cons' (pe_v 0) pa_nil')) (pa_cons' (pe_ezK ez_BadPlaces hr (ka_cons' (pe_v 0) ka_nil')) (pa_cons' (pe_lamR "law_made_b7" lr_law_made_b7 TB hcd hmT hu (by kernel_rfl)) (pa_cons' (pe_lstN (pa_cons' (pe_v 0) pa_nil') (an_cons an_nil)) pa_nil')))) (an_cons (an_cons (an_cons (an_cons an_nil))))) pa_nil')) (fun _ _ _ _ _ r h => kLst_ty r h) mAppend_ok)))
 (pss_cons' (ps_exp (ps_expr (pe_mut (pe_w PySem.F.plainAttrs_list PySem.F.slot_list_append PySem.F.type_list_append mt_append (pe_v 3) (pa_cons' (pe_tupN (pa_cons' (pe_ez ez_BadPrice hr (pa_cons' (pe_v 0) pa_nil')) (pa_cons' (pe_ezK ez_BadPrice hr (ka_cons' (pe_v 0) ka_nil')) (pa_cons' (pe_lamR "law_made_b8" lr_law_made_b8 TB hcd hmT hu (by kernel_rfl)) (pa_cons' (pe_lstN (pa_cons' (pe_v 0) pa_nil') (an_cons an_nil)) pa_nil')))) (an_cons (an_cons (an_cons (an_cons an_nil))))) pa_nil')) (fun _ _ _ _ _ r h => kLst_ty r h) mAppend_ok)))
 (pss_cons' (ps_exp (ps_expr (pe_mut (pe_w PySem.F.plainAttrs_list PySem.F.slot_list_append PySem.F.type_list_append mt_append (pe_v 3) (pa_cons' (pe_tupN (pa_cons' (pe_ez ez_BadPriced hr (pa_cons' (pe_v 0) pa_nil')) (pa_cons' (pe_ezK ez_BadPriced hr (ka_cons' (pe_v 0) ka_nil')) (pa_cons' (pe_lamR "law_made_b9" lr_law_made_b9 TB hcd hmT hu (by kernel_rfl)) (pa_cons' (pe_lstN (pa_cons' (pe_v 0) pa_nil') (an_cons an_nil)) pa_nil')))) (an_cons (an_cons (an_cons (an_cons an_nil))))) pa_nil')) (fun _ _ _ _ _ r h => kLst_ty r h) mAppend_ok)))
 (pss_cons' (ps_exp (ps_expr (pe_mut (pe_w PySem.F.plainAttrs_list PySem.F.slot_list_append PySem.F.type_list_append mt_append (pe_v 3) (pa_cons' (pe_tupN (pa_cons' (pe_ez ez_BadPulls hr (pa_cons' (pe_v 0) pa_nil')) (pa_cons' (pe_ezK ez_BadPulls hr (ka_cons' (pe_v 0) ka_nil')) (pa_cons' (pe_lamR "law_made_b10" lr_law_made_b10 TB hcd hmT hu (by kernel_rfl)) (pa_cons' (pe_lstN (pa_cons' (pe_v 0) pa_nil') (an_cons an_nil)) pa_nil')))) (an_cons (an_cons (an_cons (an_cons an_nil))))) pa_nil')) (fun _ _ _ _ _ r h => kLst_ty r h) mAppend_ok)))
 (pss_cons' (ps_exp (ps_expr (pe_mut (pe_w PySem.F.plainAttrs_list PySem.F.slot_list_append PySem.F.type_list_append mt_append (pe_v 3) (pa_cons' (pe_tupN (pa_cons' (pe_ez ez_BadQuestion hr (pa_cons' (pe_v 0) pa_nil')) (pa_cons' (pe_ezK ez_BadQuestion hr (ka_cons' (pe_v 0) ka_nil')) (pa_cons' (pe_lamR "law_made_b11" lr_law_made_b11 TB hcd hmT hu (by kernel_rfl)) (pa_cons' (pe_lstN (pa_cons' (pe_v 0) pa_nil') (an_cons an_nil)) pa_nil')))) (an_cons (an_cons (an_cons (an_cons an_nil))))) pa_nil')) (fun _ _ _ _ _ r h => kLst_ty r h) mAppend_ok)))
 (pss_cons' (ps_exp (ps_expr (pe_mut (pe_w PySem.F.plainAttrs_list PySem.F.slot_list_append PySem.F.type_list_append mt_append (pe_v 3) (pa_cons' (pe_tupN (pa_cons' (pe_ez ez_BadRoots hr (pa_cons' (pe_v 0) pa_nil')) (pa_cons' (pe_ezK ez_BadRoots hr (ka_cons' (pe_v 0) ka_nil')) (pa_cons' (pe_lamR "law_made_b12" lr_law_made_b12 TB hcd hmT hu (by kernel_rfl)) (pa_cons' (pe_lstN (pa_cons' (pe_v 0) pa_nil') (an_cons an_nil)) pa_nil')))) (an_cons (an_cons (an_cons (an_cons an_nil))))) pa_nil')) (fun _ _ _ _ _ r h => kLst_ty r h) mAppend_ok)))
 (pss_cons' (ps_exp (ps_expr (pe_mut (pe_w PySem.F.plainAttrs_list PySem.F.slot_list_append PySem.F.type_list_append mt_append (pe_v 3) (pa_cons' (pe_tupN (pa_cons' (pe_ez ez_BadRows hr (pa_cons' (pe_v 0) pa_nil')) (pa_cons' (pe_ezK ez_BadRows hr (ka_cons' (pe_v 0) ka_nil')) (pa_cons' (pe_lamR "law_made_b13" lr_law_made_b13 TB hcd hmT hu (by kernel_rfl)) (pa_cons' (pe_lstN (pa_cons' (pe_v 0) pa_nil') (an_cons an_nil)) pa_nil')))) (an_cons (an_cons (an_cons (an_cons an_nil))))) pa_nil')) (fun _ _ _ _ _ r h => kLst_ty r h) mAppend_ok)))
 (pss_cons' (ps_exp (ps_expr (pe_mut (pe_w PySem.F.plainAttrs_list PySem.F.slot_list_append PySem.F.type_list_append mt_append (pe_v 3) (pa_cons' (pe_tupN (pa_cons' (pe_ez ez_BadSession hr (pa_cons' (pe_v 0) pa_nil')) (pa_cons' (pe_ezK ez_BadSession hr (ka_cons' (pe_v 0) ka_nil')) (pa_cons' (pe_lamR "law_made_b14" lr_law_made_b14 TB hcd hmT hu (by kernel_rfl)) (pa_cons' (pe_lstN (pa_cons' (pe_v 0) pa_nil') (an_cons an_nil)) pa_nil')))) (an_cons (an_cons (an_cons (an_cons an_nil))))) pa_nil')) (fun _ _ _ _ _ r h => kLst_ty r h) mAppend_ok)))
 (pss_cons' (ps_exp (ps_expr (pe_mut (pe_w PySem.F.plainAttrs_list PySem.F.slot_list_append PySem.F.type_list_append mt_append (pe_v 3) (pa_cons' (pe_tupN (pa_cons' (pe_ez ez_BadSharing hr (pa_cons' (pe_v 0) pa_nil')) (pa_cons' (pe_ezK ez_BadSharing hr (ka_cons' (pe_v 0) ka_nil')) (pa_cons' (pe_lamR "law_made_b15" lr_law_made_b15 TB hcd hmT hu (by kernel_rfl)) (pa_cons' (pe_lstN (pa_cons' (pe_v 0) pa_nil') (an_cons an_nil)) pa_nil')))) (an_cons (an_cons (an_cons (an_cons an_nil))))) pa_nil')) (fun _ _ _ _ _ r h => kLst_ty r h) mAppend_ok)))
 (pss_cons' (ps_exp (ps_expr (pe_mut (pe_w PySem.F.plainAttrs_list PySem.F.slot_list_append PySem.F.type_list_append mt_append (pe_v 3) (pa_cons' (pe_tupN (pa_cons' (pe_ez ez_BadSome hr (pa_cons' (pe_v 0) pa_nil')) (pa_cons' (pe_ezK ez_BadSome hr (ka_cons' (pe_v 0) ka_nil')) (pa_cons' (pe_lamR "law_made_b16" lr_law_made_b16 TB hcd hmT hu (by kernel_rfl)) (pa_cons' (pe_lstN (pa_cons' (pe_v 0) pa_nil') (an_cons an_nil)) pa_nil')))) (an_cons (an_cons (an_cons (an_cons an_nil))))) pa_nil')) (fun _ _ _ _ _ r h => kLst_ty r h) mAppend_ok)))
 (pss_cons' (ps_exp (ps_expr (pe_mut (pe_w PySem.F.plainAttrs_list PySem.F.slot_list_append PySem.F.type_list_append mt_append (pe_v 3) (pa_cons' (pe_tupN (pa_cons' (pe_ez ez_BadSorter hr (pa_cons' (pe_v 0) pa_nil')) (pa_cons' (pe_ezK ez_BadSorter hr (ka_cons' (pe_v 0) ka_nil')) (pa_cons' (pe_lamR "law_made_b17" lr_law_made_b17 TB hcd hmT hu (by kernel_rfl)) (pa_cons' (pe_lstN (pa_cons' (pe_v 0) pa_nil') (an_cons an_nil)) pa_nil')))) (an_cons (an_cons (an_cons (an_cons an_nil))))) pa_nil')) (fun _ _ _ _ _ r h => kLst_ty r h) mAppend_ok)))
 (pss_one' (ps_ret' (pe_vm 3))))))))))))))))))))))
theorem d_law_made_b (fx : Fx K mg) (ez_BadName : Ez P w K mg base "BadName" ["thing"] [0] ["thing"] [0]) (ez_BadNest : Ez P w K mg base "BadNest" ["thing"] [0] ["thing"] [0]) (ez_BadNumber : Ez P w K mg base "BadNumber" ["thing"] [0] ["thing"] [0]) (ez_BadOrder : Ez P w K mg base "BadOrder" ["index"] [0] ["index"] [0]) (ez_BadOther : Ez P w K mg base "BadOther" ["thing"] [0] ["thing"] [0]) (ez_BadParting : Ez P w K mg base "BadParting" ["thing"] [0] ["thing"] [0]) (ez_BadPicture : Ez P w K mg base "BadPicture" ["thing"] [0] ["thing"] [0]) (ez_BadPlaces : Ez P w K mg base "BadPlaces" ["index"] [0] ["index"] [0]) (ez_BadPrice : Ez P w K mg base "BadPrice" ["thing"] [0] ["thing"] [0]) (ez_BadPriced : Ez P w K mg base "BadPriced" ["thing"] [0] ["thing"] [0]) (ez_BadPulls : Ez P w K mg base "BadPulls" ["thing"] [0] ["thing"] [0]) (ez_BadQuestion : Ez P w K mg base "BadQuestion" ["thing"] [0] ["thing"] [0]) (ez_BadRoots : Ez P w K mg base "BadRoots" ["index"] [0] ["index"] [0]) (ez_BadRows : Ez P w K mg base "BadRows" ["index"] [0] ["index"] [0]) (ez_BadSession : Ez P w K mg base "BadSession" ["thing"] [0] ["thing"] [0]) (ez_BadSharing : Ez P w K mg base "BadSharing" ["thing"] [0] ["thing"] [0]) (ez_BadSome : Ez P w K mg base "BadSome" ["index"] [0] ["index"] [0]) (ez_BadSorter : Ez P w K mg base "BadSorter" ["thing"] [0] ["thing"] [0]) (TB : TabB base mg (He.cT K ("_law_made_b", none)).1 (He.cT K ("_law_made_b", none)).2) (hmT : ((He.cT K ("_law_made_b", none)).2, ("_law_made_b" : Str) ++ ".<locals>." ++ "<lambda>") ∈ T) (hu : ∀ p ∈ T, p.1 = (He.cT K ("_law_made_b", none)).2 → p.2 = ("_law_made_b" : Str) ++ ".<locals>." ++ "<lambda>") {fd : FuncData} (Fd : FunD K "_law_made_b" "_law_made_b" (defArgs st_law_made_b) (defBody st_law_made_b) (defScope st_law_made_b) [] [] (ga K "_law_made_b") fd) (hm : mg "_law_made_b" = some (.ref (ga K "_law_made_b"))) : Cal P w K mg base "_law_made_b" ["x", "y", "z"] (spP K T 3 F_law_made_b) 4 :=
  ⟨⟨fd, n_law_made_b fx ez_BadName ez_BadNest ez_BadNumber ez_BadOrder ez_BadOther ez_BadParting ez_BadPicture ez_BadPlaces ez_BadPrice ez_BadPriced ez_BadPulls ez_BadQuestion ez_BadRoots ez_BadRows ez_BadSession ez_BadSharing ez_BadSome ez_BadSorter TB hmT hu Fd, Fd.bindsN (fun _ _ _ _ _ _ us hl => match us, hl with | [_, _, _], _ => rfl)⟩, hm, Fd.kp⟩
end
end K00
end
section
set_option Elab.async false
set_option linter.all false
set_option autoImplicit false
set_option maxRecDepth 100000
set_option maxHeartbeats 8000000
namespace K00
open PySem PySem.Spec PySem.W PyProof.Rows L2 IL LamX IS
section
variable {P : Program} {w : World} {K : PySem.W.Frag} {mg : Str → Option Value} {base : Heap} {T : Tb}
/-! ### _law_kinds_d -/
abbrev st_law_kinds_d : Stmt := (top 78)
theorem sc_law_kinds_d : FnScope ["e", "found"] ["e"] (defScope st_law_kinds_d) := ⟨rfl, rfl, rfl, by decide +kernel, rfl, by decide +kernel, by decide +kernel⟩
theorem n_law_kinds_d (fx : Fx K mg) {fd : FuncData} (Fd : FunD K "_law_kinds_d" "_law_kinds_d" (defArgs st_law_kinds_d) (defBody st_law_kinds_d) (defScope st_law_kinds_d) [] [] (ga K "_law_kinds_d") fd) : FnOk P w K mg base (L2.CX P w) 1 (ga K "_law_kinds_d") fd ["e"] (spP K T 1 F_law_kinds_d) :=
  fnok_P (k := 0) (n := 1) Fd sc_law_kinds_d rfl fun cdv A outer s H E hr => by
    have R0 := hr.mono (Nat.zero_le _)
    have nd := sc_law_kinds_d.nd
    have tk : L2.Takes (cxOf (L2.CX P w) P w K mg base ["e", "found"] "_law_kinds_d" (defScope st_law_kinds_d) (ga K "_law_kinds_d") cdv A outer s H E) (fun c d _ H => E c d H) := takes_of rfl rfl rfl rfl
    have px : Passes (L2.CX P w) (cxOf (L2.CX P w) P w K mg base ["e", "found"] "_law_kinds_d" (defScope st_law_kinds_d) (ga K "_law_kinds_d") cdv A outer s H E) E := passes_call tk fun _ _ _ _ z => z
    have pown : PassesOwn (model P w) (cxOf (L2.CX P w) P w K mg base ["e", "found"] "_law_kinds_d" (defScope st_law_kinds_d) (ga K "_law_kinds_d") cdv A outer s H E).A (cxOf (L2.CX P w) P w K mg base ["e", "found"] "_law_kinds_d" (defScope st_law_kinds_d) (ga K "_law_kinds_d") cdv A outer s H E).env (cxOf (L2.CX P w) P w K mg base ["e", "found"] "_law_kinds_d" (defScope st_law_kinds_d) (ga K "_law_kinds_d") cdv A outer s H E).xe := passes_of rfl
    exact (pss_cons' (ps_asg' (ps_asg (pe_own (pe_lstN pa_nil' an_nil)) (pg_set (pg_name nd (i := 1) rfl (by first | exact Or.inl rfl | exact Or.inr rfl)) trivial)))
 (pss_cons' (ps_exp (ps_expr (pe_mut (pe_w PySem.F.plainAttrs_list PySem.F.slot_list_extend PySem.F.type_list_extend mt_extend (pe_v 1) (pa_cons' (pe_lstN (pa_cons' (pe_b2 (fIsiE_ok fx.ei) fx.b_isinstance PyProof.Rows.boot_isinstance (pe_v 0) (pe_glo rfl (fx.g_NoPlace))) (pa_cons' (pe_b2 (fIsiE_ok fx.ei) fx.b_isinstance PyProof.Rows.boot_isinstance (pe_v 0) (pe_glo rfl (fx.g_NoRoot))) pa_nil')) (an_cons (an_cons an_nil))) pa_nil')) (fun _ _ _ _ _ r h => kLst_ty r h) mExtO_ok)))
 (pss_cons' (ps_exp (ps_expr (pe_mut (pe_w PySem.F.plainAttrs_list PySem.F.slot_list_extend PySem.F.type_list_extend mt_extend (pe_v 1) (pa_cons' (pe_lstN (pa_cons' (pe_b2 (fIsiE_ok fx.ei) fx.b_isinstance PyProof.Rows.boot_isinstance (pe_v 0) (pe_glo rfl (fx.g_NoTie))) (pa_cons' (pe_b2 (fIsiE_ok fx.ei) fx.b_isinstance PyProof.Rows.boot_isinstance (pe_v 0) (pe_glo rfl (fx.g_NotFull))) pa_nil')) (an_cons (an_cons an_nil))) pa_nil')) (fun _ _ _ _ _ r h => kLst_ty r h) mExtO_ok)))
 (pss_cons' (ps_exp (ps_expr (pe_mut (pe_w PySem.F.plainAttrs_list PySem.F.slot_list_extend PySem.F.type_list_extend mt_extend (pe_v 1) (pa_cons' (pe_lstN (pa_cons' (pe_b2 (fIsiE_ok fx.ei) fx.b_isinstance PyProof.Rows.boot_isinstance (pe_v 0) (pe_glo rfl (fx.g_NotNow))) (pa_cons' (pe_b2 (fIsiE_ok fx.ei) fx.b_isinstance PyProof.Rows.boot_isinstance (pe_v 0) (pe_glo rfl (fx.g_NotThere))) pa_nil')) (an_cons (an_cons an_nil))) pa_nil')) (fun _ _ _ _ _ r h => kLst_ty r h) mExtO_ok)))
 (pss_cons' (ps_exp (ps_expr (pe_mut (pe_w PySem.F.plainAttrs_list PySem.F.slot_list_extend PySem.F.type_list_extend mt_extend (pe_v 1) (pa_cons' (pe_lstN (pa_cons' (pe_b2 (fIsiE_ok fx.ei) fx.b_isinstance PyProof.Rows.boot_isinstance (pe_v 0) (pe_glo rfl (fx.g_NotWatched))) (pa_cons' (pe_b2 (fIsiE_ok fx.ei) fx.b_isinstance PyProof.Rows.boot_isinstance (pe_v 0) (pe_glo rfl (fx.g_OtherPlaces))) pa_nil')) (an_cons (an_cons an_nil))) pa_nil')) (fun _ _ _ _ _ r h => kLst_ty r h) mExtO_ok)))
 (pss_cons' (ps_exp (ps_expr (pe_mut (pe_w PySem.F.plainAttrs_list PySem.F.slot_list_extend PySem.F.type_list_extend mt_extend (pe_v 1) (pa_cons' (pe_lstN (pa_cons' (pe_b2 (fIsiE_ok fx.ei) fx.b_isinstance PyProof.Rows.boot_isinstance (pe_v 0) (pe_glo rfl (fx.g_SamePlace))) (pa_cons' (pe_b2 (fIsiE_ok fx.ei) fx.b_isinstance PyProof.Rows.boot_isinstance (pe_v 0) (pe_glo rfl (fx.g_SavesNothing))) pa_nil')) (an_cons (an_cons an_nil))) pa_nil')) (fun _ _ _ _ _ r h => kLst_ty r h) mExtO_ok)))
 (pss_cons' (ps_exp (ps_expr (pe_mut (pe_w PySem.F.plainAttrs_list PySem.F.slot_list_extend PySem.F.type_list_extend mt_extend (pe_v 1) (pa_cons' (pe_lstN (pa_cons' (pe_b2 (fIsiE_ok fx.ei) fx.b_isinstance PyProof.Rows.boot_isinstance (pe_v 0) (pe_glo rfl (fx.g_WouldChange))) pa_nil') (an_cons an_nil)) pa_nil')) (fun _ _ _ _ _ r h => kLst_ty r h) mExtO_ok)))
 (pss_one' (ps_ret' (pe_vm 1))))))))))
theorem d_law_kinds_d (fx : Fx K mg) {fd : FuncData} (Fd : FunD K "_law_kinds_d" "_law_kinds_d" (defArgs st_law_kinds_d) (defBody st_law_kinds_d) (defScope st_law_kinds_d) [] [] (ga K "_law_kinds_d") fd) (hm : mg "_law_kinds_d" = some (.ref (ga K "_law_kinds_d"))) : Cal P w K mg base "_law_kinds_d" ["e"] (spP K T 1 F_law_kinds_d) 1 :=
  ⟨⟨fd, n_law_kinds_d fx Fd, Fd.bindsN (fun _ _ _ _ _ _ us hl => match us, hl with | [_], _ => rfl)⟩, hm, Fd.kp⟩
end
end K00
end
section
set_option Elab.async false
set_option linter.all false
set_option autoImplicit false
set_option maxRecDepth 100000
set_option maxHeartbeats 8000000
namespace K00
open PySem PySem.Spec PySem.W PyProof.Rows L2 IL LamX IS
section
variable {P : Program} {w : World} {K : PySem.W.Frag} {mg : Str → Option Value} {base : Heap} {T : Tb}
/-! ### _law_kinds_c -/
abbrev st_law_kinds_c : Stmt := (top 77)
theorem sc_law_kinds_c : FnScope ["e", "found"] ["e"] (defScope st_law_kinds_c) := ⟨rfl, rfl, rfl, by decide +kernel, rfl, by decide +kernel, by decide +kernel⟩
theorem n_law_kinds_c (fx : Fx K mg) {fd : FuncData} (Fd : FunD K "_law_kinds_c" "_law_kinds_c" (defArgs st_law_kinds_c) (defBody st_law_kinds_c) (defScope st_law_kinds_c) [] [] (ga K "_law_kinds_c") fd) : FnOk P w K mg base (L2.CX P w) 1 (ga K "_law_kinds_c") fd ["e"] (spP K T 1 F_law_kinds_c) :=
  fnok_P (k := 0) (n := 1) Fd sc_law_kinds_c rfl fun cdv A outer s H E hr => by
    have R0 := hr.mono (Nat.zero_le _)
    have nd := sc_law_kinds_c.nd
    have tk : L2.Takes (cxOf (L2.CX P w) P w K mg base ["e", "found"] "_law_kinds_c" (defScope st_law_kinds_c) (ga K "_law_kinds_c") cdv A outer s H E) (fun c d _ H => E c d H) := takes_of rfl rfl rfl rfl
    have px : Passes (L2.CX P w) (cxOf (L2.CX P w) P w K mg base ["e", "found"] "_law_kinds_c" (defScope st_law_kinds_c) (ga K "_law_kinds_c") cdv A outer s H E) E := passes_call tk fun _ _ _ _ z => z
    have pown : PassesOwn (model P w) (cxOf (L2.CX P w) P w K mg base ["e", "found"] "_law_kinds_c" (defScope st_law_kinds_c) (ga K "_law_kinds_c") cdv A outer s H E).A (cxOf (L2.CX P w) P w K mg base ["e", "found"] "_law_kinds_c" (defScope st_law_kinds_c) (ga K "_law_kinds_c") cdv A outer s H E).env (cxOf (L2.CX P w) P w K mg base ["e", "found"] "_law_kinds_c" (defScope st_law_kinds_c) (ga K "_law_kinds_c") cdv A outer s H E).xe := passes_of rfl
    exact (pss_cons' (ps_asg' (ps_asg (pe_own (pe_lstN pa_nil' an_nil)) (pg_set (pg_name nd (i := 1) rfl (by first | exact Or.inl rfl | exact Or.inr rfl)) trivial)))
 (pss_cons' (ps_exp (ps_expr (pe_mut (pe_w PySem.F.plainAttrs_list PySem.F.slot_list_extend PySem.F.type_list_extend mt_extend (pe_v 1) (pa_cons' (pe_lstN (pa_cons' (pe_b2 (fIsiE_ok fx.ei) fx.b_isinstance PyProof.Rows.boot_isinstance (pe_v 0) (pe_glo rfl (fx.g_BadSplit))) (pa_cons' (pe_b2 (fIsiE_ok fx.ei) fx.b_isinstance PyProof.Rows.boot_isinstance (pe_v 0) (pe_glo rfl (fx.g_BadTable))) pa_nil')) (an_cons (an_cons an_nil))) pa_nil')) (fun _ _ _ _ _ r h => kLst_ty r h) mExtO_ok)))
 (pss_cons' (ps_exp (ps_expr (pe_mut (pe_w PySem.F.plainAttrs_list PySem.F.slot_list_extend PySem.F.type_list_extend mt_extend (pe_v 1) (pa_cons' (pe_lstN (pa_cons' (pe_b2 (fIsiE_ok fx.ei) fx.b_isinstance PyProof.Rows.boot_isinstance (pe_v 0) (pe_glo rfl (fx.g_BadText))) (pa_cons' (pe_b2 (fIsiE_ok fx.ei) fx.b_isinstance PyProof.Rows.boot_isinstance (pe_v 0) (pe_glo rfl (fx.g_BadTies))) pa_nil')) (an_cons (an_cons an_nil))) pa_nil')) (fun _ _ _ _ _ r h => kLst_ty r h) mExtO_ok)))
 (pss_cons' (ps_exp (ps_expr (pe_mut (pe_w PySem.F.plainAttrs_list PySem.F.slot_list_extend PySem.F.type_list_extend mt_extend (pe_v 1) (pa_cons' (pe_lstN (pa_cons' (pe_b2 (fIsiE_ok fx.ei) fx.b_isinstance PyProof.Rows.boot_isinstance (pe_v 0) (pe_glo rfl (fx.g_BadTold))) (pa_cons' (pe_b2 (fIsiE_ok fx.ei) fx.b_isinstance PyProof.Rows.boot_isinstance (pe_v 0) (pe_glo rfl (fx.g_BadTree))) pa_nil')) (an_cons (an_cons an_nil))) pa_nil')) (fun _ _ _ _ _ r h => kLst_ty r h) mExtO_ok)))
 (pss_cons' (ps_exp (ps_expr (pe_mut (pe_w PySem.F.plainAttrs_list PySem.F.slot_list_extend PySem.F.type_list_extend mt_extend (pe_v 1) (pa_cons' (pe_lstN (pa_cons' (pe_b2 (fIsiE_ok fx.ei) fx.b_isinstance PyProof.Rows.boot_isinstance (pe_v 0) (pe_glo rfl (fx.g_BadTriple))) (pa_cons' (pe_b2 (fIsiE_ok fx.ei) fx.b_isinstance PyProof.Rows.boot_isinstance (pe_v 0) (pe_glo rfl (fx.g_BadTriples))) pa_nil')) (an_cons (an_cons an_nil))) pa_nil')) (fun _ _ _ _ _ r h => kLst_ty r h) mExtO_ok)))
 (pss_cons' (ps_exp (ps_expr (pe_mut (pe_w PySem.F.plainAttrs_list PySem.F.slot_list_extend PySem.F.type_list_extend mt_extend (pe_v 1) (pa_cons' (pe_lstN (pa_cons' (pe_b2 (fIsiE_ok fx.ei) fx.b_isinstance PyProof.Rows.boot_isinstance (pe_v 0) (pe_glo rfl (fx.g_BadTwice))) (pa_cons' (pe_b2 (fIsiE_ok fx.ei) fx.b_isinstance PyProof.Rows.boot_isinstance (pe_v 0) (pe_glo rfl (fx.g_BadWeb))) pa_nil')) (an_cons (an_cons an_nil))) pa_nil')) (fun _ _ _ _ _ r h => kLst_ty r h) mExtO_ok)))
 (pss_cons' (ps_exp (ps_expr (pe_mut (pe_w PySem.F.plainAttrs_list PySem.F.slot_list_extend PySem.F.type_list_extend mt_extend (pe_v 1) (pa_cons' (pe_lstN (pa_cons' (pe_b2 (fIsiE_ok fx.ei) fx.b_isinstance PyProof.Rows.boot_isinstance (pe_v 0) (pe_glo rfl (fx.g_Crossing))) (pa_cons' (pe_b2 (fIsiE_ok fx.ei) fx.b_isinstance PyProof.Rows.boot_isinstance (pe_v 0) (pe_glo rfl (fx.g_InUse))) pa_nil')) (an_cons (an_cons an_nil))) pa_nil')) (fun _ _ _ _ _ r h => kLst_ty r h) mExtO_ok)))
 (pss_cons' (ps_exp (ps_expr (pe_mut (pe_w PySem.F.plainAttrs_list PySem.F.slot_list_extend PySem.F.type_list_extend mt_extend (pe_v 1) (pa_cons' (pe_lstN (pa_cons' (pe_b2 (fIsiE_ok fx.ei) fx.b_isinstance PyProof.Rows.boot_isinstance (pe_v 0) (pe_glo rfl (fx.g_IsThere))) (pa_cons' (pe_b2 (fIsiE_ok fx.ei) fx.b_isinstance PyProof.Rows.boot_isinstance (pe_v 0) (pe_glo rfl (fx.g_IsWatched))) pa_nil')) (an_cons (an_cons an_nil))) pa_nil')) (fun _ _ _ _ _ r h => kLst_ty r h) mExtO_ok)))
 (pss_cons' (ps_exp (ps_expr (pe_mut (pe_w PySem.F.plainAttrs_list PySem.F.slot_list_extend PySem.F.type_list_extend mt_extend (pe_v 1) (pa_cons' (pe_lstN (pa_cons' (pe_b2 (fIsiE_ok fx.ei) fx.b_isinstance PyProof.Rows.boot_isinstance (pe_v 0) (pe_glo rfl (fx.g_NoCount))) (pa_cons' (pe_b2 (fIsiE_ok fx.ei) fx.b_isinstance PyProof.Rows.boot_isinstance (pe_v 0) (pe_glo rfl (fx.g_NoFrame))) pa_nil')) (an_cons (an_cons an_nil))) pa_nil')) (fun _ _ _ _ _ r h => kLst_ty r h) mExtO_ok)))
 (pss_cons' (ps_exp (ps_expr (pe_mut (pe_w PySem.F.plainAttrs_list PySem.F.slot_list_extend PySem.F.type_list_extend mt_extend (pe_v 1) (pa_cons' (pe_lstN (pa_cons' (pe_b2 (fIsiE_ok fx.ei) fx.b_isinstance PyProof.Rows.boot_isinstance (pe_v 0) (pe_glo rfl (fx.g_NoLot))) (pa_cons' (pe_b2 (fIsiE_ok fx.ei) fx.b_isinstance PyProof.Rows.boot_isinstance (pe_v 0) (pe_glo rfl (fx.g_NoParts))) pa_nil')) (an_cons (an_cons an_nil))) pa_nil')) (fun _ _ _ _ _ r h => kLst_ty r h) mExtO_ok)))
 (pss_one' (ps_ret' (pe_vm 1)))))))))))))
theorem d_law_kinds_c (fx : Fx K mg) {fd : FuncData} (Fd : FunD K "_law_kinds_c" "_law_kinds_c" (defArgs st_law_kinds_c) (defBody st_law_kinds_c) (defScope st_law_kinds_c) [] [] (ga K "_law_kinds_c") fd) (hm : mg "_law_kinds_c" = some (.ref (ga K "_law_kinds_c"))) : Cal P w K mg base "_law_kinds_c" ["e"] (spP K T 1 F_law_kinds_c) 1 :=
  ⟨⟨fd, n_law_kinds_c fx Fd, Fd.bindsN (fun _ _ _ _ _ _ us hl => match us, hl with | [_], _ => rfl)⟩, hm, Fd.kp⟩
end
end K00
end
section
set_option Elab.async false
set_option linter.all false
set_option autoImplicit false
set_option maxRecDepth 100000
set_option maxHeartbeats 8000000
namespace K00
open PySem PySem.Spec PySem.W PyProof.Rows L2 IL LamX IS
section
variable {P : Program} {w : World} {K : PySem.W.Frag} {mg : Str → Option Value} {base : Heap} {T : Tb}
/-! ### _law_kinds_a -/
abbrev st_law_kinds_a : Stmt := (top 75)
theorem sc_law_kinds_a : FnScope ["e", "found"] ["e"] (defScope st_law_kinds_a) := ⟨rfl, rfl, rfl, by decide +kernel, rfl, by decide +kernel, by decide +kernel⟩
theorem n_law_kinds_a (fx : Fx K mg) {fd : FuncData} (Fd : FunD K "_law_kinds_a" "_law_kinds_a" (defArgs st_law_kinds_a) (defBody st_law_kinds_a) (defScope st_law_kinds_a) [] [] (ga K "_law_kinds_a") fd) : FnOk P w K mg base (L2.CX P w) 1 (ga K "_law_kinds_a") fd ["e"] (spP K T 1 F_law_kinds_a) :=
  fnok_P (k := 0) (n := 1) Fd sc_law_kinds_a rfl fun cdv A outer s H E hr => by
    have R0 := hr.mono (Nat.zero_le _)
    have nd := sc_law_kinds_a.nd
    have tk : L2.Takes (cxOf (L2.CX P w) P w K mg base ["e", "found"] "_law_kinds_a" (defScope st_law_kinds_a) (ga K "_law_kinds_a") cdv A outer s H E) (fun c d _ H => E c d H) := takes_of rfl rfl rfl rfl
    have px : Passes (L2.CX P w) (cxOf (L2.CX P w) P w K mg base ["e", "found"] "_law_kinds_a" (defScope st_law_kinds_a) (ga K "_law_kinds_a") cdv A outer s H E) E := passes_call tk fun _ _ _ _ z => z
    have pown : PassesOwn (model P w) (cxOf (L2.CX P w) P w K mg base ["e", "found"] "_law_kinds_a" (defScope st_law_kinds_a) (ga K "_law_kinds_a") cdv A outer s H E).A (cxOf (L2.CX P w) P w K mg base ["e", "found"] "_law_kinds_a" (defScope st_law_kinds_a) (ga K "_law_kinds_a") cdv A outer s H E).env (cxOf (L2.CX P w) P w K mg base ["e", "found"] "_law_kinds_a" (defScope st_law_kinds_a) (ga K "_law_kinds_a") cdv A outer s H E).xe := passes_of rfl
    exact (pss_cons' (ps_asg' (ps_asg (pe_own (pe_lstN pa_nil' an_nil)) (pg_set (pg_name nd (i := 1) rfl (by first | exact Or.inl rfl | exact Or.inr rfl)) trivial)))
 (pss_cons' (ps_exp (ps_expr (pe_mut (pe_w PySem.F.plainAttrs_list PySem.F.slot_list_extend PySem.F.type_list_extend mt_extend (pe_v 1) (pa_cons' (pe_lstN (pa_cons' (pe_b2 (fIsiE_ok fx.ei) fx.b_isinstance PyProof.Rows.boot_isinstance (pe_v 0) (pe_glo rfl (fx.g_BadDeed))) (pa_cons' (pe_b2 (fIsiE_ok fx.ei) fx.b_isinstance PyProof.Rows.boot_isinstance (pe_v 0) (pe_glo rfl (fx.g_BadForest))) pa_nil')) (an_cons (an_cons an_nil))) pa_nil')) (fun _ _ _ _ _ r h => kLst_ty r h) mExtO_ok)))
 (pss_cons' (ps_exp (ps_expr (pe_mut (pe_w PySem.F.plainAttrs_list PySem.F.slot_list_extend PySem.F.type_list_extend mt_extend (pe_v 1) (pa_cons' (pe_lstN (pa_cons' (pe_b2 (fIsiE_ok fx.ei) fx.b_isinstance PyProof.Rows.boot_isinstance (pe_v 0) (pe_glo rfl (fx.g_BadForm))) (pa_cons' (pe_b2 (fIsiE_ok fx.ei) fx.b_isinstance PyProof.Rows.boot_isinstance (pe_v 0) (pe_glo rfl (fx.g_BadFrame))) pa_nil')) (an_cons (an_cons an_nil))) pa_nil')) (fun _ _ _ _ _ r h => kLst_ty r h) mExtO_ok)))
 (pss_cons' (ps_exp (ps_expr (pe_mut (pe_w PySem.F.plainAttrs_list PySem.F.slot_list_extend PySem.F.type_list_extend mt_extend (pe_v 1) (pa_cons' (pe_lstN (pa_cons' (pe_b2 (fIsiE_ok fx.ei) fx.b_isinstance PyProof.Rows.boot_isinstance (pe_v 0) (pe_glo rfl (fx.g_BadFrames))) (pa_cons' (pe_b2 (fIsiE_ok fx.ei) fx.b_isinstance PyProof.Rows.boot_isinstance (pe_v 0) (pe_glo rfl (fx.g_BadGauge))) pa_nil')) (an_cons (an_cons an_nil))) pa_nil')) (fun _ _ _ _ _ r h => kLst_ty r h) mExtO_ok)))
 (pss_cons' (ps_exp (ps_expr (pe_mut (pe_w PySem.F.plainAttrs_list PySem.F.slot_list_extend PySem.F.type_list_extend mt_extend (pe_v 1) (pa_cons' (pe_lstN (pa_cons' (pe_b2 (fIsiE_ok fx.ei) fx.b_isinstance PyProof.Rows.boot_isinstance (pe_v 0) (pe_glo rfl (fx.g_BadGrove))) (pa_cons' (pe_b2 (fIsiE_ok fx.ei) fx.b_isinstance PyProof.Rows.boot_isinstance (pe_v 0) (pe_glo rfl (fx.g_BadHeight))) pa_nil')) (an_cons (an_cons an_nil))) pa_nil')) (fun _ _ _ _ _ r h => kLst_ty r h) mExtO_ok)))
 (pss_cons' (ps_exp (ps_expr (pe_mut (pe_w PySem.F.plainAttrs_list PySem.F.slot_list_extend PySem.F.type_list_extend mt_extend (pe_v 1) (pa_cons' (pe_lstN (pa_cons' (pe_b2 (fIsiE_ok fx.ei) fx.b_isinstance PyProof.Rows.boot_isinstance (pe_v 0) (pe_glo rfl (fx.g_BadHigh))) (pa_cons' (pe_b2 (fIsiE_ok fx.ei) fx.b_isinstance PyProof.Rows.boot_isinstance (pe_v 0) (pe_glo rfl (fx.g_BadHollow))) pa_nil')) (an_cons (an_cons an_nil))) pa_nil')) (fun _ _ _ _ _ r h => kLst_ty r h) mExtO_ok)))
 (pss_cons' (ps_exp (ps_expr (pe_mut (pe_w PySem.F.plainAttrs_list PySem.F.slot_list_extend PySem.F.type_list_extend mt_extend (pe_v 1) (pa_cons' (pe_lstN (pa_cons' (pe_b2 (fIsiE_ok fx.ei) fx.b_isinstance PyProof.Rows.boot_isinstance (pe_v 0) (pe_glo rfl (fx.g_BadKind))) (pa_cons' (pe_b2 (fIsiE_ok fx.ei) fx.b_isinstance PyProof.Rows.boot_isinstance (pe_v 0) (pe_glo rfl (fx.g_BadLevels))) pa_nil')) (an_cons (an_cons an_nil))) pa_nil')) (fun _ _ _ _ _ r h => kLst_ty r h) mExtO_ok)))
 (pss_cons' (ps_exp (ps_expr (pe_mut (pe_w PySem.F.plainAttrs_list PySem.F.slot_list_extend PySem.F.type_list_extend mt_extend (pe_v 1) (pa_cons' (pe_lstN (pa_cons' (pe_b2 (fIsiE_ok fx.ei) fx.b_isinstance PyProof.Rows.boot_isinstance (pe_v 0) (pe_glo rfl (fx.g_BadLosses))) (pa_cons' (pe_b2 (fIsiE_ok fx.ei) fx.b_isinstance PyProof.Rows.boot_isinstance (pe_v 0) (pe_glo rfl (fx.g_BadLot))) pa_nil')) (an_cons (an_cons an_nil))) pa_nil')) (fun _ _ _ _ _ r h => kLst_ty r h) mExtO_ok)))
 (pss_cons' (ps_exp (ps_expr (pe_mut (pe_w PySem.F.plainAttrs_list PySem.F.slot_list_extend PySem.F.type_list_extend mt_extend (pe_v 1) (pa_cons' (pe_lstN (pa_cons' (pe_b2 (fIsiE_ok fx.ei) fx.b_isinstance PyProof.Rows.boot_isinstance (pe_v 0) (pe_glo rfl (fx.g_BadLots))) (pa_cons' (pe_b2 (fIsiE_ok fx.ei) fx.b_isinstance PyProof.Rows.boot_isinstance (pe_v 0) (pe_glo rfl (fx.g_BadLow))) pa_nil')) (an_cons (an_cons an_nil))) pa_nil')) (fun _ _ _ _ _ r h => kLst_ty r h) mExtO_ok)))
 (pss_cons' (ps_exp (ps_expr (pe_mut (pe_w PySem.F.plainAttrs_list PySem.F.slot_list_extend PySem.F.type_list_extend mt_extend (pe_v 1) (pa_cons' (pe_lstN (pa_cons' (pe_b2 (fIsiE_ok fx.ei) fx.b_isinstance PyProof.Rows.boot_isinstance (pe_v 0) (pe_glo rfl (fx.g_BadMany))) (pa_cons' (pe_b2 (fIsiE_ok fx.ei) fx.b_isinstance PyProof.Rows.boot_isinstance (pe_v 0) (pe_glo rfl (fx.g_BadMost))) pa_nil')) (an_cons (an_cons an_nil))) pa_nil')) (fun _ _ _ _ _ r h => kLst_ty r h) mExtO_ok)))
 (pss_one' (ps_ret' (pe_vm 1)))))))))))))
theorem d_law_kinds_a (fx : Fx K mg) {fd : FuncData} (Fd : FunD K "_law_kinds_a" "_law_kinds_a" (defArgs st_law_kinds_a) (defBody st_law_kinds_a) (defScope st_law_kinds_a) [] [] (ga K "_law_kinds_a") fd) (hm : mg "_law_kinds_a" = some (.ref (ga K "_law_kinds_a"))) : Cal P w K mg base "_law_kinds_a" ["e"] (spP K T 1 F_law_kinds_a) 1 :=
  ⟨⟨fd, n_law_kinds_a fx Fd, Fd.bindsN (fun _ _ _ _ _ _ us hl => match us, hl with | [_], _ => rfl)⟩, hm, Fd.kp⟩
end
end K00
end
section
set_option Elab.async false
set_option linter.all false
set_option autoImplicit false
set_option maxRecDepth 100000
set_option maxHeartbeats 8000000
namespace K00
open PySem PySem.Spec PySem.W PyProof.Rows L2 IL LamX IS
section
variable {P : Program} {w : World} {K : PySem.W.Frag} {mg : Str → Option Value} {base : Heap} {T : Tb}
/-! ### _law_kinds_b -/
abbrev st_law_kinds_b : Stmt := (top 76)
theorem sc_law_kinds_b : FnScope ["e", "found"] ["e"] (defScope st_law_kinds_b) := ⟨rfl, rfl, rfl, by decide +kernel, rfl, by decide +kernel, by decide +kernel⟩
theorem n_law_kinds_b (fx : Fx K mg) {fd : FuncData} (Fd : FunD K "_law_kinds_b" "_law_kinds_b" (defArgs st_law_kinds_b) (defBody st_law_kinds_b) (defScope st_law_kinds_b) [] [] (ga K "_law_kinds_b") fd) : FnOk P w K mg base (L2.CX P w) 1 (ga K "_law_kinds_b") fd ["e"] (spP K T 1 F_law_kinds_b) :=
  fnok_P (k := 0) (n := 1) Fd sc_law_kinds_b rfl fun cdv A outer s H E hr => by
    have R0 := hr.mono (Nat.zero_le _)
    have nd := sc_law_kinds_b.nd
    have tk : L2.Takes (cxOf (L2.CX P w) P w K mg base ["e", "found"] "_law_kinds_b" (defScope st_law_kinds_b) (ga K "_law_kinds_b") cdv A outer s H E) (fun c d _ H => E c d H) := takes_of rfl rfl rfl rfl
    have px : Passes (L2.CX P w) (cxOf (L2.CX P w) P w K mg base ["e", "found"] "_law_kinds_b" (defScope st_law_kinds_b) (ga K "_law_kinds_b") cdv A outer s H E) E := passes_call tk fun _ _ _ _ z => z
    have pown : PassesOwn (model P w) (cxOf (L2.CX P w) P w K mg base ["e", "found"] "_law_kinds_b" (defScope st_law_kinds_b) (ga K "_law_kinds_b") cdv A outer s H E).A (cxOf (L2.CX P w) P w K mg base ["e", "found"] "_law_kinds_b" (defScope st_law_kinds_b) (ga K "_law_kinds_b") cdv A outer s H E).env (cxOf (L2.CX P w) P w K mg base ["e", "found"] "_law_kinds_b" (defScope st_law_kinds_b) (ga K "_law_kinds_b") cdv A outer s H E).xe := passes_of rfl
    exact (pss_cons' (ps_asg' (ps_asg (pe_own (pe_lstN pa_nil' an_nil)) (pg_set (pg_name nd (i := 1) rfl (by first | exact Or.inl rfl | exact Or.inr rfl)) trivial)))
 (pss_cons' (ps_exp (ps_expr (pe_mut (pe_w PySem.F.plainAttrs_list PySem.F.slot_list_extend PySem.F.type_list_extend mt_extend (pe_v 1) (pa_cons' (pe_lstN (pa_cons' (pe_b2 (fIsiE_ok fx.ei) fx.b_isinstance PyProof.Rows.boot_isinstance (pe_v 0) (pe_glo rfl (fx.g_BadName))) (pa_cons' (pe_b2 (fIsiE_ok fx.ei) fx.b_isinstance PyProof.Rows.boot_isinstance (pe_v 0) (pe_glo rfl (fx.g_BadNest))) pa_nil')) (an_cons (an_cons an_nil))) pa_nil')) (fun _ _ _ _ _ r h => kLst_ty r h) mExtO_ok)))
 (pss_cons' (ps_exp (ps_expr (pe_mut (pe_w PySem.F.plainAttrs_list PySem.F.slot_list_extend PySem.F.type_list_extend mt_extend (pe_v 1) (pa_cons' (pe_lstN (pa_cons' (pe_b2 (fIsiE_ok fx.ei) fx.b_isinstance PyProof.Rows.boot_isinstance (pe_v 0) (pe_glo rfl (fx.g_BadNumber))) (pa_cons' (pe_b2 (fIsiE_ok fx.ei) fx.b_isinstance PyProof.Rows.boot_isinstance (pe_v 0) (pe_glo rfl (fx.g_BadOrder))) pa_nil')) (an_cons (an_cons an_nil))) pa_nil')) (fun _ _ _ _ _ r h => kLst_ty r h) mExtO_ok)))
 (pss_cons' (ps_exp (ps_expr (pe_mut (pe_w PySem.F.plainAttrs_list PySem.F.slot_list_extend PySem.F.type_list_extend mt_extend (pe_v 1) (pa_cons' (pe_lstN (pa_cons' (pe_b2 (fIsiE_ok fx.ei) fx.b_isinstance PyProof.Rows.boot_isinstance (pe_v 0) (pe_glo rfl (fx.g_BadOther))) (pa_cons' (pe_b2 (fIsiE_ok fx.ei) fx.b_isinstance PyProof.Rows.boot_isinstance (pe_v 0) (pe_glo rfl (fx.g_BadParting))) pa_nil')) (an_cons (an_cons an_nil))) pa_nil')) (fun _ _ _ _ _ r h => kLst_ty r h) mExtO_ok)))
 (pss_cons' (ps_exp (ps_expr (pe_mut (pe_w PySem.F.plainAttrs_list PySem.F.slot_list_extend PySem.F.type_list_extend mt_extend (pe_v 1) (pa_cons' (pe_lstN (pa_cons' (pe_b2 (fIsiE_ok fx.ei) fx.b_isinstance PyProof.Rows.boot_isinstance (pe_v 0) (pe_glo rfl (fx.g_BadPicture))) (pa_cons' (pe_b2 (fIsiE_ok fx.ei) fx.b_isinstance PyProof.Rows.boot_isinstance (pe_v 0) (pe_glo rfl (fx.g_BadPlaces))) pa_nil')) (an_cons (an_cons an_nil))) pa_nil')) (fun _ _ _ _ _ r h => kLst_ty r h) mExtO_ok)))
 (pss_cons' (ps_exp (ps_expr (pe_mut (pe_w PySem.F.plainAttrs_list PySem.F.slot_list_extend PySem.F.type_list_extend mt_extend (pe_v 1) (pa_cons' (pe_lstN (pa_cons' (pe_b2 (fIsiE_ok fx.ei) fx.b_isinstance PyProof.Rows.boot_isinstance (pe_v 0) (pe_glo rfl (fx.g_BadPrice))) (pa_cons' (pe_b2 (fIsiE_ok fx.ei) fx.b_isinstance PyProof.Rows.boot_isinstance (pe_v 0) (pe_glo rfl (fx.g_BadPriced))) pa_nil')) (an_cons (an_cons an_nil))) pa_nil')) (fun _ _ _ _ _ r h => kLst_ty r h) mExtO_ok)))
 (pss_cons' (ps_exp (ps_expr (pe_mut (pe_w PySem.F.plainAttrs_list PySem.F.slot_list_extend PySem.F.type_list_extend mt_extend (pe_v 1) (pa_cons' (pe_lstN (pa_cons' (pe_b2 (fIsiE_ok fx.ei) fx.b_isinstance PyProof.Rows.boot_isinstance (pe_v 0) (pe_glo rfl (fx.g_BadPulls))) (pa_cons' (pe_b2 (fIsiE_ok fx.ei) fx.b_isinstance PyProof.Rows.boot_isinstance (pe_v 0) (pe_glo rfl (fx.g_BadQuestion))) pa_nil')) (an_cons (an_cons an_nil))) pa_nil')) (fun _ _ _ _ _ r h => kLst_ty r h) mExtO_ok)))
 (pss_cons' (ps_exp (ps_expr (pe_mut (pe_w PySem.F.plainAttrs_list PySem.F.slot_list_extend PySem.F.type_list_extend mt_extend (pe_v 1) (pa_cons' (pe_lstN (pa_cons' (pe_b2 (fIsiE_ok fx.ei) fx.b_isinstance PyProof.Rows.boot_isinstance (pe_v 0) (pe_glo rfl (fx.g_BadRoots))) (pa_cons' (pe_b2 (fIsiE_ok fx.ei) fx.b_isinstance PyProof.Rows.boot_isinstance (pe_v 0) (pe_glo rfl (fx.g_BadRows))) pa_nil')) (an_cons (an_cons an_nil))) pa_nil')) (fun _ _ _ _ _ r h => kLst_ty r h) mExtO_ok)))
 (pss_cons' (ps_exp (ps_expr (pe_mut (pe_w PySem.F.plainAttrs_list PySem.F.slot_list_extend PySem.F.type_list_extend mt_extend (pe_v 1) (pa_cons' (pe_lstN (pa_cons' (pe_b2 (fIsiE_ok fx.ei) fx.b_isinstance PyProof.Rows.boot_isinstance (pe_v 0) (pe_glo rfl (fx.g_BadSession))) (pa_cons' (pe_b2 (fIsiE_ok fx.ei) fx.b_isinstance PyProof.Rows.boot_isinstance (pe_v 0) (pe_glo rfl (fx.g_BadSharing))) pa_nil')) (an_cons (an_cons an_nil))) pa_nil')) (fun _ _ _ _ _ r h => kLst_ty r h) mExtO_ok)))
 (pss_cons' (ps_exp (ps_expr (pe_mut (pe_w PySem.F.plainAttrs_list PySem.F.slot_list_extend PySem.F.type_list_extend mt_extend (pe_v 1) (pa_cons' (pe_lstN (pa_cons' (pe_b2 (fIsiE_ok fx.ei) fx.b_isinstance PyProof.Rows.boot_isinstance (pe_v 0) (pe_glo rfl (fx.g_BadSome))) (pa_cons' (pe_b2 (fIsiE_ok fx.ei) fx.b_isinstance PyProof.Rows.boot_isinstance (pe_v 0) (pe_glo rfl (fx.g_BadSorter))) pa_nil')) (an_cons (an_cons an_nil))) pa_nil')) (fun _ _ _ _ _ r h => kLst_ty r h) mExtO_ok)))
 (pss_one' (ps_ret' (pe_vm 1)))))))))))))
theorem d_law_kinds_b (fx : Fx K mg) {fd : FuncData} (Fd : FunD K "_law_kinds_b" "_law_kinds_b" (defArgs st_law_kinds_b) (defBody st_law_kinds_b) (defScope st_law_kinds_b) [] [] (ga K "_law_kinds_b") fd) (hm : mg "_law_kinds_b" = some (.ref (ga K "_law_kinds_b"))) : Cal P w K mg base "_law_kinds_b" ["e"] (spP K T 1 F_law_kinds_b) 1 :=
  ⟨⟨fd, n_law_kinds_b fx Fd, Fd.bindsN (fun _ _ _ _ _ _ us hl => match us, hl with | [_], _ => rfl)⟩, hm, Fd.kp⟩
end
end K00
end
section
set_option Elab.async false
set_option linter.all false
set_option autoImplicit false
set_option maxRecDepth 100000
set_option maxHeartbeats 8000000
namespace K00
open PySem PySem.Spec PySem.W PyProof.Rows L2 IL LamX IS
section
variable {P : Program} {w : World} {K : PySem.W.Frag} {mg : Str → Option Value} {base : Heap} {T : Tb}
/-! ### _law_kinds -/
abbrev st_law_kinds : Stmt := (top 79)
theorem sc_law_kinds : FnScope ["e"] ["e"] (defScope st_law_kinds) := ⟨rfl, rfl, rfl, by decide +kernel, rfl, by decide +kernel, by decide +kernel⟩
theorem n_law_kinds (fx : Fx K mg) (c_law_kinds_d : Cal P w K mg base "_law_kinds_d" ["e"] (spP K T 1 F_law_kinds_d) 1) (c_law_kinds_c : Cal P w K mg base "_law_kinds_c" ["e"] (spP K T 1 F_law_kinds_c) 1) (c_law_kinds_a : Cal P w K mg base "_law_kinds_a" ["e"] (spP K T 1 F_law_kinds_a) 1) (c_law_kinds_b : Cal P w K mg base "_law_kinds_b" ["e"] (spP K T 1 F_law_kinds_b) 1) {fd : FuncData} (Fd : FunD K "_law_kinds" "_law_kinds" (defArgs st_law_kinds) (defBody st_law_kinds) (defScope st_law_kinds) [] [] (ga K "_law_kinds") fd) : FnOk P w K mg base (L2.CX P w) 2 (ga K "_law_kinds") fd ["e"] (spP K T 1 F_law_kinds) :=
  fnok_P (k := 1) (n := 0) Fd sc_law_kinds rfl fun cdv A outer s H E hr => by
    have R0 := hr.mono (Nat.zero_le _)
    have nd := sc_law_kinds.nd
    have tk : L2.Takes (cxOf (L2.CX P w) P w K mg base ["e"] "_law_kinds" (defScope st_law_kinds) (ga K "_law_kinds") cdv A outer s H E) (fun c d _ H => E c d H) := takes_of rfl rfl rfl rfl
    have px : Passes (L2.CX P w) (cxOf (L2.CX P w) P w K mg base ["e"] "_law_kinds" (defScope st_law_kinds) (ga K "_law_kinds") cdv A outer s H E) E := passes_call tk fun _ _ _ _ z => z
    have pown : PassesOwn (model P w) (cxOf (L2.CX P w) P w K mg base ["e"] "_law_kinds" (defScope st_law_kinds) (ga K "_law_kinds") cdv A outer s H E).A (cxOf (L2.CX P w) P w K mg base ["e"] "_law_kinds" (defScope st_law_kinds) (ga K "_law_kinds") cdv A outer s H E).env (cxOf (L2.CX P w) P w K mg base ["e"] "_law_kinds" (defScope st_law_kinds) (ga K "_law_kinds") cdv A outer s H E).xe := passes_of rfl
    exact (pss_one' (ps_ret' (pe_bin2 fAdd_ok (pe_bin2 fAdd_ok (pe_bin2 fAdd_ok (pe_fP c_law_kinds_a hr px (pp_cons (pe_v 0) pp_nil) (pn_cons pn_nil)) (pe_fP c_law_kinds_b hr px (pp_cons (pe_v 0) pp_nil) (pn_cons pn_nil))) (pe_fP c_law_kinds_c hr px (pp_cons (pe_v 0) pp_nil) (pn_cons pn_nil))) (pe_fP c_law_kinds_d hr px (pp_cons (pe_v 0) pp_nil) (pn_cons pn_nil)))))
theorem d_law_kinds (fx : Fx K mg) (c_law_kinds_d : Cal P w K mg base "_law_kinds_d" ["e"] (spP K T 1 F_law_kinds_d) 1) (c_law_kinds_c : Cal P w K mg base "_law_kinds_c" ["e"] (spP K T 1 F_law_kinds_c) 1) (c_law_kinds_a : Cal P w K mg base "_law_kinds_a" ["e"] (spP K T 1 F_law_kinds_a) 1) (c_law_kinds_b : Cal P w K mg base "_law_kinds_b" ["e"] (spP K T 1 F_law_kinds_b) 1) {fd : FuncData} (Fd : FunD K "_law_kinds" "_law_kinds" (defArgs st_law_kinds) (defBody st_law_kinds) (defScope st_law_kinds) [] [] (ga K "_law_kinds") fd) (hm : mg "_law_kinds" = some (.ref (ga K "_law_kinds"))) : Cal P w K mg base "_law_kinds" ["e"] (spP K T 1 F_law_kinds) 2 :=
  ⟨⟨fd, n_law_kinds fx c_law_kinds_d c_law_kinds_c c_law_kinds_a c_law_kinds_b Fd, Fd.bindsN (fun _ _ _ _ _ _ us hl => match us, hl with | [_], _ => rfl)⟩, hm, Fd.kp⟩
end
end K00
end
section
set_option Elab.async false
set_option linter.all false
set_option autoImplicit false
set_option maxRecDepth 100000
set_option maxHeartbeats 8000000
namespace K00
open PySem PySem.Spec PySem.W PyProof.Rows L2 IL LamX IS
section
variable {P : Program} {w : World} {K : PySem.W.Frag} {mg : Str → Option Value} {base : Heap} {T : Tb}
/-! ### _law_same -/
abbrev st_law_same : Stmt := (top 81)
theorem sc_law_same : FnScope ["found", "due", "x", "y"] ["found", "due"] (defScope st_law_same) := ⟨rfl, rfl, rfl, by decide +kernel, rfl, by decide +kernel, by decide +kernel⟩
theorem d_law_same (fx : Fx K mg) {fd : FuncData} (Fd : FunD K "_law_same" "_law_same" (defArgs st_law_same) (defBody st_law_same) (defScope st_law_same) [] [] (ga K "_law_same") fd) (hm : mg "_law_same" = some (.ref (ga K "_law_same"))) : ∀ n : Nat, Cal P w K mg base "_law_same" ["found", "due"] (spP K T 2 (F_law_same n)) (1 + n)
  | 0 => ⟨⟨fd, fnok_noP (k := 0) Fd sc_law_same, Fd.bindsN (fun _ _ _ _ _ _ us hl => match us, hl with | [_, _], _ => rfl)⟩, hm, Fd.kp⟩
  | n + 1 => by
    have slf := d_law_same fx Fd hm n
    exact ⟨⟨fd, fnok_P (k := 1 + n) (n := 2) Fd sc_law_same rfl fun cdv A outer s H E hr => by
      have R0 := hr.mono (Nat.zero_le _)
      have nd := sc_law_same.nd
      have tk : L2.Takes (cxOf (L2.CX P w) P w K mg base ["found", "due", "x", "y"] "_law_same" (defScope st_law_same) (ga K "_law_same") cdv A outer s H E) (fun c d _ H => E c d H) := takes_of rfl rfl rfl rfl
      have px : Passes (L2.CX P w) (cxOf (L2.CX P w) P w K mg base ["found", "due", "x", "y"] "_law_same" (defScope st_law_same) (ga K "_law_same") cdv A outer s H E) E := passes_call tk fun _ _ _ _ z => z
      have pown : PassesOwn (model P w) (cxOf (L2.CX P w) P w K mg base ["found", "due", "x", "y"] "_law_same" (defScope st_law_same) (ga K "_law_same") cdv A outer s H E).A (cxOf (L2.CX P w) P w K mg base ["found", "due", "x", "y"] "_law_same" (defScope st_law_same) (ga K "_law_same") cdv A outer s H E).env (cxOf (L2.CX P w) P w K mg base ["found", "due", "x", "y"] "_law_same" (defScope st_law_same) (ga K "_law_same") cdv A outer s H E).xe := passes_of rfl
      exact (pss_cons' (ps_if' (pt_cmp2 fIs_ok (pe_v 1) pe_n rfl) (pss_one' (ps_ret' (pe_cmp2 fIs_ok (pe_v 0) pe_n rfl))) pss_nil')
 (pss_cons' (ps_if' (IS.pt_val (pe_b2 (fIsiG_ok fx.fng) fx.b_isinstance PyProof.Rows.boot_isinstance (pe_v 1) (pe_ty fx.b_str PyProof.Rows.boot_str))) (pss_one' (ps_ret' (pe_and' (pe_b2 (fIsiG_ok fx.fng) fx.b_isinstance PyProof.Rows.boot_isinstance (pe_v 0) (pe_ty fx.b_str PyProof.Rows.boot_str)) (pe_last (pe_cmp2 (fEq_ok R0) (pe_v 0) (pe_v 1) rfl))))) pss_nil')
 (pss_cons' (ps_if' (IS.pt_val (pe_b2 (fIsiG_ok fx.fng) fx.b_isinstance PyProof.Rows.boot_isinstance (pe_v 1) (pe_tupN (pa_cons' (pe_ty fx.b_list PyProof.Rows.boot_list) (pa_cons' (pe_ty fx.b_tuple PyProof.Rows.boot_tuple) pa_nil')) (an_cons (an_cons an_nil))))) (pss_cons' (ps_if' (PW.pt (pw_or' (pt_cmp2 (fNe_ok R0) (pe_b2 (fIsiG_ok fx.fng) fx.b_isinstance PyProof.Rows.boot_isinstance (pe_v 0) (pe_ty fx.b_list PyProof.Rows.boot_list)) (pe_b2 (fIsiG_ok fx.fng) fx.b_isinstance PyProof.Rows.boot_isinstance (pe_v 1) (pe_ty fx.b_list PyProof.Rows.boot_list)) rfl) (pw_or1 (pt_cmp2 (fNe_ok R0) (pe_b2 (fIsiG_ok fx.fng) fx.b_isinstance PyProof.Rows.boot_isinstance (pe_v 0) (pe_ty fx.b_tuple PyProof.Rows.boot_tuple)) (pe_b2 (fIsiG_ok fx.fng) fx.b_isinstance PyProof.Rows.boot_isinstance (pe_v 1) (pe_ty fx.b_tuple PyProof.Rows.boot_tuple)) rfl)))) (pss_one' (ps_ret' pe_b)) pss_nil')
 (pss_one' (ps_ret' (pe_and' (pe_cmp2 (fEq_ok R0) (pe_b1 fLen_ok fx.b_len PySem.boot_len (pe_v 0)) (pe_b1 fLen_ok fx.b_len PySem.boot_len (pe_v 1)) rfl) (pe_last (pe_b1 (fAll_ok rfl) fx.b_all (by decide +kernel) (pe_lc' (own := [("x", 2), ("y", 3)]) rfl nd (pi_zip' rfl fx.b_zip (pa_cons' (pe_frz (pe_v 0)) (pa_cons' (pe_frz (pe_v 1)) pa_nil'))) (blkOk_by (by kernel_rfl)) (fun _ _ _ _ _ => (pg_unp rfl (pgs_cons' (pg_set (pg_name nd (i := 2) rfl (by first | exact Or.inl rfl | exact Or.inr rfl)) (by simp)) (pgs_cons' (pg_set (pg_name nd (i := 3) rfl (by first | exact Or.inl rfl | exact Or.inr rfl)) (by simp)) pgs_nil')) rfl)) (fun _ _ _ _ _ => pts_nil') (fun _ _ _ _ _ => (pe_fP slf hr px_blk (pp_cons (pe_v 2) (pp_cons (pe_v 3) pp_nil)) (pn_cons (pn_cons pn_nil))))))))))) pss_nil')
 (pss_cons' (ps_if' (IS.pt_val (pe_b2 (fIsiG_ok fx.fng) fx.b_isinstance PyProof.Rows.boot_isinstance (pe_v 1) (pe_ty fx.b_dict PyProof.Rows.boot_dict))) (pss_one' (ps_ret' (pe_and' (pe_b2 (fIsiG_ok fx.fng) fx.b_isinstance PyProof.Rows.boot_isinstance (pe_v 0) (pe_ty fx.b_dict PyProof.Rows.boot_dict)) (pe_last (pe_fP slf hr px (pp_cons (pe_items' rfl (pe_v 0) rfl fx.b_list PyProof.Rows.boot_list) (pp_cons (pe_items' rfl (pe_v 1) rfl fx.b_list PyProof.Rows.boot_list) pp_nil)) (pn_cons (pn_cons pn_nil))))))) pss_nil')
 (pss_one' (ps_ret' (pe_and' (pe_b2 (fIsiG_ok fx.fng) fx.b_isinstance PyProof.Rows.boot_isinstance (pe_v 0) (pe_ty fx.b_int PyProof.Rows.boot_int)) (pe_and' (pe_cmp2 (fEq_ok R0) (pe_b2 (fIsiG_ok fx.fng) fx.b_isinstance PyProof.Rows.boot_isinstance (pe_v 0) (pe_ty fx.b_bool PyProof.Rows.boot_bool)) (pe_b2 (fIsiG_ok fx.fng) fx.b_isinstance PyProof.Rows.boot_isinstance (pe_v 1) (pe_ty fx.b_bool PyProof.Rows.boot_bool)) rfl) (pe_last (pe_cmp2 (fEq_ok R0) (pe_v 0) (pe_v 1) rfl)))))))))), Fd.bindsN (fun _ _ _ _ _ _ us hl => match us, hl with | [_, _], _ => rfl)⟩, hm, Fd.kp⟩
end
end K00
end
section
set_option Elab.async false
set_option linter.all false
set_option autoImplicit false
set_option maxRecDepth 100000
set_option maxHeartbeats 8000000
namespace K00
open PySem PySem.Spec PySem.W PyProof.Rows L2 IL LamX IS
section
variable {P : Program} {w : World} {K : PySem.W.Frag} {mg : Str → Option Value} {base : Heap} {T : Tb}
/-! ### _law_are_these -/
abbrev st_law_are_these : Stmt := (top 82)
theorem sc_law_are_these : FnScope ["found", "due"] ["found", "due"] (defScope st_law_are_these) := ⟨rfl, rfl, rfl, by decide +kernel, rfl, by decide +kernel, by decide +kernel⟩
theorem n_law_are_these (fx : Fx K mg) (c_law_same : Cal P w K mg base "_law_same" ["found", "due"] (spP K T 2 (F_law_same 16)) 17) {fd : FuncData} (Fd : FunD K "_law_are_these" "_law_are_these" (defArgs st_law_are_these) (defBody st_law_are_these) (defScope st_law_are_these) [] [] (ga K "_law_are_these") fd) : FnOk P w K mg base (L2.CX P w) 18 (ga K "_law_are_these") fd ["found", "due"] (spP K T 2 F_law_are_these) :=
  fnok_P (k := 17) (n := 0) Fd sc_law_are_these rfl fun cdv A outer s H E hr => by
    have R0 := hr.mono (Nat.zero_le _)
    have nd := sc_law_are_these.nd
    have tk : L2.Takes (cxOf (L2.CX P w) P w K mg base ["found", "due"] "_law_are_these" (defScope st_law_are_these) (ga K "_law_are_these") cdv A outer s H E) (fun c d _ H => E c d H) := takes_of rfl rfl rfl rfl
    have px : Passes (L2.CX P w) (cxOf (L2.CX P w) P w K mg base ["found", "due"] "_law_are_these" (defScope st_law_are_these) (ga K "_law_are_these") cdv A outer s H E) E := passes_call tk fun _ _ _ _ z => z
    have pown : PassesOwn (model P w) (cxOf (L2.CX P w) P w K mg base ["found", "due"] "_law_are_these" (defScope st_law_are_these) (ga K "_law_are_these") cdv A outer s H E).A (cxOf (L2.CX P w) P w K mg base ["found", "due"] "_law_are_these" (defScope st_law_are_these) (ga K "_law_are_these") cdv A outer s H E).env (cxOf (L2.CX P w) P w K mg base ["found", "due"] "_law_are_these" (defScope st_law_are_these) (ga K "_law_are_these") cdv A outer s H E).xe := passes_of rfl
    exact (pss_one' (ps_ret' (pe_fP c_law_same hr px (pp_cons (pe_v 0) (pp_cons (pe_v 1) pp_nil)) (pn_cons (pn_cons pn_nil)))))
theorem d_law_are_these (fx : Fx K mg) (c_law_same : Cal P w K mg base "_law_same" ["found", "due"] (spP K T 2 (F_law_same 16)) 17) {fd : FuncData} (Fd : FunD K "_law_are_these" "_law_are_these" (defArgs st_law_are_these) (defBody st_law_are_these) (defScope st_law_are_these) [] [] (ga K "_law_are_these") fd) (hm : mg "_law_are_these" = some (.ref (ga K "_law_are_these"))) : Cal P w K mg base "_law_are_these" ["found", "due"] (spP K T 2 F_law_are_these) 18 :=
  ⟨⟨fd, n_law_are_these fx c_law_same Fd, Fd.bindsN (fun _ _ _ _ _ _ us hl => match us, hl with | [_, _], _ => rfl)⟩, hm, Fd.kp⟩
end
end K00
end
section
set_option Elab.async false
set_option linter.all false
set_option autoImplicit false
set_option maxRecDepth 100000
set_option maxHeartbeats 8000000
namespace K00
open PySem PySem.Spec PySem.W PyProof.Rows L2 IL LamX IS
section
variable {P : Program} {w : World} {K : PySem.W.Frag} {mg : Str → Option Value} {base : Heap} {T : Tb}
/-! ### _law_is_own -/
abbrev st_law_is_own : Stmt := (top 80)
theorem sc_law_is_own : FnScope ["e", "at", "k"] ["e", "at"] (defScope st_law_is_own) := ⟨rfl, rfl, rfl, by decide +kernel, rfl, by decide +kernel, by decide +kernel⟩
theorem n_law_is_own (fx : Fx K mg) (c_law_kinds : Cal P w K mg base "_law_kinds" ["e"] (spP K T 1 F_law_kinds) 2) {fd : FuncData} (Fd : FunD K "_law_is_own" "_law_is_own" (defArgs st_law_is_own) (defBody st_law_is_own) (defScope st_law_is_own) [] [] (ga K "_law_is_own") fd) : FnOk P w K mg base (L2.CX P w) 3 (ga K "_law_is_own") fd ["e", "at"] (spP K T 2 F_law_is_own) :=
  fnok_P (k := 2) (n := 1) Fd sc_law_is_own rfl fun cdv A outer s H E hr => by
    have R0 := hr.mono (Nat.zero_le _)
    have nd := sc_law_is_own.nd
    have tk : L2.Takes (cxOf (L2.CX P w) P w K mg base ["e", "at", "k"] "_law_is_own" (defScope st_law_is_own) (ga K "_law_is_own") cdv A outer s H E) (fun c d _ H => E c d H) := takes_of rfl rfl rfl rfl
    have px : Passes (L2.CX P w) (cxOf (L2.CX P w) P w K mg base ["e", "at", "k"] "_law_is_own" (defScope st_law_is_own) (ga K "_law_is_own") cdv A outer s H E) E := passes_call tk fun _ _ _ _ z => z
    have pown : PassesOwn (model P w) (cxOf (L2.CX P w) P w K mg base ["e", "at", "k"] "_law_is_own" (defScope st_law_is_own) (ga K "_law_is_own") cdv A outer s H E).A (cxOf (L2.CX P w) P w K mg base ["e", "at", "k"] "_law_is_own" (defScope st_law_is_own) (ga K "_law_is_own") cdv A outer s H E).env (cxOf (L2.CX P w) P w K mg base ["e", "at", "k"] "_law_is_own" (defScope st_law_is_own) (ga K "_law_is_own") cdv A outer s H E).xe := passes_of rfl
    exact (pss_cons' (ps_if' (PW.pt (pw_or' (pt_not' (IS.pt_val (pe_b2 (fIsiE_ok fx.ei) fx.b_isinstance PyProof.Rows.boot_isinstance (pe_v 0) (pe_glo rfl (fx.g_NestError))))) (pw_or1 (pt_not' (IS.pt_val (pe_b2 (fIsiE_ok fx.ei) fx.b_isinstance PyProof.Rows.boot_isinstance (pe_v 0) (pe_ty fx.b_ValueError (by decide +kernel)))))))) (pss_one' (ps_ret' pe_b)) pss_nil')
 (pss_cons' (ps_if' (PW.pt (pw_or' (IS.pt_val (pe_b2 (fIsiE_ok fx.ei) fx.b_isinstance PyProof.Rows.boot_isinstance (pe_v 0) (pe_ty fx.b_LookupError (by decide +kernel)))) (pw_or' (IS.pt_val (pe_b2 (fIsiE_ok fx.ei) fx.b_isinstance PyProof.Rows.boot_isinstance (pe_v 0) (pe_ty fx.b_ArithmeticError (by decide +kernel)))) (pw_or1 (IS.pt_val (pe_b2 (fIsiE_ok fx.ei) fx.b_isinstance PyProof.Rows.boot_isinstance (pe_v 0) (pe_ty fx.b_TypeError (by decide +kernel)))))))) (pss_one' (ps_ret' pe_b)) pss_nil')
 (pss_one' (ps_ret' (pe_cmp2 (fEq_ok R0) (pe_fP c_law_kinds hr px (pp_cons (pe_v 0) pp_nil) (pn_cons pn_nil)) (pe_lc' (own := [("k", 2)]) rfl nd (pi_range1' rfl fx.b_range (pa_cons' pe_i pa_nil')) (blkOk_by (by kernel_rfl)) (fun _ _ _ _ _ => (pg_set (pg_name nd (i := 2) rfl (by first | exact Or.inl rfl | exact Or.inr rfl)) (by simp))) (fun _ _ _ _ _ => pts_nil') (fun _ _ _ _ _ => (pe_cmp2 (fEq_ok R0) (pe_v 2) (pe_v 1) rfl))) rfl)))))
theorem d_law_is_own (fx : Fx K mg) (c_law_kinds : Cal P w K mg base "_law_kinds" ["e"] (spP K T 1 F_law_kinds) 2) {fd : FuncData} (Fd : FunD K "_law_is_own" "_law_is_own" (defArgs st_law_is_own) (defBody st_law_is_own) (defScope st_law_is_own) [] [] (ga K "_law_is_own") fd) (hm : mg "_law_is_own" = some (.ref (ga K "_law_is_own"))) : Cal P w K mg base "_law_is_own" ["e", "at"] (spP K T 2 F_law_is_own) 3 :=
  ⟨⟨fd, n_law_is_own fx c_law_kinds Fd, Fd.bindsN (fun _ _ _ _ _ _ us hl => match us, hl with | [_, _], _ => rfl)⟩, hm, Fd.kp⟩
end
end K00
end
section
set_option Elab.async false
set_option linter.all false
set_option autoImplicit false
set_option maxRecDepth 100000
set_option maxHeartbeats 8000000
namespace K00
open PySem PySem.Spec PySem.W PyProof.Rows L2 IL LamX IS
section
variable {P : Program} {w : World} {K : PySem.W.Frag} {mg : Str → Option Value} {base : Heap} {T : Tb}
/-! ### law -/
abbrev st_law : Stmt := (top 83)
theorem sc_law : FnScope ["script", "stream", "some", "turn", "x", "y", "z", "made", "at", "mine", "twin", "field", "due", "held", "base"] ["script"] (defScope st_law) := ⟨rfl, rfl, rfl, by decide +kernel, rfl, by decide +kernel, by decide +kernel⟩
theorem n_law (fx : Fx K mg) (c_law_start : Cal P w K mg base "_law_start" ["script"] (spP K T 1 F_law_start) 1) (c_law_made_c : Cal P w K mg base "_law_made_c" ["x", "y", "z"] (spP K T 3 F_law_made_c) 4) (c_law_made_d : Cal P w K mg base "_law_made_d" ["x", "y", "z"] (spP K T 3 F_law_made_d) 4) (c_law_mixed : Cal P w K mg base "_law_mixed" ["stream", "some"] (spM K T 1 F_law_mixed) 2) (c_law_made_a : Cal P w K mg base "_law_made_a" ["x", "y", "z"] (spP K T 3 F_law_made_a) 4) (c_law_made_b : Cal P w K mg base "_law_made_b" ["x", "y", "z"] (spP K T 3 F_law_made_b) 4) (c_law_kinds : Cal P w K mg base "_law_kinds" ["e"] (spP K T 1 F_law_kinds) 2) (c_law_are_these : Cal P w K mg base "_law_are_these" ["found", "due"] (spP K T 2 F_law_are_these) 18) (c_law_is_own : Cal P w K mg base "_law_is_own" ["e", "at"] (spP K T 2 F_law_is_own) 3) (ez_NestError : Ez0 K mg "NestError") (hL : ∀ (x : Str) (r : LamR) (F : Fp), lt_law.lookup x = some (r, F) → LamOk P w K mg base 1 r (spP K T 1 F)) {fd : FuncData} (Fd : FunD K "law" "law" (defArgs st_law) (defBody st_law) (defScope st_law) [] [] (ga K "law") fd) : FnOk P w K mg base (L2.CX P w) 19 (ga K "law") fd ["script"] (spP K T 1 F_law) :=
  fnok_P (k := 18) (n := 14) Fd sc_law rfl fun cdv A outer s H E hr => by
    have R0 := hr.mono (Nat.zero_le _)
    have nd := sc_law.nd
    have tk : L2.Takes (cxOf (L2.CX P w) P w K mg base ["script", "stream", "some", "turn", "x", "y", "z", "made", "at", "mine", "twin", "field", "due", "held", "base"] "law" (defScope st_law) (ga K "law") cdv A outer s H E) (fun c d _ H => E c d H) := takes_of rfl rfl rfl rfl
    have px : Passes (L2.CX P w) (cxOf (L2.CX P w) P w K mg base ["script", "stream", "some", "turn", "x", "y", "z", "made", "at", "mine", "twin", "field", "due", "held", "base"] "law" (defScope st_law) (ga K "law") cdv A outer s H E) E := passes_call tk fun _ _ _ _ z => z
    have pown : PassesOwn (model P w) (cxOf (L2.CX P w) P w K mg base ["script", "stream", "some", "turn", "x", "y", "z", "made", "at", "mine", "twin", "field", "due", "held", "base"] "law" (defScope st_law) (ga K "law") cdv A outer s H E).A (cxOf (L2.CX P w) P w K mg base ["script", "stream", "some", "turn", "x", "y", "z", "made", "at", "mine", "twin", "field", "due", "held", "base"] "law" (defScope st_law) (ga K "law") cdv A outer s H E).env (cxOf (L2.CX P w) P w K mg base ["script", "stream", "some", "turn", "x", "y", "z", "made", "at", "mine", "twin", "field", "due", "held", "base"] "law" (defScope st_law) (ga K "law") cdv A outer s H E).xe := passes_of rfl
    exact (pss_cons' (ps_asg' (ps_asg (pe_own (pe_fP c_law_start hr px (pp_cons (pe_v 0) pp_nil) (pn_cons pn_nil))) (pg_set (pg_name nd (i := 1) rfl (by first | exact Or.inl rfl | exact Or.inr rfl)) trivial)))
 (pss_cons' (ps_asg' (ps_asg (pe_own (pe_frz (pe_lstN (pa_cons' pe_n (pa_cons' pe_i (pa_cons' (pe_un1 fNeg_ok pe_i) (pa_cons' pe_b (pa_cons' (pe_s (by rw [sl_sz]; decide +kernel)) (pa_cons' (pe_s (by rw [sl_sz]; decide +kernel)) (pa_cons' (pe_lstN (pa_cons' pe_i (pa_cons' (pe_s (by rw [sl_sz]; decide +kernel)) pa_nil')) (an_cons (an_cons an_nil))) (pa_cons' (pe_tupN (pa_cons' pe_i (pa_cons' pe_n pa_nil')) (an_cons (an_cons an_nil))) (pa_cons' (pe_dsp1 (pe_s (by rw [sl_sz]; decide +kernel)) pe_i) (pa_cons' (pe_lstN (pa_cons' (pe_lstN (pa_cons' (pe_s (by rw [sl_sz]; decide +kernel)) pa_nil') (an_cons an_nil)) pa_nil') (an_cons an_nil)) (pa_cons' (pe_bin2 fPow_ok pe_i pe_i) (pa_cons' (pe_tupN (pa_cons' (pe_s (by rw [sl_sz]; decide +kernel)) (pa_cons' pe_i pa_nil')) (an_cons (an_cons an_nil))) (pa_cons' pe_b (pa_cons' pe_i (pa_cons' pe_i pa_nil'))))))))))))))) (an_cons (an_cons (an_cons (an_cons (an_cons (an_cons (an_cons (an_cons (an_cons (an_cons (an_cons (an_cons (an_cons (an_cons (an_cons an_nil)))))))))))))))))) (pg_set (pg_name nd (i := 2) rfl (by first | exact Or.inl rfl | exact Or.inr rfl)) trivial)))
 (pss_cons' (ps_for' (ps_for pown rfl (pi_range1' rfl fx.b_range (pa_cons' pe_i pa_nil')) (pg_set (pg_name nd (i := 3) rfl (by first | exact Or.inl rfl | exact Or.inr rfl)) trivial)
 (pss_cons' (ps_asg' (ps_asg (pe_own (pe_frz (pe_sl01 (pe_fM c_law_mixed hr px (pe_v 1) (pp_cons (pe_v 2) pp_nil) (pn_cons pn_nil))  pe_i))) (pg_unp rfl (pgs_cons' (pg_set (pg_name nd (i := 4) rfl (by first | exact Or.inl rfl | exact Or.inr rfl)) trivial) (pgs_cons' (pg_set (pg_name nd (i := 5) rfl (by first | exact Or.inl rfl | exact Or.inr rfl)) trivial) (pgs_cons' (pg_set (pg_name nd (i := 6) rfl (by first | exact Or.inl rfl | exact Or.inr rfl)) trivial) pgs_nil'))) rfl)))
 (pss_cons' (ps_asg' (ps_asg (pe_own (pe_bin2 fAdd_ok (pe_bin2 fAdd_ok (pe_fP c_law_made_a hr px (pp_cons (pe_v 4) (pp_cons (pe_v 5) (pp_cons (pe_v 6) pp_nil))) (pn_cons (pn_cons (pn_cons pn_nil)))) (pe_fP c_law_made_b hr px (pp_cons (pe_v 4) (pp_cons (pe_v 5) (pp_cons (pe_v 6) pp_nil))) (pn_cons (pn_cons (pn_cons pn_nil))))) (pe_fP c_law_made_c hr px (pp_cons (pe_v 4) (pp_cons (pe_v 5) (pp_cons (pe_v 6) pp_nil))) (pn_cons (pn_cons (pn_cons pn_nil)))))) (pg_set (pg_name nd (i := 7) rfl (by first | exact Or.inl rfl | exact Or.inr rfl)) trivial)))
 (pss_cons' (ps_exp (ps_expr (pe_mut (pe_w PySem.F.plainAttrs_list PySem.F.slot_list_extend PySem.F.type_list_extend mt_extend (pe_v 7) (pa_cons' (pe_fP c_law_made_d hr px (pp_cons (pe_v 4) (pp_cons (pe_v 5) (pp_cons (pe_v 6) pp_nil))) (pn_cons (pn_cons (pn_cons pn_nil)))) pa_nil')) (fun _ _ _ _ _ r h => kLst_ty r h) mExtO_ok)))
 (pss_one' (ps_for' (ps_for pown rfl (pi_enum2' rfl fx.b_enumerate (pa_cons' (pe_frz (pe_v 7)) pa_nil')) (pg_unp rfl (pgs_cons' (pg_set (pg_name nd (i := 8) rfl (by first | exact Or.inl rfl | exact Or.inr rfl)) trivial) (pgs_cons' (pg_unp rfl (pgs_cons' (pg_set (pg_name nd (i := 9) rfl (by first | exact Or.inl rfl | exact Or.inr rfl)) trivial) (pgs_cons' (pg_set (pg_name nd (i := 10) rfl (by first | exact Or.inl rfl | exact Or.inr rfl)) trivial) (pgs_cons' (pg_set (pg_name nd (i := 11) rfl (by first | exact Or.inl rfl | exact Or.inr rfl)) trivial) (pgs_cons' (pg_set (pg_name nd (i := 12) rfl (by first | exact Or.inl rfl | exact Or.inr rfl)) trivial) pgs_nil')))) rfl) pgs_nil')) rfl)
 (pss_cons' (ps_if' (PW.pt (pw_or' (pt_not' (IS.pt_val (pe_fP c_law_is_own hr px (pp_cons (pe_v 9) (pp_cons (pe_v 8) pp_nil)) (pn_cons (pn_cons pn_nil))))) (pw_or1 (pt_not' (IS.pt_val (pe_fP c_law_is_own hr px (pp_cons (pe_v 10) (pp_cons (pe_v 8) pp_nil)) (pn_cons (pn_cons pn_nil)))))))) (pss_one' (ps_ret' pe_b)) pss_nil')
 (pss_one' (ps_if' (PW.pt (pw_or' (pt_not' (IS.pt_val (pe_fP c_law_are_these hr px (pp_cons (pe_callL (n := 1) hL hr px (pp_cons (pe_v 9) pp_nil) (pn_cons pn_nil) rfl (by first | exact Or.inl rfl | exact Or.inr (Or.inl rfl) | exact Or.inr (Or.inr rfl))) (pp_cons (pe_v 12) pp_nil)) (pn_cons (pn_cons pn_nil))))) (pw_or1 (pt_not' (IS.pt_val (pe_fP c_law_are_these hr px (pp_cons (pe_callL (n := 1) hL hr px (pp_cons (pe_v 10) pp_nil) (pn_cons pn_nil) rfl (by first | exact Or.inl rfl | exact Or.inr (Or.inl rfl) | exact Or.inr (Or.inr rfl))) (pp_cons (pe_v 12) pp_nil)) (pn_cons (pn_cons pn_nil)))))))) (pss_one' (ps_ret' pe_b)) pss_nil')))))))))))
 (pss_cons' (ps_asg' (ps_asg (pe_own (pe_lstN (pa_cons' (pe_s (by rw [sl_sz]; decide +kernel)) pa_nil') (an_cons an_nil))) (pg_set (pg_name nd (i := 13) rfl (by first | exact Or.inl rfl | exact Or.inr rfl)) trivial)))
 (pss_cel (body := [_, _]) (i := 13) (fun _ _ => .str _ (by rw [sl_sz]; decide +kernel)) (pss_cons' (ps_asg' (ps_asg (pe_own (pe_bin2 fAdd_ok (pe_bin2 fAdd_ok (pe_fP c_law_made_a hr px (pp_cons (pe_v 13) (pp_cons (pe_v 13) (pp_cons (pe_v 13) pp_nil))) (pn_cons (pn_cons (pn_cons pn_nil)))) (pe_fP c_law_made_b hr px (pp_cons (pe_v 13) (pp_cons (pe_v 13) (pp_cons (pe_v 13) pp_nil))) (pn_cons (pn_cons (pn_cons pn_nil))))) (pe_fP c_law_made_c hr px (pp_cons (pe_v 13) (pp_cons (pe_v 13) (pp_cons (pe_v 13) pp_nil))) (pn_cons (pn_cons (pn_cons pn_nil)))))) (pg_set (pg_name nd (i := 7) rfl (by first | exact Or.inl rfl | exact Or.inr rfl)) trivial)))
 (pss_one' (ps_exp (ps_expr (pe_mut (pe_w PySem.F.plainAttrs_list PySem.F.slot_list_extend PySem.F.type_list_extend mt_extend (pe_v 7) (pa_cons' (pe_fP c_law_made_d hr px (pp_cons (pe_v 13) (pp_cons (pe_v 13) (pp_cons (pe_v 13) pp_nil))) (pn_cons (pn_cons (pn_cons pn_nil)))) pa_nil')) (fun _ _ _ _ _ r h => kLst_ty r h) mExtO_ok))))) (ps_expr (pe_w PySem.F.plainAttrs_list PySem.F.slot_list_append PySem.F.type_list_append mt_append (pe_var (i := 13) rfl (by first | exact Or.inl rfl | exact Or.inr (Or.inl rfl) | exact Or.inr (Or.inr rfl)) (by decide) (by decide)) (pa_cons pe_str pa_nil))) (pss_cons' (ps_for' (ps_for pown rfl (pi_mem (pe_frz (pe_v 7))) (pg_unp rfl (pgs_cons' (pg_set (pg_name nd (i := 9) rfl (by first | exact Or.inl rfl | exact Or.inr rfl)) trivial) (pgs_cons' (pg_set (pg_name nd (i := 10) rfl (by first | exact Or.inl rfl | exact Or.inr rfl)) trivial) (pgs_cons' (pg_set (pg_name nd (i := 11) rfl (by first | exact Or.inl rfl | exact Or.inr rfl)) trivial) (pgs_cons' (pg_set (pg_name nd (i := 12) rfl (by first | exact Or.inl rfl | exact Or.inr rfl)) trivial) pgs_nil')))) rfl)
 (pss_one' (ps_if' (PW.pt (pw_or' (pt_not' (IS.pt_val (pe_fP c_law_are_these hr px (pp_cons (pe_callL (n := 1) hL hr px (pp_cons (pe_v 9) pp_nil) (pn_cons pn_nil) rfl (by first | exact Or.inl rfl | exact Or.inr (Or.inl rfl) | exact Or.inr (Or.inr rfl))) (pp_cons (pe_v 12) pp_nil)) (pn_cons (pn_cons pn_nil))))) (pw_or1 (pt_not' (IS.pt_val (pe_fP c_law_are_these hr px (pp_cons (pe_callL (n := 1) hL hr px (pp_cons (pe_v 10) pp_nil) (pn_cons pn_nil) rfl (by first | exact Or.inl rfl | exact Or.inr (Or.inl rfl) | exact Or.inr (Or.inr rfl))) (pp_cons (pe_v 12) pp_nil)) (pn_cons (pn_cons pn_nil)))))))) (pss_one' (ps_ret' pe_b)) pss_nil'))))
 (pss_cons' (ps_asg' (ps_asg (pe_own (pe_frz (pe_ez0 ez_NestError))) (pg_set (pg_name nd (i := 14) rfl (by first | exact Or.inl rfl | exact Or.inr rfl)) trivial)))
 (pss_one' (ps_ret' (pe_and' (pe_b2 (fIsiE_ok fx.ei) fx.b_isinstance PyProof.Rows.boot_isinstance (pe_v 14) (pe_ty fx.b_ValueError (by decide +kernel))) (pe_last (pe_cmp2 (fNotIn_ok R0) pe_b (pe_fP c_law_kinds hr px (pp_cons (pe_v 14) pp_nil) (pn_cons pn_nil)) rfl))))))))))))
end
end K00
end
section
set_option Elab.async false
set_option linter.all false
set_option autoImplicit false
set_option maxRecDepth 100000
set_option maxHeartbeats 0
namespace K00
open PySem PySem.Spec PySem.W PyProof.Rows L2 IL LamX IS
/-- a def's own name -/
def dq (p : He.Defn) : Str := match p.2 with
  | none => p.1
  | some m => p.1 ++ "." ++ m
theorem fnB_ok {K : PySem.W.Frag} {gl : List Str} (h : fnB K gl = true) : FnG K gl := fun x hx => by
  have := List.all_eq_true.mp h x hx
  split at this
  · rename_i c d e f ho
    exact ⟨_, ho, congrArg Value.type (of_decide_eq_true this)⟩
  · cases this
theorem lamB_ok {K : PySem.W.Frag} {l : List He.Defn} (h : lamB K l = true) : ∀ n ∈ l, ∀ m ∈ l, (He.cT K n).2 = (He.cT K m).2 → n = m := fun n hn m hm e => by
  have := List.all_eq_true.mp (List.all_eq_true.mp h n hn) m hm
  simp only [Bool.or_eq_true, decide_eq_true_eq] at this
  rcases this with q | q
  · exact q
  · exact absurd e q

theorem ob_eq (s : PySem.W.SharedT) : ob s = hk.obs s.abs := HookY.obsY_eq (HandSHeadRun.getT_eq s)
theorem lam_ne {w : World} {K : PySem.W.Frag} {h : Heap} (c : He.SaysX fa fn [] tf ex w h K) : ∀ n ∈ tf, ∀ m ∈ tf, (He.cT K n).2 = (He.cT K m).2 → n = m := by
  have hex := c.more
  unfold ex ex1 ex2 ex3 ex4 ex5 ex6 ex7 ex8 at hex
  simp only [Bool.and_eq_true] at hex
  obtain ⟨⟨e_fn, e_lam, e_ei, e_ef_fault, e_ef_index, e_ef_line, e_ef_lot, e_ef_one⟩, ⟨e_ef_other, e_ef_place, e_ef_question, e_ef_sign, e_ef_thing, e_ef_why⟩, ⟨e_ez_BadDeed, e_ez_BadForest, e_ez_BadForm, e_ez_BadFrame, e_ez_BadFrames, e_ez_BadGauge, e_ez_BadGrove, e_ez_BadHeight, e_ez_BadHigh, e_ez_BadHollow, e_ez_BadKind⟩, ⟨e_ez_BadLevels, e_ez_BadLosses, e_ez_BadLot, e_ez_BadLots, e_ez_BadLow, e_ez_BadMany, e_ez_BadMost, e_ez_BadName, e_ez_BadNest, e_ez_BadNumber, e_ez_BadOrder⟩, ⟨e_ez_BadOther, e_ez_BadParting, e_ez_BadPicture, e_ez_BadPlaces, e_ez_BadPrice, e_ez_BadPriced, e_ez_BadPulls, e_ez_BadQuestion, e_ez_BadRoots, e_ez_BadRows, e_ez_BadSession⟩, ⟨e_ez_BadSharing, e_ez_BadSome, e_ez_BadSorter, e_ez_BadSplit, e_ez_BadTable, e_ez_BadText, e_ez_BadTies, e_ez_BadTold, e_ez_BadTree, e_ez_BadTriple, e_ez_BadTriples⟩, ⟨e_ez_BadTwice, e_ez_BadWeb, e_ez_Crossing, e_ez_InUse, e_ez_IsThere, e_ez_IsWatched, e_ez_NestError, e_ez_NoCount, e_ez_NoFrame, e_ez_NoLot, e_ez_NoParts⟩, e_ez_NoPlace, e_ez_NoRoot, e_ez_NoTie, e_ez_NotFull, e_ez_NotNow, e_ez_NotThere, e_ez_NotWatched, e_ez_OtherPlaces, e_ez_SamePlace, e_ez_SavesNothing, e_ez_WouldChange⟩ := hex
  exact lamB_ok e_lam
theorem facts {P : Program} {w : World} {K : PySem.W.Frag} {h : Heap} {mg : Str → Option Value} {T : Tb} (X : K.In h) (G : h.Ns mainGlobals mg) (c : He.SaysX fa fn [] tf ex w h K) (hT : ∀ n ∈ tf, ((He.cT K n).2, dq n ++ ".<locals>." ++ "<lambda>") ∈ T ∧ ∀ p ∈ T, p.1 = (He.cT K n).2 → p.2 = dq n ++ ".<locals>." ++ "<lambda>") :
    ∃ fd : FuncData, (∀ (s : Shared) (v : Value), BindsTo s fd ⟨[v], []⟩ [("script", v)]) ∧ mg "law" = some (.ref (ga K "law")) ∧ ∀ base : Heap, (∀ p ∈ tf.map (He.cT K), TabB base mg p.1 p.2) → FnOk P w K mg base (L2.CX P w) 19 (ga K "law") fd ["script"] (spP K T 1 F_law) := by
  have cd : He.SaysD fa fn K := congrArg (fun z : He.AlT => z.1) c.t
  have gl : ∀ (i : Nat) (x : Str), fa[i]? = some (.glo x) → mg x = some (.ref (ga K x)) := fun i x e => He.glo_ok X G (cd.fact i (f := .glo x) e)
  have fr : ∀ (i : Nat) (x : Str), fa[i]? = some (.free x) → mg x = none := fun i x e => He.free_ok X G (cd.fact i (f := .free x) e)
  have hex := c.more
  unfold ex ex1 ex2 ex3 ex4 ex5 ex6 ex7 ex8 at hex
  simp only [Bool.and_eq_true] at hex
  obtain ⟨⟨e_fn, e_lam, e_ei, e_ef_fault, e_ef_index, e_ef_line, e_ef_lot, e_ef_one⟩, ⟨e_ef_other, e_ef_place, e_ef_question, e_ef_sign, e_ef_thing, e_ef_why⟩, ⟨e_ez_BadDeed, e_ez_BadForest, e_ez_BadForm, e_ez_BadFrame, e_ez_BadFrames, e_ez_BadGauge, e_ez_BadGrove, e_ez_BadHeight, e_ez_BadHigh, e_ez_BadHollow, e_ez_BadKind⟩, ⟨e_ez_BadLevels, e_ez_BadLosses, e_ez_BadLot, e_ez_BadLots, e_ez_BadLow, e_ez_BadMany, e_ez_BadMost, e_ez_BadName, e_ez_BadNest, e_ez_BadNumber, e_ez_BadOrder⟩, ⟨e_ez_BadOther, e_ez_BadParting, e_ez_BadPicture, e_ez_BadPlaces, e_ez_BadPrice, e_ez_BadPriced, e_ez_BadPulls, e_ez_BadQuestion, e_ez_BadRoots, e_ez_BadRows, e_ez_BadSession⟩, ⟨e_ez_BadSharing, e_ez_BadSome, e_ez_BadSorter, e_ez_BadSplit, e_ez_BadTable, e_ez_BadText, e_ez_BadTies, e_ez_BadTold, e_ez_BadTree, e_ez_BadTriple, e_ez_BadTriples⟩, ⟨e_ez_BadTwice, e_ez_BadWeb, e_ez_Crossing, e_ez_InUse, e_ez_IsThere, e_ez_IsWatched, e_ez_NestError, e_ez_NoCount, e_ez_NoFrame, e_ez_NoLot, e_ez_NoParts⟩, e_ez_NoPlace, e_ez_NoRoot, e_ez_NoTie, e_ez_NotFull, e_ez_NotNow, e_ez_NotThere, e_ez_NotWatched, e_ez_OtherPlaces, e_ez_SamePlace, e_ez_SavesNothing, e_ez_WouldChange⟩ := hex
  have fx : Fx K mg := ⟨fr 82 "len" rfl, fr 83 "isinstance" rfl, fr 84 "all" rfl, fr 85 "list" rfl, fr 86 "tuple" rfl, fr 87 "int" rfl, fr 88 "str" rfl, fr 89 "dict" rfl, fr 90 "bool" rfl, fr 91 "range" rfl, fr 92 "enumerate" rfl, fr 93 "zip" rfl, fr 94 "ValueError" rfl, fr 95 "LookupError" rfl, fr 96 "ArithmeticError" rfl, fr 97 "TypeError" rfl, fnB_ok e_fn, gl 0 "NestError" rfl, gl 1 "BadDeed" rfl, gl 2 "BadForest" rfl, gl 3 "BadForm" rfl, gl 4 "BadFrame" rfl, gl 5 "BadFrames" rfl, gl 6 "BadGauge" rfl, gl 7 "BadGrove" rfl, gl 8 "BadHeight" rfl, gl 9 "BadHigh" rfl, gl 10 "BadHollow" rfl, gl 11 "BadKind" rfl, gl 12 "BadLevels" rfl, gl 13 "BadLosses" rfl, gl 14 "BadLot" rfl, gl 15 "BadLots" rfl, gl 16 "BadLow" rfl, gl 17 "BadMany" rfl, gl 18 "BadMost" rfl, gl 19 "BadName" rfl, gl 20 "BadNest" rfl, gl 21 "BadNumber" rfl, gl 22 "BadOrder" rfl, gl 23 "BadOther" rfl, gl 24 "BadParting" rfl, gl 25 "BadPicture" rfl, gl 26 "BadPlaces" rfl, gl 27 "BadPrice" rfl, gl 28 "BadPriced" rfl, gl 29 "BadPulls" rfl, gl 30 "BadQuestion" rfl, gl 31 "BadRoots" rfl, gl 32 "BadRows" rfl, gl 33 "BadSession" rfl, gl 34 "BadSharing" rfl, gl 35 "BadSome" rfl, gl 36 "BadSorter" rfl, gl 37 "BadSplit" rfl, gl 38 "BadTable" rfl, gl 39 "BadText" rfl, gl 40 "BadTies" rfl, gl 41 "BadTold" rfl, gl 42 "BadTree" rfl, gl 43 "BadTriple" rfl, gl 44 "BadTriples" rfl, gl 45 "BadTwice" rfl, gl 46 "BadWeb" rfl, gl 47 "Crossing" rfl, gl 48 "InUse" rfl, gl 49 "IsThere" rfl, gl 50 "IsWatched" rfl, gl 51 "NoCount" rfl, gl 52 "NoFrame" rfl, gl 53 "NoLot" rfl, gl 54 "NoParts" rfl, gl 55 "NoPlace" rfl, gl 56 "NoRoot" rfl, gl 57 "NoTie" rfl, gl 58 "NotFull" rfl, gl 59 "NotNow" rfl, gl 60 "NotThere" rfl, gl 61 "NotWatched" rfl, gl 62 "OtherPlaces" rfl, gl 63 "SamePlace" rfl, gl 64 "SavesNothing" rfl, gl 65 "WouldChange" rfl, eiB_ok e_ei, (fun C hC => of_decide_eq_true (List.all_eq_true.mp e_ef_fault C hC)), (fun C hC => of_decide_eq_true (List.all_eq_true.mp e_ef_index C hC)), (fun C hC => of_decide_eq_true (List.all_eq_true.mp e_ef_line C hC)), (fun C hC => of_decide_eq_true (List.all_eq_true.mp e_ef_lot C hC)), (fun C hC => of_decide_eq_true (List.all_eq_true.mp e_ef_one C hC)), (fun C hC => of_decide_eq_true (List.all_eq_true.mp e_ef_other C hC)), (fun C hC => of_decide_eq_true (List.all_eq_true.mp e_ef_place C hC)), (fun C hC => of_decide_eq_true (List.all_eq_true.mp e_ef_question C hC)), (fun C hC => of_decide_eq_true (List.all_eq_true.mp e_ef_sign C hC)), (fun C hC => of_decide_eq_true (List.all_eq_true.mp e_ef_thing C hC)), (fun C hC => of_decide_eq_true (List.all_eq_true.mp e_ef_why C hC))⟩
  obtain ⟨fd, Fl⟩ := cd.def_ 77 rfl
  refine ⟨fd, fun s v => FunD.bindsA (ps := ["script"]) Fl (fun _ _ _ _ _ _ us hl => match us, hl with | [_], _ => rfl) s [v] rfl, gl 81 "law" rfl, fun base hTB => ?_⟩
  have ez_BadDeed : Ez P w K mg base "BadDeed" ["thing"] [0] ["thing"] [0] := by
    obtain ⟨fi, Fi⟩ := cd.def_ 0 rfl
    have M := ezB_ok e_ez_BadDeed
    exact ⟨⟨fi, ["self", "thing"], fnok_N1 Fi ⟨rfl, rfl, rfl, by decide +kernel, rfl, by decide +kernel, by decide +kernel⟩ M.oex (M.no _ (by simp)) (Or.inl rfl) (Or.inl rfl) (by decide) (by decide), Fi.bindsN (fun _ _ _ _ _ _ us hl => match us, hl with | [_, _], _ => rfl), kb1 Fi (fun _ _ _ _ _ _ u ws hl => match ws, hl with | [_], _ => rfl)⟩, M.oex, M.ini, M.fn, gl 1 "BadDeed" rfl⟩
  have ez_BadForest : Ez P w K mg base "BadForest" ["thing"] [0] ["thing"] [0] := by
    obtain ⟨fi, Fi⟩ := cd.def_ 1 rfl
    have M := ezB_ok e_ez_BadForest
    exact ⟨⟨fi, ["self", "thing"], fnok_N1 Fi ⟨rfl, rfl, rfl, by decide +kernel, rfl, by decide +kernel, by decide +kernel⟩ M.oex (M.no _ (by simp)) (Or.inl rfl) (Or.inl rfl) (by decide) (by decide), Fi.bindsN (fun _ _ _ _ _ _ us hl => match us, hl with | [_, _], _ => rfl), kb1 Fi (fun _ _ _ _ _ _ u ws hl => match ws, hl with | [_], _ => rfl)⟩, M.oex, M.ini, M.fn, gl 2 "BadForest" rfl⟩
  have ez_BadForm : Ez P w K mg base "BadForm" ["thing"] [0] ["thing"] [0] := by
    obtain ⟨fi, Fi⟩ := cd.def_ 2 rfl
    have M := ezB_ok e_ez_BadForm
    exact ⟨⟨fi, ["self", "thing"], fnok_N1 Fi ⟨rfl, rfl, rfl, by decide +kernel, rfl, by decide +kernel, by decide +kernel⟩ M.oex (M.no _ (by simp)) (Or.inl rfl) (Or.inl rfl) (by decide) (by decide), Fi.bindsN (fun _ _ _ _ _ _ us hl => match us, hl with | [_, _], _ => rfl), kb1 Fi (fun _ _ _ _ _ _ u ws hl => match ws, hl with | [_], _ => rfl)⟩, M.oex, M.ini, M.fn, gl 3 "BadForm" rfl⟩
  have ez_BadFrame : Ez P w K mg base "BadFrame" ["thing"] [0] ["thing"] [0] := by
    obtain ⟨fi, Fi⟩ := cd.def_ 3 rfl
    have M := ezB_ok e_ez_BadFrame
    exact ⟨⟨fi, ["self", "thing"], fnok_N1 Fi ⟨rfl, rfl, rfl, by decide +kernel, rfl, by decide +kernel, by decide +kernel⟩ M.oex (M.no _ (by simp)) (Or.inl rfl) (Or.inl rfl) (by decide) (by decide), Fi.bindsN (fun _ _ _ _ _ _ us hl => match us, hl with | [_, _], _ => rfl), kb1 Fi (fun _ _ _ _ _ _ u ws hl => match ws, hl with | [_], _ => rfl)⟩, M.oex, M.ini, M.fn, gl 4 "BadFrame" rfl⟩
  have ez_BadFrames : Ez P w K mg base "BadFrames" ["index"] [0] ["index"] [0] := by
    obtain ⟨fi, Fi⟩ := cd.def_ 4 rfl
    have M := ezB_ok e_ez_BadFrames
    exact ⟨⟨fi, ["self", "index"], fnok_N1 Fi ⟨rfl, rfl, rfl, by decide +kernel, rfl, by decide +kernel, by decide +kernel⟩ M.oex (M.no _ (by simp)) (Or.inl rfl) (Or.inl rfl) (by decide) (by decide), Fi.bindsN (fun _ _ _ _ _ _ us hl => match us, hl with | [_, _], _ => rfl), kb1 Fi (fun _ _ _ _ _ _ u ws hl => match ws, hl with | [_], _ => rfl)⟩, M.oex, M.ini, M.fn, gl 5 "BadFrames" rfl⟩
  have ez_BadGauge : Ez P w K mg base "BadGauge" ["thing"] [0] ["thing"] [0] := by
    obtain ⟨fi, Fi⟩ := cd.def_ 5 rfl
    have M := ezB_ok e_ez_BadGauge
    exact ⟨⟨fi, ["self", "thing"], fnok_N1 Fi ⟨rfl, rfl, rfl, by decide +kernel, rfl, by decide +kernel, by decide +kernel⟩ M.oex (M.no _ (by simp)) (Or.inl rfl) (Or.inl rfl) (by decide) (by decide), Fi.bindsN (fun _ _ _ _ _ _ us hl => match us, hl with | [_, _], _ => rfl), kb1 Fi (fun _ _ _ _ _ _ u ws hl => match ws, hl with | [_], _ => rfl)⟩, M.oex, M.ini, M.fn, gl 6 "BadGauge" rfl⟩
  have ez_BadGrove : Ez P w K mg base "BadGrove" ["thing"] [0] ["thing"] [0] := by
    obtain ⟨fi, Fi⟩ := cd.def_ 6 rfl
    have M := ezB_ok e_ez_BadGrove
    exact ⟨⟨fi, ["self", "thing"], fnok_N1 Fi ⟨rfl, rfl, rfl, by decide +kernel, rfl, by decide +kernel, by decide +kernel⟩ M.oex (M.no _ (by simp)) (Or.inl rfl) (Or.inl rfl) (by decide) (by decide), Fi.bindsN (fun _ _ _ _ _ _ us hl => match us, hl with | [_, _], _ => rfl), kb1 Fi (fun _ _ _ _ _ _ u ws hl => match ws, hl with | [_], _ => rfl)⟩, M.oex, M.ini, M.fn, gl 7 "BadGrove" rfl⟩
  have ez_BadHeight : Ez P w K mg base "BadHeight" ["thing"] [0] ["thing"] [0] := by
    obtain ⟨fi, Fi⟩ := cd.def_ 7 rfl
    have M := ezB_ok e_ez_BadHeight
    exact ⟨⟨fi, ["self", "thing"], fnok_N1 Fi ⟨rfl, rfl, rfl, by decide +kernel, rfl, by decide +kernel, by decide +kernel⟩ M.oex (M.no _ (by simp)) (Or.inl rfl) (Or.inl rfl) (by decide) (by decide), Fi.bindsN (fun _ _ _ _ _ _ us hl => match us, hl with | [_, _], _ => rfl), kb1 Fi (fun _ _ _ _ _ _ u ws hl => match ws, hl with | [_], _ => rfl)⟩, M.oex, M.ini, M.fn, gl 8 "BadHeight" rfl⟩
  have ez_BadHigh : Ez P w K mg base "BadHigh" ["thing"] [0] ["thing"] [0] := by
    obtain ⟨fi, Fi⟩ := cd.def_ 8 rfl
    have M := ezB_ok e_ez_BadHigh
    exact ⟨⟨fi, ["self", "thing"], fnok_N1 Fi ⟨rfl, rfl, rfl, by decide +kernel, rfl, by decide +kernel, by decide +kernel⟩ M.oex (M.no _ (by simp)) (Or.inl rfl) (Or.inl rfl) (by decide) (by decide), Fi.bindsN (fun _ _ _ _ _ _ us hl => match us, hl with | [_, _], _ => rfl), kb1 Fi (fun _ _ _ _ _ _ u ws hl => match ws, hl with | [_], _ => rfl)⟩, M.oex, M.ini, M.fn, gl 9 "BadHigh" rfl⟩
  have ez_BadHollow : Ez P w K mg base "BadHollow" ["thing"] [0] ["thing"] [0] := by
    obtain ⟨fi, Fi⟩ := cd.def_ 9 rfl
    have M := ezB_ok e_ez_BadHollow
    exact ⟨⟨fi, ["self", "thing"], fnok_N1 Fi ⟨rfl, rfl, rfl, by decide +kernel, rfl, by decide +kernel, by decide +kernel⟩ M.oex (M.no _ (by simp)) (Or.inl rfl) (Or.inl rfl) (by decide) (by decide), Fi.bindsN (fun _ _ _ _ _ _ us hl => match us, hl with | [_, _], _ => rfl), kb1 Fi (fun _ _ _ _ _ _ u ws hl => match ws, hl with | [_], _ => rfl)⟩, M.oex, M.ini, M.fn, gl 10 "BadHollow" rfl⟩
  have ez_BadKind : Ez P w K mg base "BadKind" ["thing"] [0] ["thing"] [0] := by
    obtain ⟨fi, Fi⟩ := cd.def_ 10 rfl
    have M := ezB_ok e_ez_BadKind
    exact ⟨⟨fi, ["self", "thing"], fnok_N1 Fi ⟨rfl, rfl, rfl, by decide +kernel, rfl, by decide +kernel, by decide +kernel⟩ M.oex (M.no _ (by simp)) (Or.inl rfl) (Or.inl rfl) (by decide) (by decide), Fi.bindsN (fun _ _ _ _ _ _ us hl => match us, hl with | [_, _], _ => rfl), kb1 Fi (fun _ _ _ _ _ _ u ws hl => match ws, hl with | [_], _ => rfl)⟩, M.oex, M.ini, M.fn, gl 11 "BadKind" rfl⟩
  have ez_BadLevels : Ez P w K mg base "BadLevels" ["thing"] [0] ["thing"] [0] := by
    obtain ⟨fi, Fi⟩ := cd.def_ 11 rfl
    have M := ezB_ok e_ez_BadLevels
    exact ⟨⟨fi, ["self", "thing"], fnok_N1 Fi ⟨rfl, rfl, rfl, by decide +kernel, rfl, by decide +kernel, by decide +kernel⟩ M.oex (M.no _ (by simp)) (Or.inl rfl) (Or.inl rfl) (by decide) (by decide), Fi.bindsN (fun _ _ _ _ _ _ us hl => match us, hl with | [_, _], _ => rfl), kb1 Fi (fun _ _ _ _ _ _ u ws hl => match ws, hl with | [_], _ => rfl)⟩, M.oex, M.ini, M.fn, gl 12 "BadLevels" rfl⟩
  have ez_BadLosses : Ez P w K mg base "BadLosses" ["fault"] [0] ["fault"] [0] := by
    obtain ⟨fi, Fi⟩ := cd.def_ 12 rfl
    have M := ezB_ok e_ez_BadLosses
    exact ⟨⟨fi, ["self", "fault"], fnok_N1 Fi ⟨rfl, rfl, rfl, by decide +kernel, rfl, by decide +kernel, by decide +kernel⟩ M.oex (M.no _ (by simp)) (Or.inl rfl) (Or.inl rfl) (by decide) (by decide), Fi.bindsN (fun _ _ _ _ _ _ us hl => match us, hl with | [_, _], _ => rfl), kb1 Fi (fun _ _ _ _ _ _ u ws hl => match ws, hl with | [_], _ => rfl)⟩, M.oex, M.ini, M.fn, gl 13 "BadLosses" rfl⟩
  have ez_BadLot : Ez P w K mg base "BadLot" ["index"] [0] ["index"] [0] := by
    obtain ⟨fi, Fi⟩ := cd.def_ 13 rfl
    have M := ezB_ok e_ez_BadLot
    exact ⟨⟨fi, ["self", "index"], fnok_N1 Fi ⟨rfl, rfl, rfl, by decide +kernel, rfl, by decide +kernel, by decide +kernel⟩ M.oex (M.no _ (by simp)) (Or.inl rfl) (Or.inl rfl) (by decide) (by decide), Fi.bindsN (fun _ _ _ _ _ _ us hl => match us, hl with | [_, _], _ => rfl), kb1 Fi (fun _ _ _ _ _ _ u ws hl => match ws, hl with | [_], _ => rfl)⟩, M.oex, M.ini, M.fn, gl 14 "BadLot" rfl⟩
  have ez_BadLots : Ez P w K mg base "BadLots" ["index"] [0] ["index"] [0] := by
    obtain ⟨fi, Fi⟩ := cd.def_ 14 rfl
    have M := ezB_ok e_ez_BadLots
    exact ⟨⟨fi, ["self", "index"], fnok_N1 Fi ⟨rfl, rfl, rfl, by decide +kernel, rfl, by decide +kernel, by decide +kernel⟩ M.oex (M.no _ (by simp)) (Or.inl rfl) (Or.inl rfl) (by decide) (by decide), Fi.bindsN (fun _ _ _ _ _ _ us hl => match us, hl with | [_, _], _ => rfl), kb1 Fi (fun _ _ _ _ _ _ u ws hl => match ws, hl with | [_], _ => rfl)⟩, M.oex, M.ini, M.fn, gl 15 "BadLots" rfl⟩
  have ez_BadLow : Ez P w K mg base "BadLow" ["thing"] [0] ["thing"] [0] := by
    obtain ⟨fi, Fi⟩ := cd.def_ 15 rfl
    have M := ezB_ok e_ez_BadLow
    exact ⟨⟨fi, ["self", "thing"], fnok_N1 Fi ⟨rfl, rfl, rfl, by decide +kernel, rfl, by decide +kernel, by decide +kernel⟩ M.oex (M.no _ (by simp)) (Or.inl rfl) (Or.inl rfl) (by decide) (by decide), Fi.bindsN (fun _ _ _ _ _ _ us hl => match us, hl with | [_, _], _ => rfl), kb1 Fi (fun _ _ _ _ _ _ u ws hl => match ws, hl with | [_], _ => rfl)⟩, M.oex, M.ini, M.fn, gl 16 "BadLow" rfl⟩
  have ez_BadMany : Ez P w K mg base "BadMany" ["thing"] [0] ["thing"] [0] := by
    obtain ⟨fi, Fi⟩ := cd.def_ 16 rfl
    have M := ezB_ok e_ez_BadMany
    exact ⟨⟨fi, ["self", "thing"], fnok_N1 Fi ⟨rfl, rfl, rfl, by decide +kernel, rfl, by decide +kernel, by decide +kernel⟩ M.oex (M.no _ (by simp)) (Or.inl rfl) (Or.inl rfl) (by decide) (by decide), Fi.bindsN (fun _ _ _ _ _ _ us hl => match us, hl with | [_, _], _ => rfl), kb1 Fi (fun _ _ _ _ _ _ u ws hl => match ws, hl with | [_], _ => rfl)⟩, M.oex, M.ini, M.fn, gl 17 "BadMany" rfl⟩
  have ez_BadMost : Ez P w K mg base "BadMost" ["thing"] [0] ["thing"] [0] := by
    obtain ⟨fi, Fi⟩ := cd.def_ 17 rfl
    have M := ezB_ok e_ez_BadMost
    exact ⟨⟨fi, ["self", "thing"], fnok_N1 Fi ⟨rfl, rfl, rfl, by decide +kernel, rfl, by decide +kernel, by decide +kernel⟩ M.oex (M.no _ (by simp)) (Or.inl rfl) (Or.inl rfl) (by decide) (by decide), Fi.bindsN (fun _ _ _ _ _ _ us hl => match us, hl with | [_, _], _ => rfl), kb1 Fi (fun _ _ _ _ _ _ u ws hl => match ws, hl with | [_], _ => rfl)⟩, M.oex, M.ini, M.fn, gl 18 "BadMost" rfl⟩
  have ez_BadName : Ez P w K mg base "BadName" ["thing"] [0] ["thing"] [0] := by
    obtain ⟨fi, Fi⟩ := cd.def_ 18 rfl
    have M := ezB_ok e_ez_BadName
    exact ⟨⟨fi, ["self", "thing"], fnok_N1 Fi ⟨rfl, rfl, rfl, by decide +kernel, rfl, by decide +kernel, by decide +kernel⟩ M.oex (M.no _ (by simp)) (Or.inl rfl) (Or.inl rfl) (by decide) (by decide), Fi.bindsN (fun _ _ _ _ _ _ us hl => match us, hl with | [_, _], _ => rfl), kb1 Fi (fun _ _ _ _ _ _ u ws hl => match ws, hl with | [_], _ => rfl)⟩, M.oex, M.ini, M.fn, gl 19 "BadName" rfl⟩
  have ez_BadNest : Ez P w K mg base "BadNest" ["thing"] [0] ["thing"] [0] := by
    obtain ⟨fi, Fi⟩ := cd.def_ 19 rfl
    have M := ezB_ok e_ez_BadNest
    exact ⟨⟨fi, ["self", "thing"], fnok_N1 Fi ⟨rfl, rfl, rfl, by decide +kernel, rfl, by decide +kernel, by decide +kernel⟩ M.oex (M.no _ (by simp)) (Or.inl rfl) (Or.inl rfl) (by decide) (by decide), Fi.bindsN (fun _ _ _ _ _ _ us hl => match us, hl with | [_, _], _ => rfl), kb1 Fi (fun _ _ _ _ _ _ u ws hl => match ws, hl with | [_], _ => rfl)⟩, M.oex, M.ini, M.fn, gl 20 "BadNest" rfl⟩
  have ez_BadNumber : Ez P w K mg base "BadNumber" ["thing"] [0] ["thing"] [0] := by
    obtain ⟨fi, Fi⟩ := cd.def_ 20 rfl
    have M := ezB_ok e_ez_BadNumber
    exact ⟨⟨fi, ["self", "thing"], fnok_N1 Fi ⟨rfl, rfl, rfl, by decide +kernel, rfl, by decide +kernel, by decide +kernel⟩ M.oex (M.no _ (by simp)) (Or.inl rfl) (Or.inl rfl) (by decide) (by decide), Fi.bindsN (fun _ _ _ _ _ _ us hl => match us, hl with | [_, _], _ => rfl), kb1 Fi (fun _ _ _ _ _ _ u ws hl => match ws, hl with | [_], _ => rfl)⟩, M.oex, M.ini, M.fn, gl 21 "BadNumber" rfl⟩
  have ez_BadOrder : Ez P w K mg base "BadOrder" ["index"] [0] ["index"] [0] := by
    obtain ⟨fi, Fi⟩ := cd.def_ 21 rfl
    have M := ezB_ok e_ez_BadOrder
    exact ⟨⟨fi, ["self", "index"], fnok_N1 Fi ⟨rfl, rfl, rfl, by decide +kernel, rfl, by decide +kernel, by decide +kernel⟩ M.oex (M.no _ (by simp)) (Or.inl rfl) (Or.inl rfl) (by decide) (by decide), Fi.bindsN (fun _ _ _ _ _ _ us hl => match us, hl with | [_, _], _ => rfl), kb1 Fi (fun _ _ _ _ _ _ u ws hl => match ws, hl with | [_], _ => rfl)⟩, M.oex, M.ini, M.fn, gl 22 "BadOrder" rfl⟩
  have ez_BadOther : Ez P w K mg base "BadOther" ["thing"] [0] ["thing"] [0] := by
    obtain ⟨fi, Fi⟩ := cd.def_ 22 rfl
    have M := ezB_ok e_ez_BadOther
    exact ⟨⟨fi, ["self", "thing"], fnok_N1 Fi ⟨rfl, rfl, rfl, by decide +kernel, rfl, by decide +kernel, by decide +kernel⟩ M.oex (M.no _ (by simp)) (Or.inl rfl) (Or.inl rfl) (by decide) (by decide), Fi.bindsN (fun _ _ _ _ _ _ us hl => match us, hl with | [_, _], _ => rfl), kb1 Fi (fun _ _ _ _ _ _ u ws hl => match ws, hl with | [_], _ => rfl)⟩, M.oex, M.ini, M.fn, gl 23 "BadOther" rfl⟩
  have ez_BadParting : Ez P w K mg base "BadParting" ["thing"] [0] ["thing"] [0] := by
    obtain ⟨fi, Fi⟩ := cd.def_ 23 rfl
    have M := ezB_ok e_ez_BadParting
    exact ⟨⟨fi, ["self", "thing"], fnok_N1 Fi ⟨rfl, rfl, rfl, by decide +kernel, rfl, by decide +kernel, by decide +kernel⟩ M.oex (M.no _ (by simp)) (Or.inl rfl) (Or.inl rfl) (by decide) (by decide), Fi.bindsN (fun _ _ _ _ _ _ us hl => match us, hl with | [_, _], _ => rfl), kb1 Fi (fun _ _ _ _ _ _ u ws hl => match ws, hl with | [_], _ => rfl)⟩, M.oex, M.ini, M.fn, gl 24 "BadParting" rfl⟩
  have ez_BadPicture : Ez P w K mg base "BadPicture" ["thing"] [0] ["thing"] [0] := by
    obtain ⟨fi, Fi⟩ := cd.def_ 24 rfl
    have M := ezB_ok e_ez_BadPicture
    exact ⟨⟨fi, ["self", "thing"], fnok_N1 Fi ⟨rfl, rfl, rfl, by decide +kernel, rfl, by decide +kernel, by decide +kernel⟩ M.oex (M.no _ (by simp)) (Or.inl rfl) (Or.inl rfl) (by decide) (by decide), Fi.bindsN (fun _ _ _ _ _ _ us hl => match us, hl with | [_, _], _ => rfl), kb1 Fi (fun _ _ _ _ _ _ u ws hl => match ws, hl with | [_], _ => rfl)⟩, M.oex, M.ini, M.fn, gl 25 "BadPicture" rfl⟩
  have ez_BadPlaces : Ez P w K mg base "BadPlaces" ["index"] [0] ["index"] [0] := by
    obtain ⟨fi, Fi⟩ := cd.def_ 25 rfl
    have M := ezB_ok e_ez_BadPlaces
    exact ⟨⟨fi, ["self", "index"], fnok_N1 Fi ⟨rfl, rfl, rfl, by decide +kernel, rfl, by decide +kernel, by decide +kernel⟩ M.oex (M.no _ (by simp)) (Or.inl rfl) (Or.inl rfl) (by decide) (by decide), Fi.bindsN (fun _ _ _ _ _ _ us hl => match us, hl with | [_, _], _ => rfl), kb1 Fi (fun _ _ _ _ _ _ u ws hl => match ws, hl with | [_], _ => rfl)⟩, M.oex, M.ini, M.fn, gl 26 "BadPlaces" rfl⟩
  have ez_BadPrice : Ez P w K mg base "BadPrice" ["thing"] [0] ["thing"] [0] := by
    obtain ⟨fi, Fi⟩ := cd.def_ 26 rfl
    have M := ezB_ok e_ez_BadPrice
    exact ⟨⟨fi, ["self", "thing"], fnok_N1 Fi ⟨rfl, rfl, rfl, by decide +kernel, rfl, by decide +kernel, by decide +kernel⟩ M.oex (M.no _ (by simp)) (Or.inl rfl) (Or.inl rfl) (by decide) (by decide), Fi.bindsN (fun _ _ _ _ _ _ us hl => match us, hl with | [_, _], _ => rfl), kb1 Fi (fun _ _ _ _ _ _ u ws hl => match ws, hl with | [_], _ => rfl)⟩, M.oex, M.ini, M.fn, gl 27 "BadPrice" rfl⟩
  have ez_BadPriced : Ez P w K mg base "BadPriced" ["thing"] [0] ["thing"] [0] := by
    obtain ⟨fi, Fi⟩ := cd.def_ 27 rfl
    have M := ezB_ok e_ez_BadPriced
    exact ⟨⟨fi, ["self", "thing"], fnok_N1 Fi ⟨rfl, rfl, rfl, by decide +kernel, rfl, by decide +kernel, by decide +kernel⟩ M.oex (M.no _ (by simp)) (Or.inl rfl) (Or.inl rfl) (by decide) (by decide), Fi.bindsN (fun _ _ _ _ _ _ us hl => match us, hl with | [_, _], _ => rfl), kb1 Fi (fun _ _ _ _ _ _ u ws hl => match ws, hl with | [_], _ => rfl)⟩, M.oex, M.ini, M.fn, gl 28 "BadPriced" rfl⟩
  have ez_BadPulls : Ez P w K mg base "BadPulls" ["thing"] [0] ["thing"] [0] := by
    obtain ⟨fi, Fi⟩ := cd.def_ 28 rfl
    have M := ezB_ok e_ez_BadPulls
    exact ⟨⟨fi, ["self", "thing"], fnok_N1 Fi ⟨rfl, rfl, rfl, by decide +kernel, rfl, by decide +kernel, by decide +kernel⟩ M.oex (M.no _ (by simp)) (Or.inl rfl) (Or.inl rfl) (by decide) (by decide), Fi.bindsN (fun _ _ _ _ _ _ us hl => match us, hl with | [_, _], _ => rfl), kb1 Fi (fun _ _ _ _ _ _ u ws hl => match ws, hl with | [_], _ => rfl)⟩, M.oex, M.ini, M.fn, gl 29 "BadPulls" rfl⟩
  have ez_BadQuestion : Ez P w K mg base "BadQuestion" ["thing"] [0] ["thing"] [0] := by
    obtain ⟨fi, Fi⟩ := cd.def_ 29 rfl
    have M := ezB_ok e_ez_BadQuestion
    exact ⟨⟨fi, ["self", "thing"], fnok_N1 Fi ⟨rfl, rfl, rfl, by decide +kernel, rfl, by decide +kernel, by decide +kernel⟩ M.oex (M.no _ (by simp)) (Or.inl rfl) (Or.inl rfl) (by decide) (by decide), Fi.bindsN (fun _ _ _ _ _ _ us hl => match us, hl with | [_, _], _ => rfl), kb1 Fi (fun _ _ _ _ _ _ u ws hl => match ws, hl with | [_], _ => rfl)⟩, M.oex, M.ini, M.fn, gl 30 "BadQuestion" rfl⟩
  have ez_BadRoots : Ez P w K mg base "BadRoots" ["index"] [0] ["index"] [0] := by
    obtain ⟨fi, Fi⟩ := cd.def_ 30 rfl
    have M := ezB_ok e_ez_BadRoots
    exact ⟨⟨fi, ["self", "index"], fnok_N1 Fi ⟨rfl, rfl, rfl, by decide +kernel, rfl, by decide +kernel, by decide +kernel⟩ M.oex (M.no _ (by simp)) (Or.inl rfl) (Or.inl rfl) (by decide) (by decide), Fi.bindsN (fun _ _ _ _ _ _ us hl => match us, hl with | [_, _], _ => rfl), kb1 Fi (fun _ _ _ _ _ _ u ws hl => match ws, hl with | [_], _ => rfl)⟩, M.oex, M.ini, M.fn, gl 31 "BadRoots" rfl⟩
  have ez_BadRows : Ez P w K mg base "BadRows" ["index"] [0] ["index"] [0] := by
    obtain ⟨fi, Fi⟩ := cd.def_ 31 rfl
    have M := ezB_ok e_ez_BadRows
    exact ⟨⟨fi, ["self", "index"], fnok_N1 Fi ⟨rfl, rfl, rfl, by decide +kernel, rfl, by decide +kernel, by decide +kernel⟩ M.oex (M.no _ (by simp)) (Or.inl rfl) (Or.inl rfl) (by decide) (by decide), Fi.bindsN (fun _ _ _ _ _ _ us hl => match us, hl with | [_, _], _ => rfl), kb1 Fi (fun _ _ _ _ _ _ u ws hl => match ws, hl with | [_], _ => rfl)⟩, M.oex, M.ini, M.fn, gl 32 "BadRows" rfl⟩
  have ez_BadSession : Ez P w K mg base "BadSession" ["thing"] [0] ["thing"] [0] := by
    obtain ⟨fi, Fi⟩ := cd.def_ 32 rfl
    have M := ezB_ok e_ez_BadSession
    exact ⟨⟨fi, ["self", "thing"], fnok_N1 Fi ⟨rfl, rfl, rfl, by decide +kernel, rfl, by decide +kernel, by decide +kernel⟩ M.oex (M.no _ (by simp)) (Or.inl rfl) (Or.inl rfl) (by decide) (by decide), Fi.bindsN (fun _ _ _ _ _ _ us hl => match us, hl with | [_, _], _ => rfl), kb1 Fi (fun _ _ _ _ _ _ u ws hl => match ws, hl with | [_], _ => rfl)⟩, M.oex, M.ini, M.fn, gl 33 "BadSession" rfl⟩
  have ez_BadSharing : Ez P w K mg base "BadSharing" ["thing"] [0] ["thing"] [0] := by
    obtain ⟨fi, Fi⟩ := cd.def_ 33 rfl
    have M := ezB_ok e_ez_BadSharing
    exact ⟨⟨fi, ["self", "thing"], fnok_N1 Fi ⟨rfl, rfl, rfl, by decide +kernel, rfl, by decide +kernel, by decide +kernel⟩ M.oex (M.no _ (by simp)) (Or.inl rfl) (Or.inl rfl) (by decide) (by decide), Fi.bindsN (fun _ _ _ _ _ _ us hl => match us, hl with | [_, _], _ => rfl), kb1 Fi (fun _ _ _ _ _ _ u ws hl => match ws, hl with | [_], _ => rfl)⟩, M.oex, M.ini, M.fn, gl 34 "BadSharing" rfl⟩
  have ez_BadSome : Ez P w K mg base "BadSome" ["index"] [0] ["index"] [0] := by
    obtain ⟨fi, Fi⟩ := cd.def_ 34 rfl
    have M := ezB_ok e_ez_BadSome
    exact ⟨⟨fi, ["self", "index"], fnok_N1 Fi ⟨rfl, rfl, rfl, by decide +kernel, rfl, by decide +kernel, by decide +kernel⟩ M.oex (M.no _ (by simp)) (Or.inl rfl) (Or.inl rfl) (by decide) (by decide), Fi.bindsN (fun _ _ _ _ _ _ us hl => match us, hl with | [_, _], _ => rfl), kb1 Fi (fun _ _ _ _ _ _ u ws hl => match ws, hl with | [_], _ => rfl)⟩, M.oex, M.ini, M.fn, gl 35 "BadSome" rfl⟩
  have ez_BadSorter : Ez P w K mg base "BadSorter" ["thing"] [0] ["thing"] [0] := by
    obtain ⟨fi, Fi⟩ := cd.def_ 35 rfl
    have M := ezB_ok e_ez_BadSorter
    exact ⟨⟨fi, ["self", "thing"], fnok_N1 Fi ⟨rfl, rfl, rfl, by decide +kernel, rfl, by decide +kernel, by decide +kernel⟩ M.oex (M.no _ (by simp)) (Or.inl rfl) (Or.inl rfl) (by decide) (by decide), Fi.bindsN (fun _ _ _ _ _ _ us hl => match us, hl with | [_, _], _ => rfl), kb1 Fi (fun _ _ _ _ _ _ u ws hl => match ws, hl with | [_], _ => rfl)⟩, M.oex, M.ini, M.fn, gl 36 "BadSorter" rfl⟩
  have ez_BadSplit : Ez P w K mg base "BadSplit" ["thing"] [0] ["thing"] [0] := by
    obtain ⟨fi, Fi⟩ := cd.def_ 36 rfl
    have M := ezB_ok e_ez_BadSplit
    exact ⟨⟨fi, ["self", "thing"], fnok_N1 Fi ⟨rfl, rfl, rfl, by decide +kernel, rfl, by decide +kernel, by decide +kernel⟩ M.oex (M.no _ (by simp)) (Or.inl rfl) (Or.inl rfl) (by decide) (by decide), Fi.bindsN (fun _ _ _ _ _ _ us hl => match us, hl with | [_, _], _ => rfl), kb1 Fi (fun _ _ _ _ _ _ u ws hl => match ws, hl with | [_], _ => rfl)⟩, M.oex, M.ini, M.fn, gl 37 "BadSplit" rfl⟩
  have ez_BadTable : Ez P w K mg base "BadTable" ["thing"] [0] ["thing"] [0] := by
    obtain ⟨fi, Fi⟩ := cd.def_ 37 rfl
    have M := ezB_ok e_ez_BadTable
    exact ⟨⟨fi, ["self", "thing"], fnok_N1 Fi ⟨rfl, rfl, rfl, by decide +kernel, rfl, by decide +kernel, by decide +kernel⟩ M.oex (M.no _ (by simp)) (Or.inl rfl) (Or.inl rfl) (by decide) (by decide), Fi.bindsN (fun _ _ _ _ _ _ us hl => match us, hl with | [_, _], _ => rfl), kb1 Fi (fun _ _ _ _ _ _ u ws hl => match ws, hl with | [_], _ => rfl)⟩, M.oex, M.ini, M.fn, gl 38 "BadTable" rfl⟩
  have ez_BadText : Ez P w K mg base "BadText" ["sign", "line"] [1, 0] ["sign", "line"] [1, 0] := by
    obtain ⟨fi, Fi⟩ := cd.def_ 38 rfl
    have M := ezB_ok e_ez_BadText
    exact ⟨⟨fi, ["self", "line", "sign"], fnok_N2 Fi ⟨rfl, rfl, rfl, by decide +kernel, rfl, by decide +kernel, by decide +kernel⟩ M.oex (M.no _ (by simp)) (M.no _ (by simp)) (Or.inl rfl) (Or.inl rfl) (Or.inl rfl) (by decide) (by decide) (by decide) (by decide), Fi.bindsN (fun _ _ _ _ _ _ us hl => match us, hl with | [_, _, _], _ => rfl), kb1 Fi (fun _ _ _ _ _ _ u ws hl => match ws, hl with | [_, _], _ => rfl)⟩, M.oex, M.ini, M.fn, gl 39 "BadText" rfl⟩
  have ez_BadTies : Ez P w K mg base "BadTies" ["index"] [0] ["index"] [0] := by
    obtain ⟨fi, Fi⟩ := cd.def_ 39 rfl
    have M := ezB_ok e_ez_BadTies
    exact ⟨⟨fi, ["self", "index"], fnok_N1 Fi ⟨rfl, rfl, rfl, by decide +kernel, rfl, by decide +kernel, by decide +kernel⟩ M.oex (M.no _ (by simp)) (Or.inl rfl) (Or.inl rfl) (by decide) (by decide), Fi.bindsN (fun _ _ _ _ _ _ us hl => match us, hl with | [_, _], _ => rfl), kb1 Fi (fun _ _ _ _ _ _ u ws hl => match ws, hl with | [_], _ => rfl)⟩, M.oex, M.ini, M.fn, gl 40 "BadTies" rfl⟩
  have ez_BadTold : Ez P w K mg base "BadTold" ["index"] [0] ["index"] [0] := by
    obtain ⟨fi, Fi⟩ := cd.def_ 40 rfl
    have M := ezB_ok e_ez_BadTold
    exact ⟨⟨fi, ["self", "index"], fnok_N1 Fi ⟨rfl, rfl, rfl, by decide +kernel, rfl, by decide +kernel, by decide +kernel⟩ M.oex (M.no _ (by simp)) (Or.inl rfl) (Or.inl rfl) (by decide) (by decide), Fi.bindsN (fun _ _ _ _ _ _ us hl => match us, hl with | [_, _], _ => rfl), kb1 Fi (fun _ _ _ _ _ _ u ws hl => match ws, hl with | [_], _ => rfl)⟩, M.oex, M.ini, M.fn, gl 41 "BadTold" rfl⟩
  have ez_BadTree : Ez P w K mg base "BadTree" ["thing"] [0] ["thing"] [0] := by
    obtain ⟨fi, Fi⟩ := cd.def_ 41 rfl
    have M := ezB_ok e_ez_BadTree
    exact ⟨⟨fi, ["self", "thing"], fnok_N1 Fi ⟨rfl, rfl, rfl, by decide +kernel, rfl, by decide +kernel, by decide +kernel⟩ M.oex (M.no _ (by simp)) (Or.inl rfl) (Or.inl rfl) (by decide) (by decide), Fi.bindsN (fun _ _ _ _ _ _ us hl => match us, hl with | [_, _], _ => rfl), kb1 Fi (fun _ _ _ _ _ _ u ws hl => match ws, hl with | [_], _ => rfl)⟩, M.oex, M.ini, M.fn, gl 42 "BadTree" rfl⟩
  have ez_BadTriple : Ez P w K mg base "BadTriple" ["thing"] [0] ["thing"] [0] := by
    obtain ⟨fi, Fi⟩ := cd.def_ 42 rfl
    have M := ezB_ok e_ez_BadTriple
    exact ⟨⟨fi, ["self", "thing"], fnok_N1 Fi ⟨rfl, rfl, rfl, by decide +kernel, rfl, by decide +kernel, by decide +kernel⟩ M.oex (M.no _ (by simp)) (Or.inl rfl) (Or.inl rfl) (by decide) (by decide), Fi.bindsN (fun _ _ _ _ _ _ us hl => match us, hl with | [_, _], _ => rfl), kb1 Fi (fun _ _ _ _ _ _ u ws hl => match ws, hl with | [_], _ => rfl)⟩, M.oex, M.ini, M.fn, gl 43 "BadTriple" rfl⟩
  have ez_BadTriples : Ez P w K mg base "BadTriples" ["index"] [0] ["index"] [0] := by
    obtain ⟨fi, Fi⟩ := cd.def_ 43 rfl
    have M := ezB_ok e_ez_BadTriples
    exact ⟨⟨fi, ["self", "index"], fnok_N1 Fi ⟨rfl, rfl, rfl, by decide +kernel, rfl, by decide +kernel, by decide +kernel⟩ M.oex (M.no _ (by simp)) (Or.inl rfl) (Or.inl rfl) (by decide) (by decide), Fi.bindsN (fun _ _ _ _ _ _ us hl => match us, hl with | [_, _], _ => rfl), kb1 Fi (fun _ _ _ _ _ _ u ws hl => match ws, hl with | [_], _ => rfl)⟩, M.oex, M.ini, M.fn, gl 44 "BadTriples" rfl⟩
  have ez_BadTwice : Ez P w K mg base "BadTwice" ["thing"] [0] ["thing"] [0] := by
    obtain ⟨fi, Fi⟩ := cd.def_ 44 rfl
    have M := ezB_ok e_ez_BadTwice
    exact ⟨⟨fi, ["self", "thing"], fnok_N1 Fi ⟨rfl, rfl, rfl, by decide +kernel, rfl, by decide +kernel, by decide +kernel⟩ M.oex (M.no _ (by simp)) (Or.inl rfl) (Or.inl rfl) (by decide) (by decide), Fi.bindsN (fun _ _ _ _ _ _ us hl => match us, hl with | [_, _], _ => rfl), kb1 Fi (fun _ _ _ _ _ _ u ws hl => match ws, hl with | [_], _ => rfl)⟩, M.oex, M.ini, M.fn, gl 45 "BadTwice" rfl⟩
  have ez_BadWeb : Ez P w K mg base "BadWeb" ["thing"] [0] ["thing"] [0] := by
    obtain ⟨fi, Fi⟩ := cd.def_ 45 rfl
    have M := ezB_ok e_ez_BadWeb
    exact ⟨⟨fi, ["self", "thing"], fnok_N1 Fi ⟨rfl, rfl, rfl, by decide +kernel, rfl, by decide +kernel, by decide +kernel⟩ M.oex (M.no _ (by simp)) (Or.inl rfl) (Or.inl rfl) (by decide) (by decide), Fi.bindsN (fun _ _ _ _ _ _ us hl => match us, hl with | [_, _], _ => rfl), kb1 Fi (fun _ _ _ _ _ _ u ws hl => match ws, hl with | [_], _ => rfl)⟩, M.oex, M.ini, M.fn, gl 46 "BadWeb" rfl⟩
  have ez_Crossing : Ez P w K mg base "Crossing" ["other", "lot"] [1, 0] ["other", "lot"] [1, 0] := by
    obtain ⟨fi, Fi⟩ := cd.def_ 46 rfl
    have M := ezB_ok e_ez_Crossing
    exact ⟨⟨fi, ["self", "lot", "other"], fnok_N2 Fi ⟨rfl, rfl, rfl, by decide +kernel, rfl, by decide +kernel, by decide +kernel⟩ M.oex (M.no _ (by simp)) (M.no _ (by simp)) (Or.inl rfl) (Or.inl rfl) (Or.inl rfl) (by decide) (by decide) (by decide) (by decide), Fi.bindsN (fun _ _ _ _ _ _ us hl => match us, hl with | [_, _, _], _ => rfl), kb1 Fi (fun _ _ _ _ _ _ u ws hl => match ws, hl with | [_, _], _ => rfl)⟩, M.oex, M.ini, M.fn, gl 47 "Crossing" rfl⟩
  have ez_InUse : Ez P w K mg base "InUse" ["question"] [0] ["question"] [0] := by
    obtain ⟨fi, Fi⟩ := cd.def_ 47 rfl
    have M := ezB_ok e_ez_InUse
    exact ⟨⟨fi, ["self", "question"], fnok_N1 Fi ⟨rfl, rfl, rfl, by decide +kernel, rfl, by decide +kernel, by decide +kernel⟩ M.oex (M.no _ (by simp)) (Or.inl rfl) (Or.inl rfl) (by decide) (by decide), Fi.bindsN (fun _ _ _ _ _ _ us hl => match us, hl with | [_, _], _ => rfl), kb1 Fi (fun _ _ _ _ _ _ u ws hl => match ws, hl with | [_], _ => rfl)⟩, M.oex, M.ini, M.fn, gl 48 "InUse" rfl⟩
  have ez_IsThere : Ez P w K mg base "IsThere" ["lot"] [0] ["lot"] [0] := by
    obtain ⟨fi, Fi⟩ := cd.def_ 48 rfl
    have M := ezB_ok e_ez_IsThere
    exact ⟨⟨fi, ["self", "lot"], fnok_N1 Fi ⟨rfl, rfl, rfl, by decide +kernel, rfl, by decide +kernel, by decide +kernel⟩ M.oex (M.no _ (by simp)) (Or.inl rfl) (Or.inl rfl) (by decide) (by decide), Fi.bindsN (fun _ _ _ _ _ _ us hl => match us, hl with | [_, _], _ => rfl), kb1 Fi (fun _ _ _ _ _ _ u ws hl => match ws, hl with | [_], _ => rfl)⟩, M.oex, M.ini, M.fn, gl 49 "IsThere" rfl⟩
  have ez_IsWatched : Ez P w K mg base "IsWatched" ["question"] [0] ["question"] [0] := by
    obtain ⟨fi, Fi⟩ := cd.def_ 49 rfl
    have M := ezB_ok e_ez_IsWatched
    exact ⟨⟨fi, ["self", "question"], fnok_N1 Fi ⟨rfl, rfl, rfl, by decide +kernel, rfl, by decide +kernel, by decide +kernel⟩ M.oex (M.no _ (by simp)) (Or.inl rfl) (Or.inl rfl) (by decide) (by decide), Fi.bindsN (fun _ _ _ _ _ _ us hl => match us, hl with | [_, _], _ => rfl), kb1 Fi (fun _ _ _ _ _ _ u ws hl => match ws, hl with | [_], _ => rfl)⟩, M.oex, M.ini, M.fn, gl 50 "IsWatched" rfl⟩
  have ez_NestError : Ez0 K mg "NestError" := ez0B_ok e_ez_NestError (gl 0 "NestError" rfl)
  have ez_NoCount : Ez P w K mg base "NoCount" ["thing"] [0] ["thing"] [0] := by
    obtain ⟨fi, Fi⟩ := cd.def_ 50 rfl
    have M := ezB_ok e_ez_NoCount
    exact ⟨⟨fi, ["self", "thing"], fnok_N1 Fi ⟨rfl, rfl, rfl, by decide +kernel, rfl, by decide +kernel, by decide +kernel⟩ M.oex (M.no _ (by simp)) (Or.inl rfl) (Or.inl rfl) (by decide) (by decide), Fi.bindsN (fun _ _ _ _ _ _ us hl => match us, hl with | [_, _], _ => rfl), kb1 Fi (fun _ _ _ _ _ _ u ws hl => match ws, hl with | [_], _ => rfl)⟩, M.oex, M.ini, M.fn, gl 51 "NoCount" rfl⟩
  have ez_NoFrame : Ez0 K mg "NoFrame" := ez0B_ok e_ez_NoFrame (gl 52 "NoFrame" rfl)
  have ez_NoLot : Ez P w K mg base "NoLot" ["thing"] [0] ["thing"] [0] := by
    obtain ⟨fi, Fi⟩ := cd.def_ 51 rfl
    have M := ezB_ok e_ez_NoLot
    exact ⟨⟨fi, ["self", "thing"], fnok_N1 Fi ⟨rfl, rfl, rfl, by decide +kernel, rfl, by decide +kernel, by decide +kernel⟩ M.oex (M.no _ (by simp)) (Or.inl rfl) (Or.inl rfl) (by decide) (by decide), Fi.bindsN (fun _ _ _ _ _ _ us hl => match us, hl with | [_, _], _ => rfl), kb1 Fi (fun _ _ _ _ _ _ u ws hl => match ws, hl with | [_], _ => rfl)⟩, M.oex, M.ini, M.fn, gl 53 "NoLot" rfl⟩
  have ez_NoParts : Ez P w K mg base "NoParts" ["lot"] [0] ["lot"] [0] := by
    obtain ⟨fi, Fi⟩ := cd.def_ 52 rfl
    have M := ezB_ok e_ez_NoParts
    exact ⟨⟨fi, ["self", "lot"], fnok_N1 Fi ⟨rfl, rfl, rfl, by decide +kernel, rfl, by decide +kernel, by decide +kernel⟩ M.oex (M.no _ (by simp)) (Or.inl rfl) (Or.inl rfl) (by decide) (by decide), Fi.bindsN (fun _ _ _ _ _ _ us hl => match us, hl with | [_, _], _ => rfl), kb1 Fi (fun _ _ _ _ _ _ u ws hl => match ws, hl with | [_], _ => rfl)⟩, M.oex, M.ini, M.fn, gl 54 "NoParts" rfl⟩
  have ez_NoPlace : Ez P w K mg base "NoPlace" ["thing"] [0] ["thing"] [0] := by
    obtain ⟨fi, Fi⟩ := cd.def_ 53 rfl
    have M := ezB_ok e_ez_NoPlace
    exact ⟨⟨fi, ["self", "thing"], fnok_N1 Fi ⟨rfl, rfl, rfl, by decide +kernel, rfl, by decide +kernel, by decide +kernel⟩ M.oex (M.no _ (by simp)) (Or.inl rfl) (Or.inl rfl) (by decide) (by decide), Fi.bindsN (fun _ _ _ _ _ _ us hl => match us, hl with | [_, _], _ => rfl), kb1 Fi (fun _ _ _ _ _ _ u ws hl => match ws, hl with | [_], _ => rfl)⟩, M.oex, M.ini, M.fn, gl 55 "NoPlace" rfl⟩
  have ez_NoRoot : Ez P w K mg base "NoRoot" ["place"] [0] ["place"] [0] := by
    obtain ⟨fi, Fi⟩ := cd.def_ 54 rfl
    have M := ezB_ok e_ez_NoRoot
    exact ⟨⟨fi, ["self", "place"], fnok_N1 Fi ⟨rfl, rfl, rfl, by decide +kernel, rfl, by decide +kernel, by decide +kernel⟩ M.oex (M.no _ (by simp)) (Or.inl rfl) (Or.inl rfl) (by decide) (by decide), Fi.bindsN (fun _ _ _ _ _ _ us hl => match us, hl with | [_, _], _ => rfl), kb1 Fi (fun _ _ _ _ _ _ u ws hl => match ws, hl with | [_], _ => rfl)⟩, M.oex, M.ini, M.fn, gl 56 "NoRoot" rfl⟩
  have ez_NoTie : Ez P w K mg base "NoTie" ["other", "one"] [1, 0] ["other", "one"] [1, 0] := by
    obtain ⟨fi, Fi⟩ := cd.def_ 55 rfl
    have M := ezB_ok e_ez_NoTie
    exact ⟨⟨fi, ["self", "one", "other"], fnok_N2 Fi ⟨rfl, rfl, rfl, by decide +kernel, rfl, by decide +kernel, by decide +kernel⟩ M.oex (M.no _ (by simp)) (M.no _ (by simp)) (Or.inl rfl) (Or.inl rfl) (Or.inl rfl) (by decide) (by decide) (by decide) (by decide), Fi.bindsN (fun _ _ _ _ _ _ us hl => match us, hl with | [_, _, _], _ => rfl), kb1 Fi (fun _ _ _ _ _ _ u ws hl => match ws, hl with | [_, _], _ => rfl)⟩, M.oex, M.ini, M.fn, gl 57 "NoTie" rfl⟩
  have ez_NotFull : Ez0 K mg "NotFull" := ez0B_ok e_ez_NotFull (gl 58 "NotFull" rfl)
  have ez_NotNow : Ez P w K mg base "NotNow" ["why"] [0] ["why"] [0] := by
    obtain ⟨fi, Fi⟩ := cd.def_ 56 rfl
    have M := ezB_ok e_ez_NotNow
    exact ⟨⟨fi, ["self", "why"], fnok_N1 Fi ⟨rfl, rfl, rfl, by decide +kernel, rfl, by decide +kernel, by decide +kernel⟩ M.oex (M.no _ (by simp)) (Or.inl rfl) (Or.inl rfl) (by decide) (by decide), Fi.bindsN (fun _ _ _ _ _ _ us hl => match us, hl with | [_, _], _ => rfl), kb1 Fi (fun _ _ _ _ _ _ u ws hl => match ws, hl with | [_], _ => rfl)⟩, M.oex, M.ini, M.fn, gl 59 "NotNow" rfl⟩
  have ez_NotThere : Ez P w K mg base "NotThere" ["lot"] [0] ["lot"] [0] := by
    obtain ⟨fi, Fi⟩ := cd.def_ 57 rfl
    have M := ezB_ok e_ez_NotThere
    exact ⟨⟨fi, ["self", "lot"], fnok_N1 Fi ⟨rfl, rfl, rfl, by decide +kernel, rfl, by decide +kernel, by decide +kernel⟩ M.oex (M.no _ (by simp)) (Or.inl rfl) (Or.inl rfl) (by decide) (by decide), Fi.bindsN (fun _ _ _ _ _ _ us hl => match us, hl with | [_, _], _ => rfl), kb1 Fi (fun _ _ _ _ _ _ u ws hl => match ws, hl with | [_], _ => rfl)⟩, M.oex, M.ini, M.fn, gl 60 "NotThere" rfl⟩
  have ez_NotWatched : Ez P w K mg base "NotWatched" ["question"] [0] ["question"] [0] := by
    obtain ⟨fi, Fi⟩ := cd.def_ 58 rfl
    have M := ezB_ok e_ez_NotWatched
    exact ⟨⟨fi, ["self", "question"], fnok_N1 Fi ⟨rfl, rfl, rfl, by decide +kernel, rfl, by decide +kernel, by decide +kernel⟩ M.oex (M.no _ (by simp)) (Or.inl rfl) (Or.inl rfl) (by decide) (by decide), Fi.bindsN (fun _ _ _ _ _ _ us hl => match us, hl with | [_, _], _ => rfl), kb1 Fi (fun _ _ _ _ _ _ u ws hl => match ws, hl with | [_], _ => rfl)⟩, M.oex, M.ini, M.fn, gl 61 "NotWatched" rfl⟩
  have ez_OtherPlaces : Ez0 K mg "OtherPlaces" := ez0B_ok e_ez_OtherPlaces (gl 62 "OtherPlaces" rfl)
  have ez_SamePlace : Ez P w K mg base "SamePlace" ["thing"] [0] ["thing"] [0] := by
    obtain ⟨fi, Fi⟩ := cd.def_ 59 rfl
    have M := ezB_ok e_ez_SamePlace
    exact ⟨⟨fi, ["self", "thing"], fnok_N1 Fi ⟨rfl, rfl, rfl, by decide +kernel, rfl, by decide +kernel, by decide +kernel⟩ M.oex (M.no _ (by simp)) (Or.inl rfl) (Or.inl rfl) (by decide) (by decide), Fi.bindsN (fun _ _ _ _ _ _ us hl => match us, hl with | [_, _], _ => rfl), kb1 Fi (fun _ _ _ _ _ _ u ws hl => match ws, hl with | [_], _ => rfl)⟩, M.oex, M.ini, M.fn, gl 63 "SamePlace" rfl⟩
  have ez_SavesNothing : Ez P w K mg base "SavesNothing" ["lot"] [0] ["lot"] [0] := by
    obtain ⟨fi, Fi⟩ := cd.def_ 60 rfl
    have M := ezB_ok e_ez_SavesNothing
    exact ⟨⟨fi, ["self", "lot"], fnok_N1 Fi ⟨rfl, rfl, rfl, by decide +kernel, rfl, by decide +kernel, by decide +kernel⟩ M.oex (M.no _ (by simp)) (Or.inl rfl) (Or.inl rfl) (by decide) (by decide), Fi.bindsN (fun _ _ _ _ _ _ us hl => match us, hl with | [_, _], _ => rfl), kb1 Fi (fun _ _ _ _ _ _ u ws hl => match ws, hl with | [_], _ => rfl)⟩, M.oex, M.ini, M.fn, gl 64 "SavesNothing" rfl⟩
  have ez_WouldChange : Ez P w K mg base "WouldChange" ["why", "question"] [1, 0] ["why", "question"] [1, 0] := by
    obtain ⟨fi, Fi⟩ := cd.def_ 61 rfl
    have M := ezB_ok e_ez_WouldChange
    exact ⟨⟨fi, ["self", "question", "why"], fnok_N2 Fi ⟨rfl, rfl, rfl, by decide +kernel, rfl, by decide +kernel, by decide +kernel⟩ M.oex (M.no _ (by simp)) (M.no _ (by simp)) (Or.inl rfl) (Or.inl rfl) (Or.inl rfl) (by decide) (by decide) (by decide) (by decide), Fi.bindsN (fun _ _ _ _ _ _ us hl => match us, hl with | [_, _, _], _ => rfl), kb1 Fi (fun _ _ _ _ _ _ u ws hl => match ws, hl with | [_, _], _ => rfl)⟩, M.oex, M.ini, M.fn, gl 65 "WouldChange" rfl⟩
  obtain ⟨f_law_start, F_law_start_⟩ := cd.def_ 62 rfl
  have c_law_start : Cal P w K mg base "_law_start" ["script"] (spP K T 1 F_law_start) 1 := d_law_start fx F_law_start_ (gl 66 "_law_start" rfl)
  obtain ⟨f_law_made_c, F_law_made_c_⟩ := cd.def_ 67 rfl
  have c_law_made_c : Cal P w K mg base "_law_made_c" ["x", "y", "z"] (spP K T 3 F_law_made_c) 4 := d_law_made_c fx ez_BadSplit ez_BadTable ez_BadText ez_BadTies ez_BadTold ez_BadTree ez_BadTriple ez_BadTriples ez_BadTwice ez_BadWeb ez_Crossing ez_InUse ez_IsThere ez_IsWatched ez_NoCount ez_NoFrame ez_NoLot ez_NoParts (hTB _ (List.mem_map.mpr ⟨("_law_made_c", none), by decide, rfl⟩)) (hT ("_law_made_c", none) (by decide)).1 (hT ("_law_made_c", none) (by decide)).2 F_law_made_c_ (gl 71 "_law_made_c" rfl)
  obtain ⟨f_law_made_d, F_law_made_d_⟩ := cd.def_ 68 rfl
  have c_law_made_d : Cal P w K mg base "_law_made_d" ["x", "y", "z"] (spP K T 3 F_law_made_d) 4 := d_law_made_d fx ez_NoPlace ez_NoRoot ez_NoTie ez_NotFull ez_NotNow ez_NotThere ez_NotWatched ez_OtherPlaces ez_SamePlace ez_SavesNothing ez_WouldChange (hTB _ (List.mem_map.mpr ⟨("_law_made_d", none), by decide, rfl⟩)) (hT ("_law_made_d", none) (by decide)).1 (hT ("_law_made_d", none) (by decide)).2 F_law_made_d_ (gl 72 "_law_made_d" rfl)
  obtain ⟨f_law_draw, F_law_draw_⟩ := cd.def_ 63 rfl
  have c_law_draw : Cal P w K mg base "_law_draw" ["stream", "many"] (spM K T 1 F_law_draw) 1 := d_law_draw fx F_law_draw_ (gl 67 "_law_draw" rfl)
  obtain ⟨f_law_mixed, F_law_mixed_⟩ := cd.def_ 64 rfl
  have c_law_mixed : Cal P w K mg base "_law_mixed" ["stream", "some"] (spM K T 1 F_law_mixed) 2 := d_law_mixed fx c_law_draw F_law_mixed_ (gl 68 "_law_mixed" rfl)
  obtain ⟨f_law_made_a, F_law_made_a_⟩ := cd.def_ 65 rfl
  have c_law_made_a : Cal P w K mg base "_law_made_a" ["x", "y", "z"] (spP K T 3 F_law_made_a) 4 := d_law_made_a fx ez_BadDeed ez_BadForest ez_BadForm ez_BadFrame ez_BadFrames ez_BadGauge ez_BadGrove ez_BadHeight ez_BadHigh ez_BadHollow ez_BadKind ez_BadLevels ez_BadLosses ez_BadLot ez_BadLots ez_BadLow ez_BadMany ez_BadMost (hTB _ (List.mem_map.mpr ⟨("_law_made_a", none), by decide, rfl⟩)) (hT ("_law_made_a", none) (by decide)).1 (hT ("_law_made_a", none) (by decide)).2 F_law_made_a_ (gl 69 "_law_made_a" rfl)
  obtain ⟨f_law_made_b, F_law_made_b_⟩ := cd.def_ 66 rfl
  have c_law_made_b : Cal P w K mg base "_law_made_b" ["x", "y", "z"] (spP K T 3 F_law_made_b) 4 := d_law_made_b fx ez_BadName ez_BadNest ez_BadNumber ez_BadOrder ez_BadOther ez_BadParting ez_BadPicture ez_BadPlaces ez_BadPrice ez_BadPriced ez_BadPulls ez_BadQuestion ez_BadRoots ez_BadRows ez_BadSession ez_BadSharing ez_BadSome ez_BadSorter (hTB _ (List.mem_map.mpr ⟨("_law_made_b", none), by decide, rfl⟩)) (hT ("_law_made_b", none) (by decide)).1 (hT ("_law_made_b", none) (by decide)).2 F_law_made_b_ (gl 70 "_law_made_b" rfl)
  obtain ⟨f_law_kinds_d, F_law_kinds_d_⟩ := cd.def_ 72 rfl
  have c_law_kinds_d : Cal P w K mg base "_law_kinds_d" ["e"] (spP K T 1 F_law_kinds_d) 1 := d_law_kinds_d fx F_law_kinds_d_ (gl 76 "_law_kinds_d" rfl)
  obtain ⟨f_law_kinds_c, F_law_kinds_c_⟩ := cd.def_ 71 rfl
  have c_law_kinds_c : Cal P w K mg base "_law_kinds_c" ["e"] (spP K T 1 F_law_kinds_c) 1 := d_law_kinds_c fx F_law_kinds_c_ (gl 75 "_law_kinds_c" rfl)
  obtain ⟨f_law_kinds_a, F_law_kinds_a_⟩ := cd.def_ 69 rfl
  have c_law_kinds_a : Cal P w K mg base "_law_kinds_a" ["e"] (spP K T 1 F_law_kinds_a) 1 := d_law_kinds_a fx F_law_kinds_a_ (gl 73 "_law_kinds_a" rfl)
  obtain ⟨f_law_kinds_b, F_law_kinds_b_⟩ := cd.def_ 70 rfl
  have c_law_kinds_b : Cal P w K mg base "_law_kinds_b" ["e"] (spP K T 1 F_law_kinds_b) 1 := d_law_kinds_b fx F_law_kinds_b_ (gl 74 "_law_kinds_b" rfl)
  obtain ⟨f_law_kinds, F_law_kinds_⟩ := cd.def_ 73 rfl
  have c_law_kinds : Cal P w K mg base "_law_kinds" ["e"] (spP K T 1 F_law_kinds) 2 := d_law_kinds fx c_law_kinds_d c_law_kinds_c c_law_kinds_a c_law_kinds_b F_law_kinds_ (gl 77 "_law_kinds" rfl)
  obtain ⟨f_law_same, F_law_same_⟩ := cd.def_ 75 rfl
  have c_law_same : Cal P w K mg base "_law_same" ["found", "due"] (spP K T 2 (F_law_same 16)) 17 := d_law_same fx F_law_same_ (gl 79 "_law_same" rfl) 16
  obtain ⟨f_law_are_these, F_law_are_these_⟩ := cd.def_ 76 rfl
  have c_law_are_these : Cal P w K mg base "_law_are_these" ["found", "due"] (spP K T 2 F_law_are_these) 18 := d_law_are_these fx c_law_same F_law_are_these_ (gl 80 "_law_are_these" rfl)
  obtain ⟨f_law_is_own, F_law_is_own_⟩ := cd.def_ 74 rfl
  have c_law_is_own : Cal P w K mg base "_law_is_own" ["e", "at"] (spP K T 2 F_law_is_own) 3 := d_law_is_own fx c_law_kinds F_law_is_own_ (gl 78 "_law_is_own" rfl)
  have hL_law : ∀ (x : Str) (r : LamR) (F : Fp), lt_law.lookup x = some (r, F) → LamOk P w K mg base 1 r (spP K T 1 F) := ltab_all (p := fun r F => LamOk P w K mg base 1 r (spP K T 1 F)) (by
    unfold lt_law lt_law_made_a lt_law_made_b lt_law_made_c lt_law_made_d
    exact (List.forall_mem_cons.mpr ⟨lok_law_made_a0 fx, (List.forall_mem_cons.mpr ⟨lok_law_made_a1 fx, (List.forall_mem_cons.mpr ⟨lok_law_made_a2 fx, (List.forall_mem_cons.mpr ⟨lok_law_made_a3 fx, (List.forall_mem_cons.mpr ⟨lok_law_made_a4 fx, (List.forall_mem_cons.mpr ⟨lok_law_made_a5 fx, (List.forall_mem_cons.mpr ⟨lok_law_made_a6 fx, (List.forall_mem_cons.mpr ⟨lok_law_made_a7 fx, (List.forall_mem_cons.mpr ⟨lok_law_made_a8 fx, (List.forall_mem_cons.mpr ⟨lok_law_made_a9 fx, (List.forall_mem_cons.mpr ⟨lok_law_made_a10 fx, (List.forall_mem_cons.mpr ⟨lok_law_made_a11 fx, (List.forall_mem_cons.mpr ⟨lok_law_made_a12 fx, (List.forall_mem_cons.mpr ⟨lok_law_made_a13 fx, (List.forall_mem_cons.mpr ⟨lok_law_made_a14 fx, (List.forall_mem_cons.mpr ⟨lok_law_made_a15 fx, (List.forall_mem_cons.mpr ⟨lok_law_made_a16 fx, (List.forall_mem_cons.mpr ⟨lok_law_made_a17 fx, (List.forall_mem_cons.mpr ⟨lok_law_made_b0 fx, (List.forall_mem_cons.mpr ⟨lok_law_made_b1 fx, (List.forall_mem_cons.mpr ⟨lok_law_made_b2 fx, (List.forall_mem_cons.mpr ⟨lok_law_made_b3 fx, (List.forall_mem_cons.mpr ⟨lok_law_made_b4 fx, (List.forall_mem_cons.mpr ⟨lok_law_made_b5 fx, (List.forall_mem_cons.mpr ⟨lok_law_made_b6 fx, (List.forall_mem_cons.mpr ⟨lok_law_made_b7 fx, (List.forall_mem_cons.mpr ⟨lok_law_made_b8 fx, (List.forall_mem_cons.mpr ⟨lok_law_made_b9 fx, (List.forall_mem_cons.mpr ⟨lok_law_made_b10 fx, (List.forall_mem_cons.mpr ⟨lok_law_made_b11 fx, (List.forall_mem_cons.mpr ⟨lok_law_made_b12 fx, (List.forall_mem_cons.mpr ⟨lok_law_made_b13 fx, (List.forall_mem_cons.mpr ⟨lok_law_made_b14 fx, (List.forall_mem_cons.mpr ⟨lok_law_made_b15 fx, (List.forall_mem_cons.mpr ⟨lok_law_made_b16 fx, (List.forall_mem_cons.mpr ⟨lok_law_made_b17 fx, (List.forall_mem_cons.mpr ⟨lok_law_made_c0 fx, (List.forall_mem_cons.mpr ⟨lok_law_made_c1 fx, (List.forall_mem_cons.mpr ⟨lok_law_made_c2 fx, (List.forall_mem_cons.mpr ⟨lok_law_made_c3 fx, (List.forall_mem_cons.mpr ⟨lok_law_made_c4 fx, (List.forall_mem_cons.mpr ⟨lok_law_made_c5 fx, (List.forall_mem_cons.mpr ⟨lok_law_made_c6 fx, (List.forall_mem_cons.mpr ⟨lok_law_made_c7 fx, (List.forall_mem_cons.mpr ⟨lok_law_made_c8 fx, (List.forall_mem_cons.mpr ⟨lok_law_made_c9 fx, (List.forall_mem_cons.mpr ⟨lok_law_made_c10 fx, (List.forall_mem_cons.mpr ⟨lok_law_made_c11 fx, (List.forall_mem_cons.mpr ⟨lok_law_made_c12 fx, (List.forall_mem_cons.mpr ⟨lok_law_made_c13 fx, (List.forall_mem_cons.mpr ⟨lok_law_made_c14 fx, (List.forall_mem_cons.mpr ⟨lok_law_made_c15 fx, (List.forall_mem_cons.mpr ⟨lok_law_made_c16 fx, (List.forall_mem_cons.mpr ⟨lok_law_made_c17 fx, (List.forall_mem_cons.mpr ⟨lok_law_made_d0 fx, (List.forall_mem_cons.mpr ⟨lok_law_made_d1 fx, (List.forall_mem_cons.mpr ⟨lok_law_made_d2 fx, (List.forall_mem_cons.mpr ⟨lok_law_made_d3 fx, (List.forall_mem_cons.mpr ⟨lok_law_made_d4 fx, (List.forall_mem_cons.mpr ⟨lok_law_made_d5 fx, (List.forall_mem_cons.mpr ⟨lok_law_made_d6 fx, (List.forall_mem_cons.mpr ⟨lok_law_made_d7 fx, (List.forall_mem_cons.mpr ⟨lok_law_made_d8 fx, (List.forall_mem_cons.mpr ⟨lok_law_made_d9 fx, (List.forall_mem_cons.mpr ⟨lok_law_made_d10 fx, (fun _ z => nomatch z)⟩)⟩)⟩)⟩)⟩)⟩)⟩)⟩)⟩)⟩)⟩)⟩)⟩)⟩)⟩)⟩)⟩)⟩)⟩)⟩)⟩)⟩)⟩)⟩)⟩)⟩)⟩)⟩)⟩)⟩)⟩)⟩)⟩)⟩)⟩)⟩)⟩)⟩)⟩)⟩)⟩)⟩)⟩)⟩)⟩)⟩)⟩)⟩)⟩)⟩)⟩)⟩)⟩)⟩)⟩)⟩)⟩)⟩)⟩)⟩)⟩)⟩)⟩)⟩)⟩))
  exact n_law fx c_law_start c_law_made_c c_law_made_d c_law_mixed c_law_made_a c_law_made_b c_law_kinds c_law_are_these c_law_is_own ez_NestError hL_law Fl
end K00
end
set_option Elab.async false
set_option linter.all false
set_option autoImplicit false
set_option maxRecDepth 100000
set_option maxHeartbeats 0
namespace K00
open PySem PySem.Spec PySem.W PyProof.Rows L2 IL LamX IS
theorem scr_rep {K : PySem.W.Frag} {H : Hp} {a : Addr} {ns : List Int} (hl : ns.length ≤ sizeLine) (h : SqL K H a (ns.map V.int)) : ∃ (F : Addr → Prop) (d : D), Rep K F H (.ref a) d [] ∧ (∀ b, F b → Live H b) ∧ d.items = some (ns.map .int) ∧ (d = .scr ns ∨ d = .lst false (ns.map .int)) := by
  rcases h with (h | ⟨o, h⟩) | h
  · exact ⟨fun b => b = a, .lst false (ns.map .int), .lstF rfl (.inl h) (by simpa using hl) ints_rep, fun b e => by subst e; exact ⟨_, h, fun ps e => nomatch e⟩, rfl, .inr rfl⟩
  · exact ⟨fun _ => False, .scr ns, .scr (fun H' h' => .inl (.inr ⟨o, h' o h⟩)), fun b e => e.elim, rfl, .inl rfl⟩
  · exact ⟨fun _ => False, .scr ns, .scr (fun H' h' => .inr h), fun b e => e.elim, rfl, .inl rfl⟩
theorem at_law {w : World} {K : PySem.W.Frag} {h : Heap} {mg : Str → Option Value} {fa' : Addr} (X : K.In h) (G : h.Ns mainGlobals mg) (c : He.SaysX fa fn [] tf ex w h K) (hm0 : mg (HandSHeadRun.topDef (PySem.W.OpenLaw.row PySem.Challenge.rw_nestprices_k00_errors_made).prog 83).name = some (.ref fa')) :
    LawAtS PySem.Challenge.rw_nestprices_k00_errors_made w K (L2.CX (PySem.Challenge.rw_nestprices_k00_errors_made).prog w) 19 63 "script" mg fa' h := by
  have hm : mg ("law" : Str) = some (.ref fa') := by
    have e : (HandSHeadRun.topDef (PySem.W.OpenLaw.row PySem.Challenge.rw_nestprices_k00_errors_made).prog 83).name = ("law" : Str) := by kernel_rfl
    rw [← e]
    exact hm0
  obtain ⟨fd, hb, hl, hF⟩ := facts (P := (PySem.Challenge.rw_nestprices_k00_errors_made).prog) (w := w) (T := tf.map fun n => ((He.cT K n).2, dq n ++ ".<locals>." ++ "<lambda>")) X G c (fun n hn => ⟨List.mem_map.mpr ⟨n, hn, rfl⟩, fun p hp e => by
    obtain ⟨m, hm, rfl⟩ := List.mem_map.mp hp
    rw [lam_ne c m hm n hn e]⟩)
  rw [hl] at hm
  cases hm
  refine ⟨fd, tf.map (He.cT K), _, fun p hp => ?_, fun p hp => ?_, fun p hp => ?_, hb, fun H a ns hlen hbits hT hS => ?_, fun base _ _ hTB => hF base hTB⟩
  · obtain ⟨n, hn, rfl⟩ := List.mem_map.mp hp
    exact c.empty n hn
  · obtain ⟨n, hn, rfl⟩ := List.mem_map.mp hp
    exact c.out n hn
  · obtain ⟨n, hn, rfl⟩ := List.mem_map.mp hp
    exact PySem.W.codeHd_of_K X (c.hd n hn)
  · obtain ⟨F, d, rd, lv, hi, hd⟩ := scr_rep (Nat.le_trans hlen (by rw [sl_sz]; decide)) hS
    refine ⟨rfl, F, [d], .single rd, lv, fun p hp => ?_, ?_⟩
    · obtain ⟨n, hn, rfl⟩ := List.mem_map.mp hp
      exact TabS.nil (hT _ (List.mem_map.mpr ⟨n, hn, rfl⟩))
    · rw [K00M.law_true d ns hlen hd]
      intro v F' H' fd' rv _ _ _ _ _
      exact rv.inv_bl
end K00
open PySem PySem.W PySem.Calls PyProof.Rows
set_option maxRecDepth 100000 in
set_option maxHeartbeats 0 in
theorem PySem.Challenge.cw_nestprices_k00_errors_made_holds : PySem.Challenge.rw_nestprices_k00_errors_made.Holds := by
  w_on; o_law
  refine HandSHeadRun.head_any (r := OpenLaw.row PySem.Challenge.rw_nestprices_k00_errors_made) (q := view (OpenLaw.row PySem.Challenge.rw_nestprices_k00_errors_made).prog [83]) (H := K00.hk) (ob := K00.ob) (M := 30000) (loose := K00.loose) (d := HandSHeadRun.topDef (OpenLaw.row PySem.Challenge.rw_nestprices_k00_errors_made).prog 83) (kwd := []) K00.ob_eq
    (by kernel_rfl) (fun s => by kernel_rfl) K00.run (by kernel_rfl) (by kernel_rfl) (by kernel_rfl) (by rfl) (by first | assumption | decide +kernel) (by decide +kernel) ⟨rfl, rfl, rfl, rfl, rfl, by decide +kernel⟩ ?hw ?hc
  case hw => w_witness2
  case hc =>
    refine LamX.walk_ofTsE (l := PySem.Challenge.rw_nestprices_k00_errors_made) (n := 63) (k := 19) (x := "script") (CX := fun w => L2.CX (PySem.Challenge.rw_nestprices_k00_errors_made).prog w) rfl (by decide) (by kernel_rfl) ⟨rfl, by decide, by decide⟩ ?F (fun _ _ _ _ _ ⟨_, _, _, _, _, _, _, _, _, _, _, _, z⟩ => z)
    intro w mg fa h Y G hmg0
    obtain ⟨K, KX, c⟩ := Y
    exact ⟨K, KX, K00.at_law KX G c hmg0⟩
