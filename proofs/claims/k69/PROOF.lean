import PyProof.Rows.All
import Wide.All
import OpenK.AllK
import Wide.FinOn
import KE.KStateDown
import Lean
import HandS.ForMost
import HandS.Exc
import HandS.TupAny
import HandS.IsInst
import HandS.Defaults
import HandS.ExcOwn
import PyProof.ReprRoads
import PyProof.CallFns
import HandS.ExcIs
import HandS.ExcField
import KE.KExcSuper
import HandS.HeadEnd
import HandS.Head0
import HandS.Head1
import HandS.Head2
import HandS.HeadHook1
import HandS.HeadHook2
import HandS.Style
import PySem.Challenge.RW_lentslots_k69_event_words_refused
set_option Elab.async false
set_option linter.all false
set_option maxRecDepth 100000
set_option maxHeartbeats 4000000
/-! Dn0: data without a heap, a store of mutable objects, results, the words of a mirror. -/
namespace Dn
open PySem (Str)
/-- a value: hnd h is the h-th mutable object of the store -/
inductive D where
  | non | bl (b : Bool) | int (i : Int) | str (s : Str) | tup (l : List D) | lst (l : List D)
  | fro (l : List D) | hnd (h : Nat) | exc (c : Nat) (l : List D) | cls (c : Nat)
/-- a mutable object -/
inductive MO where
  | lst (l : List D) | ins (c : Nat) (l : List (Str × D))
abbrev Store := List MO
inductive R (α : Type) where
  | ok (a : α) (s : Store) | ex (e : D) (s : Store) | no
abbrev Env := List (Option D)
abbrev E (α : Type) := Env → Store → R α
inductive SR where
  | nx (v : Env) (s : Store) | rt (d : D) (s : Store) | bk (v : Env) (s : Store) | ct (v : Env) (s : Store) | ex (e : D) (v : Env) (s : Store) | no
abbrev S := Env → Store → SR

/-! ### expressions -/
def eVar (i : Nat) : E D := fun v s => match v[i]? with
  | some (some d) => .ok d s
  | _ => .no
def eC (d : D) : E D := fun _ s => .ok d s
def eThen {α β : Type} (a : E α) (k : α → E β) : E β := fun v s => match a v s with
  | .ok x s1 => k x v s1
  | .ex e s1 => .ex e s1
  | .no => .no
/-- what a reckoning gives that leaves the store as it is -/
def ret {α : Type} (o : Option α) : E α := fun _ s => match o with
  | some x => .ok x s
  | none => .no
def retS {α : Type} (f : Store → Option α) : E α := fun _ s => match f s with
  | some x => .ok x s
  | none => .no
abbrev Op1 := Store → D → Option D
abbrev Op2 := Store → D → D → Option D
def eUn (f : Op1) (a : E D) : E D := eThen a fun x => retS fun s => f s x
def eOp (f : Op2) (a b : E D) : E D := eThen a fun x => eThen b fun y => retS fun s => f s x y
def eNil : E (List D) := fun _ s => .ok [] s
def eCons (a : E D) (r : E (List D)) : E (List D) := eThen a fun x => eThen r fun xs _ s => .ok (x :: xs) s
def eTup (a : E (List D)) : E D := eThen a fun xs _ s => .ok (.tup xs) s
def eLst (a : E (List D)) : E D := eThen a fun xs _ s => .ok (.lst xs) s
/-- a new mutable list -/
def eNew (a : E (List D)) : E D := eThen a fun xs _ s => .ok (.hnd s.length) (s ++ [.lst xs])
abbrev Fn := List D → Store → R D
def eCall (f : Fn) (a : E (List D)) : E D := eThen a fun xs _ s => f xs s
/-- a call of a thing that keeps the store -/
def eFn (f : Store → List D → Option D) (a : E (List D)) : E D := eThen a fun xs => retS fun s => f s xs
def eIf {α : Type} (t : E Bool) (a b : E α) : E α := eThen t fun c => if c then a else b
/-! ### tests -/
def asB : D → Option Bool
  | .bl b => some b
  | _ => none
def tV (a : E D) : E Bool := eThen a fun x => ret (asB x)
def tAnd (a b : E Bool) : E Bool := eThen a fun c => if c then b else fun _ s => .ok false s
def tOr (a b : E Bool) : E Bool := eThen a fun c => if c then (fun _ s => .ok true s) else b
def tNot (a : E Bool) : E Bool := eThen a fun c _ s => .ok (!c) s
/-- a bool as a value -/
def eB (a : E Bool) : E D := eThen a fun c _ s => .ok (.bl c) s

/-! ### statements -/
def sPass : S := fun v s => .nx v s
def sSeq (a b : S) : S := fun v s => match a v s with
  | .nx v1 s1 => b v1 s1
  | r => r
def sThen {α : Type} (a : E α) (k : α → S) : S := fun v s => match a v s with
  | .ok x s1 => k x v s1
  | .ex e s1 => .ex e v s1
  | .no => .no
/-- targets -/
abbrev Tg := D → Env → Store → Option (Env × Store)
def gN (i : Nat) : Tg := fun d v s => some (v.set i (some d), s)
def gNs : List Nat → List D → Env → Option Env
  | [], [], v => some v
  | i :: r, d :: l, v => gNs r l (v.set i (some d))
  | _, _, _ => none
def seqOf (s : Store) : D → Option (List D)
  | .tup l => some l
  | .lst l => some l
  | .fro l => some l
  | .hnd h => (match s[h]? with
    | some (.lst l) => some l
    | _ => none)
  | _ => none
def gT (is : List Nat) : Tg := fun d v s => match seqOf s d with
  | some l => (gNs is l v).map fun v1 => (v1, s)
  | none => none
def sSet (g : Tg) (a : E D) : S := sThen a fun x v s => match g x v s with
  | some (v1, s1) => .nx v1 s1
  | none => .no
def sIf (t : E Bool) (a b : S) : S := sThen t fun c => if c then a else b
def sRet (a : E D) : S := sThen a fun x _ s => .rt x s
def sRetN : S := fun _ s => .rt .non s
def sDrop (a : E D) : S := sThen a fun _ v s => .nx v s
def sBreak : S := fun v s => .bk v s
def sCont : S := fun v s => .ct v s
def sRaise (a : E D) : S := sThen a fun x v s => match x with
  | .exc c l => .ex (.exc c l) v s
  | _ => .no
/-- a[i] = e, a a mutable list -/
def ixN (n : Nat) (i : Int) : Option Nat := if 0 ≤ i then (if i < n then some i.toNat else none) else if -(n : Int) ≤ i then some (i + n).toNat else none
def putAt (s : Store) (o i x : D) : Option Store := match o, i with
  | .hnd h, .int k => (match s[h]? with
    | some (.lst l) => (ixN l.length k).map fun j => s.set h (.lst (l.set j x))
    | _ => none)
  | _, _ => none
def sPut (o i e : E D) : S := sThen e fun x => sThen o fun a => sThen i fun k v s => match putAt s a k x with
  | some s1 => .nx v s1
  | none => .no
/-- a.append(e) -/
def pushAt (s : Store) (o x : D) : Option Store := match o with
  | .hnd h => (match s[h]? with
    | some (.lst l) => if l.length < 100000 then some (s.set h (.lst (l ++ [x]))) else none
    | _ => none)
  | _ => none
def isL (s : Store) : D → Bool
  | .hnd h => (match s[h]? with
    | some (.lst _) => true
    | _ => false)
  | _ => false
def sPush (o e : E D) : S := sThen o fun a v s => if isL s a then sThen e (fun x v s => match pushAt s a x with
  | some s1 => .nx v s1
  | none => .no) v s else .no
/-! ### loops -/
/-- what a loop walks: its items; what must stay as it is meanwhile -/
structure Its where
  l : List D
  ok : Store → Bool
def loop (g : Tg) (body : S) (ok : Store → Bool) : List D → S
  | [], v, s => if ok s then .nx v s else .no
  | x :: r, v, s => if ok s then (match g x v s with
    | some (v1, s1) => (match body v1 s1 with
      | .nx v2 s2 => loop g body ok r v2 s2
      | .ct v2 s2 => loop g body ok r v2 s2
      | .bk v2 s2 => .nx v2 s2
      | o => o)
    | none => .no) else .no
def sFor (it : E Its) (g : Tg) (body : S) : S := sThen it fun J => loop g body J.ok J.l
def wloop (t : E Bool) (body : S) : Nat → S
  | 0, _, _ => .no
  | n + 1, v, s => match t v s with
    | .ok true s1 => (match body v s1 with
      | .nx v2 s2 => wloop t body n v2 s2
      | .ct v2 s2 => wloop t body n v2 s2
      | .bk v2 s2 => .nx v2 s2
      | o => o)
    | .ok false s1 => .nx v s1
    | .ex e s1 => .ex e v s1
    | .no => .no
def sWhile (fuel : Nat) (t : E Bool) (body : S) : S := wloop t body fuel
/-! ### comprehensions -/
def wipe (v : Env) : List Nat → Env
  | [] => v
  | i :: r => (wipe v r).set i none
def lcs (g : Tg) (t : E Bool) (e : E D) (vs : List Nat) (ok : Store → Bool) : List D → List D → E (List D)
  | [], acc, _, s => if ok s then .ok acc s else .no
  | x :: r, acc, v, s => if ok s && decide (acc.length < 100000) then (match g x (wipe v vs) s with
    | some (v1, s1) => (match t v1 s1 with
      | .ok true s2 => (match e v1 s2 with
        | .ok y s3 => lcs g t e vs ok r (acc ++ [y]) v s3
        | _ => .no)
      | .ok false s2 => lcs g t e vs ok r acc v s2
      | _ => .no)
    | none => .no) else .no
def eLc (it : E Its) (g : Tg) (t : E Bool) (e : E D) (vs : List Nat) : E D := eThen it fun J => eThen (lcs g t e vs J.ok J.l []) fun l _ s => .ok (.lst l) s
def tYes : E Bool := fun _ s => .ok true s
/-! ### a def -/
def env0 (n : Nat) (l : List D) : Env := l.map some ++ List.replicate (n - l.length) none
def body (n p : Nat) (b : S) : Fn := fun l s => if l.length = p then (match b (env0 n l) s with
    | .nx _ s1 => .ok .non s1
    | .rt d s1 => .ok d s1
    | .ex e _ s1 => .ex e s1
    | _ => .no) else .no
/-! ### the try of the laws: except C as e: m = e -/
def sTry (sub : Nat → Bool) (m i : Nat) (b : S) : S := fun v s => match b v s with
  | .ex (.exc c l) v1 s1 => if sub c then .nx ((v1.set m (some (.exc c l))).set i none) s1 else .ex (.exc c l) v1 s1
  | .ex _ _ _ => .no
  | r => r
end Dn
/-! Dn1: how values and objects of the tracked heap stand for data; what it is that a reading meets a mirror. -/
namespace Dn
open PySem PySem.Spec PyProof.Rows L2
/-- classes by number: where they stand, the names of an exception's fields -/
structure Pm where
  ca : Nat → Addr
  cf : Nat → List Str
/-- what is known: F, objects that never change; as, where the store's objects stand; pv, objects that no one else touches -/
structure Kw where
  F : Hp
  as : List Addr
  pv : Hp
structure Le (κ κ' : Kw) : Prop where
  f : ∀ a o, κ.F a = some o → κ'.F a = some o
  a : ∀ i a : Nat, κ.as[i]? = some a → κ'.as[i]? = some a
  p : κ'.pv = κ.pv
structure LeW (κ κ' : Kw) : Prop where
  f : ∀ a o, κ.F a = some o → κ'.F a = some o
  a : ∀ i a : Nat, κ.as[i]? = some a → κ'.as[i]? = some a
theorem LeW.refl (κ : Kw) : LeW κ κ := ⟨fun _ _ h => h, fun _ _ h => h⟩
theorem LeW.trans {a b c : Kw} (x : LeW a b) (y : LeW b c) : LeW a c := ⟨fun i o h => y.f i o (x.f i o h), fun i o h => y.a i o (x.a i o h)⟩
theorem Le.w {κ κ' : Kw} (q : Le κ κ') : LeW κ κ' := ⟨q.f, q.a⟩
theorem Le.refl (κ : Kw) : Le κ κ := ⟨fun _ _ h => h, fun _ _ h => h, rfl⟩
theorem Le.trans {a b c : Kw} (x : Le a b) (y : Le b c) : Le a c := ⟨fun i o h => y.f i o (x.f i o h), fun i o h => y.a i o (x.a i o h), y.p.trans x.p⟩
/-- an exception's object -/
def ExH (cls : Value) (d : Option Addr) (a : Addr) : HO := .ext fun h => ∃ (oe : Obj) (vs : Array Value), h.get? a = some oe ∧ Zc cls d oe ∧ oe.data = .fields vs
section
variable (K : PySem.W.Frag) (pm : Pm)
mutual
inductive Rep : Kw → V → D → Prop where
  | non {κ : Kw} : Rep κ .non .non
  | bl {κ : Kw} (b : Bool) : Rep κ (.bl b) (.bl b)
  | int {κ : Kw} (i : Int) : Rep κ (.int i) (.int i)
  | str {κ : Kw} (x : Str) : Rep κ (.str x) (.str x)
  | tup {κ : Kw} {a : Addr} {xs : List V} {l : List D} : SqT K κ.F a xs → RepAll κ xs l → Rep κ (.ref a) (.tup l)
  | lst {κ : Kw} {a : Addr} {xs : List V} {l : List D} : κ.F a = some (.lst xs) → RepAll κ xs l → Rep κ (.ref a) (.lst l)
  | fro {κ : Kw} {a : Addr} {xs : List V} {l : List D} : SqL K κ.F a xs → RepAll κ xs l → Rep κ (.ref a) (.fro l)
  | hnd {κ : Kw} {a : Addr} {h : Nat} : κ.as[h]? = some a → Rep κ (.ref a) (.hnd h)
  | exc {κ : Kw} {a : Addr} {d : Option Addr} {c : Nat} {l : List D} {dd : Addr} {vs : List V} : κ.F a = some (ExH (.ref (pm.ca c)) d a) → (l = [] ∨ d = some dd ∧ κ.F dd = some (.xd ((pm.cf c).zip vs))) → RepAll κ vs l → Rep κ (.ref a) (.exc c l)
  | cls {κ : Kw} (c : Nat) : Rep κ (.ref (pm.ca c)) (.cls c)
inductive RepAll : Kw → List V → List D → Prop where
  | nil {κ : Kw} : RepAll κ [] []
  | cons {κ : Kw} {v : V} {vs : List V} {d : D} {l : List D} : Rep κ v d → RepAll κ vs l → RepAll κ (v :: vs) (d :: l)
end
end
section
variable {K : PySem.W.Frag} {pm : Pm} {κ κ' : Kw}
theorem sqT_mono {H H' : Hp} {a : Addr} {xs : List V} (e : ∀ a o, H a = some o → H' a = some o) (h : SqT K H a xs) : SqT K H' a xs := by
  rcases h with (h | ⟨o, h⟩) | h
  · exact .inl (.inl (e _ _ h))
  · exact .inl (.inr ⟨o, e _ _ h⟩)
  · exact .inr h
theorem sqL_mono {H H' : Hp} {a : Addr} {xs : List V} (e : ∀ a o, H a = some o → H' a = some o) (h : SqL K H a xs) : SqL K H' a xs := by
  rcases h with (h | ⟨o, h⟩) | h
  · exact .inl (.inl (e _ _ h))
  · exact .inl (.inr ⟨o, e _ _ h⟩)
  · exact .inr h
mutual
theorem Rep.monoW (q : LeW κ κ') : ∀ {v : V} {d : D}, Rep K pm κ v d → Rep K pm κ' v d
  | _, _, .non => .non
  | _, _, .bl b => .bl b
  | _, _, .int i => .int i
  | _, _, .str x => .str x
  | _, _, .tup h r => .tup (sqT_mono q.f h) (RepAll.monoW q r)
  | _, _, .lst h r => .lst (q.f _ _ h) (RepAll.monoW q r)
  | _, _, .fro h r => .fro (sqL_mono q.f h) (RepAll.monoW q r)
  | _, _, .hnd h => .hnd (q.a _ _ h)
  | _, _, .exc h e r => .exc (q.f _ _ h) (e.imp id fun ⟨x, y⟩ => ⟨x, q.f _ _ y⟩) (RepAll.monoW q r)
  | _, _, .cls c => .cls c
theorem RepAll.monoW (q : LeW κ κ') : ∀ {vs : List V} {l : List D}, RepAll K pm κ vs l → RepAll K pm κ' vs l
  | _, _, .nil => .nil
  | _, _, .cons a b => .cons (Rep.monoW q a) (RepAll.monoW q b)
end
theorem Rep.mono (q : Le κ κ') {v : V} {d : D} (r : Rep K pm κ v d) : Rep K pm κ' v d := r.monoW q.w
theorem RepAll.mono (q : Le κ κ') {vs : List V} {l : List D} (r : RepAll K pm κ vs l) : RepAll K pm κ' vs l := r.monoW q.w
theorem RepAll.length : ∀ {vs : List V} {l : List D}, RepAll K pm κ vs l → vs.length = l.length
  | _, _, .nil => rfl
  | _, _, .cons _ b => by rw [List.length_cons, List.length_cons, RepAll.length b]
theorem RepAll.get : ∀ {vs : List V} {l : List D} {i : Nat} {d : D}, RepAll K pm κ vs l → l[i]? = some d → ∃ v, vs[i]? = some v ∧ Rep K pm κ v d
  | _, _, 0, _, .cons a _, h => by
    simp only [List.getElem?_cons_zero, Option.some.injEq] at h
    subst h
    exact ⟨_, rfl, a⟩
  | _, _, i + 1, _, .cons _ b, h => by
    simp only [List.getElem?_cons_succ] at h
    obtain ⟨v, e, r⟩ := RepAll.get b h
    exact ⟨v, by simpa using e, r⟩
  | _, _, _, _, .nil, h => by simp at h
theorem RepAll.get' : ∀ {vs : List V} {l : List D} {i : Nat} {v : V}, RepAll K pm κ vs l → vs[i]? = some v → ∃ d, l[i]? = some d ∧ Rep K pm κ v d
  | _, _, 0, _, .cons a _, h => by
    simp only [List.getElem?_cons_zero, Option.some.injEq] at h
    subst h
    exact ⟨_, rfl, a⟩
  | _, _, i + 1, _, .cons _ b, h => by
    simp only [List.getElem?_cons_succ] at h
    obtain ⟨v, e, r⟩ := RepAll.get' b h
    exact ⟨v, by simpa using e, r⟩
  | _, _, _, _, .nil, h => by simp at h
theorem RepAll.append : ∀ {vs ws : List V} {l m : List D}, RepAll K pm κ vs l → RepAll K pm κ ws m → RepAll K pm κ (vs ++ ws) (l ++ m)
  | _, _, _, _, .nil, s => s
  | _, _, _, _, .cons a b, s => .cons a (RepAll.append b s)
theorem RepAll.drop : ∀ (n : Nat) {vs : List V} {l : List D}, RepAll K pm κ vs l → RepAll K pm κ (vs.drop n) (l.drop n)
  | 0, _, _, r => r
  | _ + 1, _, _, .nil => .nil
  | n + 1, _, _, .cons _ b => RepAll.drop n b
theorem RepAll.take : ∀ (n : Nat) {vs : List V} {l : List D}, RepAll K pm κ vs l → RepAll K pm κ (vs.take n) (l.take n)
  | 0, _, _, _ => .nil
  | _ + 1, _, _, .nil => .nil
  | n + 1, _, _, .cons a b => .cons a (RepAll.take n b)
theorem RepAll.set {v : V} {d : D} (r : Rep K pm κ v d) : ∀ (i : Nat) {vs : List V} {l : List D}, RepAll K pm κ vs l → RepAll K pm κ (vs.set i v) (l.set i d)
  | _, _, _, .nil => .nil
  | 0, _, _, .cons _ b => .cons r b
  | i + 1, _, _, .cons a b => .cons a (RepAll.set r i b)
theorem RepAll.one {v : V} {d : D} (r : Rep K pm κ v d) : RepAll K pm κ [v] [d] := .cons r .nil
theorem RepAll.reverse : ∀ {vs : List V} {l : List D}, RepAll K pm κ vs l → RepAll K pm κ vs.reverse l.reverse
  | _, _, .nil => .nil
  | _, _, .cons a b => by
    rw [List.reverse_cons, List.reverse_cons]
    exact RepAll.append (RepAll.reverse b) (.one a)
theorem RepAll.strs : ∀ {vs : List V} {ss : List Str}, RepAll K pm κ vs (ss.map D.str) → vs = ss.map V.str
  | _, [], .nil => rfl
  | _, _ :: _, .cons a b => by
    cases a
    rw [RepAll.strs b]
    rfl
theorem RepAll.ofStrs : ∀ (ss : List Str), RepAll K pm κ (ss.map V.str) (ss.map D.str)
  | [] => .nil
  | x :: r => .cons (.str x) (RepAll.ofStrs r)
theorem RepAll.ofInts : ∀ (ns : List Int), RepAll K pm κ (ns.map V.int) (ns.map D.int)
  | [] => .nil
  | x :: r => .cons (.int x) (RepAll.ofInts r)
end
/-! ### the tracked heap holds the store -/
def MRep (K : PySem.W.Frag) (pm : Pm) (κ : Kw) (H : Hp) (a : Addr) : MO → Prop
  | .lst l => ∃ xs, H a = some (.lst xs) ∧ RepAll K pm κ xs l
  | .ins c l => ∃ dx vs, H a = some (.ins (pm.ca c) dx ((l.map (·.1)).zip vs)) ∧ RepAll K pm κ vs (l.map (·.2))
structure Wd (K : PySem.W.Frag) (pm : Pm) (κ : Kw) (s : Store) (H : Hp) : Prop where
  f : ∀ a o, κ.F a = some o → H a = some o
  p : ∀ a o, κ.pv a = some o → H a = some o ∧ κ.F a = none
  len : κ.as.length = s.length
  nd : κ.as.Nodup
  ob : ∀ (i : Nat) (a : Addr) (m : MO), κ.as[i]? = some a → s[i]? = some m → MRep K pm κ H a m
  sep : ∀ (i : Nat) (a : Addr), κ.as[i]? = some a → κ.F a = none ∧ κ.pv a = none
section
variable {K : PySem.W.Frag} {pm : Pm} {κ κ' : Kw} {s : Store} {H H' : Hp}
theorem MRep.mono {a : Addr} {m : MO} (q : LeW κ κ') (e : H' a = H a) (h : MRep K pm κ H a m) : MRep K pm κ' H' a m := by
  cases m with
  | lst l =>
    obtain ⟨xs, h1, h2⟩ := h
    exact ⟨xs, e.trans h1, h2.monoW q⟩
  | ins c l =>
    obtain ⟨dx, vs, h1, h2⟩ := h
    exact ⟨dx, vs, e.trans h1, h2.monoW q⟩
theorem MRep.some {a : Addr} {m : MO} (h : MRep K pm κ H a m) : ∃ o, H a = some o := by
  cases m with
  | lst l =>
    obtain ⟨xs, h1, h2⟩ := h
    exact ⟨_, h1⟩
  | ins c l =>
    obtain ⟨dx, vs, h1, h2⟩ := h
    exact ⟨_, h1⟩
theorem Wd.there (w : Wd K pm κ s H) {i : Nat} {a : Addr} (e : κ.as[i]? = some a) : ∃ o, H a = some o := by
  have hi : i < s.length := by
    rw [← w.len]
    exact (List.getElem?_eq_some_iff.mp e).1
  exact (w.ob i a s[i] e (by simp [hi])).some
theorem Wd.new_as (w : Wd K pm κ s H) {p : Addr} (hp : H p = none) : ∀ i : Nat, κ.as[i]? ≠ some p := fun i e => by
  obtain ⟨o, h⟩ := w.there e
  rw [hp] at h
  cases h
theorem Wd.new_F (w : Wd K pm κ s H) {p : Addr} (hp : H p = none) : κ.F p = none := by
  cases e : κ.F p with
  | none => rfl
  | some o =>
    have := w.f p o e
    rw [hp] at this
    cases this
theorem Wd.new_pv (w : Wd K pm κ s H) {p : Addr} (hp : H p = none) : κ.pv p = none := by
  cases e : κ.pv p with
  | none => rfl
  | some o =>
    have := (w.p p o e).1
    rw [hp] at this
    cases this
def Kw.add (κ : Kw) (p : Addr) (o : HO) : Kw := { κ with F := upd κ.F p o }
theorem Wd.add_le (w : Wd K pm κ s H) {p : Addr} (hp : H p = none) (o : HO) : Le κ (κ.add p o) :=
  ⟨fun a u h => by
    have : a ≠ p := fun z => by
      rw [z, w.new_F hp] at h
      cases h
    show upd κ.F p o a = some u
    rw [upd_ne this]
    exact h, fun _ _ h => h, rfl⟩
/-- a new object that never changes -/
theorem Wd.add (w : Wd K pm κ s H) {p : Addr} (hp : H p = none) (o : HO) : Wd K pm (κ.add p o) s (upd H p o) := by
  have nas := w.new_as hp
  refine ⟨fun a u h => ?_, fun a u h => ?_, w.len, w.nd, fun i a m e1 e2 => ?_, fun i a e => ?_⟩
  · have h' : upd κ.F p o a = some u := h
    by_cases e : a = p
    · subst e
      rw [upd_same] at h' ⊢
      exact h'
    · rw [upd_ne e] at h' ⊢
      exact w.f a u h'
  · obtain ⟨h1, h2⟩ := w.p a u h
    have e : a ≠ p := fun z => by
      rw [z, hp] at h1
      cases h1
    refine ⟨(upd_ne e).trans h1, ?_⟩
    show upd κ.F p o a = none
    rw [upd_ne e]
    exact h2
  · have e : a ≠ p := fun z => nas i (z ▸ e1)
    exact (w.ob i a m e1 e2).mono (w.add_le hp o).w (upd_ne e)
  · have e' : a ≠ p := fun z => nas i (z ▸ e)
    obtain ⟨h1, h2⟩ := w.sep i a e
    refine ⟨?_, h2⟩
    show upd κ.F p o a = none
    rw [upd_ne e']
    exact h1
/-- a new object of the store -/
def Kw.new (κ : Kw) (p : Addr) : Kw := { κ with as := κ.as ++ [p] }
theorem Kw.new_le (κ : Kw) (p : Addr) : Le κ (κ.new p) := ⟨fun _ _ h => h, fun i a h => by
  show (κ.as ++ [p])[i]? = some a
  rw [List.getElem?_append_left (List.getElem?_eq_some_iff.mp h).1]
  exact h, rfl⟩
theorem Kw.new_at (κ : Kw) (p : Addr) : (κ.new p).as[κ.as.length]? = some p := by
  show (κ.as ++ [p])[κ.as.length]? = some p
  simp
theorem Wd.newO (w : Wd K pm κ s H) {p : Addr} (hp : H p = none) (o : HO) (m : MO) (hm : MRep K pm (κ.new p) (upd H p o) p m) : Wd K pm (κ.new p) (s ++ [m]) (upd H p o) := by
  have nas := w.new_as hp
  refine ⟨fun a u h => ?_, fun a u h => ?_, ?_, ?_, fun i a m' e1 e2 => ?_, fun i a e => ?_⟩
  · have e : a ≠ p := fun z => by
      have := w.f a u h
      rw [z, hp] at this
      cases this
    exact (upd_ne e).trans (w.f a u h)
  · obtain ⟨h1, h2⟩ := w.p a u h
    have e : a ≠ p := fun z => by
      rw [z, hp] at h1
      cases h1
    exact ⟨(upd_ne e).trans h1, h2⟩
  · show (κ.as ++ [p]).length = (s ++ [m]).length
    rw [List.length_append, List.length_append, w.len]
    rfl
  · show (κ.as ++ [p]).Nodup
    rw [List.nodup_append]
    refine ⟨w.nd, by simp, fun a ha b hb => ?_⟩
    rw [List.mem_singleton] at hb
    subst hb
    obtain ⟨i, hi⟩ := List.mem_iff_getElem?.mp ha
    exact fun z => nas i (z ▸ hi)
  · have e1' : (κ.as ++ [p])[i]? = some a := e1
    by_cases hi : i < κ.as.length
    · rw [List.getElem?_append_left hi] at e1'
      rw [List.getElem?_append_left (by rw [← w.len]; exact hi)] at e2
      have e : a ≠ p := fun z => nas i (z ▸ e1')
      exact (w.ob i a m' e1' e2).mono (κ.new_le p).w (upd_ne e)
    · rw [List.getElem?_append_right (by omega)] at e1'
      rw [List.getElem?_append_right (by rw [← w.len]; omega), ← w.len] at e2
      have hz : i - κ.as.length = 0 := by
        have := (List.getElem?_eq_some_iff.mp e1').1
        simp at this
        omega
      rw [hz] at e1' e2
      simp at e1' e2
      subst e1'
      subst e2
      exact hm
  · have e' : (κ.as ++ [p])[i]? = some a := e
    by_cases hi : i < κ.as.length
    · rw [List.getElem?_append_left hi] at e'
      exact w.sep i a e'
    · rw [List.getElem?_append_right (by omega)] at e'
      have hz : i - κ.as.length = 0 := by
        have := (List.getElem?_eq_some_iff.mp e').1
        simp at this
        omega
      rw [hz] at e'
      simp at e'
      subst e'
      exact ⟨w.new_F hp, w.new_pv hp⟩
/-- an object of the store has changed -/
theorem Wd.put (w : Wd K pm κ s H) {h : Nat} {a : Addr} (ha : κ.as[h]? = some a) (o : HO) (m : MO) (hm : MRep K pm κ (upd H a o) a m) : Wd K pm κ (s.set h m) (upd H a o) := by
  obtain ⟨z1, z2⟩ := w.sep h a ha
  refine ⟨fun b u hb => ?_, fun b u hb => ?_, ?_, w.nd, fun i b m' e1 e2 => ?_, w.sep⟩
  · have e : b ≠ a := fun z => by
      rw [z, z1] at hb
      cases hb
    exact (upd_ne e).trans (w.f b u hb)
  · have e : b ≠ a := fun z => by
      rw [z, z2] at hb
      cases hb
    exact ⟨(upd_ne e).trans (w.p b u hb).1, (w.p b u hb).2⟩
  · rw [List.length_set]
    exact w.len
  · by_cases e : i = h
    · subst e
      rw [ha] at e1
      cases e1
      have hi : i < s.length := by
        rw [← w.len]
        exact (List.getElem?_eq_some_iff.mp ha).1
      rw [List.getElem?_set_self hi] at e2
      cases e2
      exact hm
    · rw [List.getElem?_set_ne (fun z => e z.symm)] at e2
      have e' : b ≠ a := fun z => by
        subst z
        obtain ⟨h1, q1⟩ := List.getElem?_eq_some_iff.mp e1
        obtain ⟨h2, q2⟩ := List.getElem?_eq_some_iff.mp ha
        exact e ((List.getElem_inj w.nd).mp (q1.trans q2.symm))
      exact (w.ob i b m' e1 e2).mono (LeW.refl κ) (upd_ne e')
end
end Dn
/-! Dn2: a reading meets a mirror: expressions, tests, argument lists. -/
namespace Dn
open PySem PySem.Spec PyProof.Rows L2
section
variable {K : PySem.W.Frag} {pm : Pm}
/-- an exception in flight -/
def RepX (K : PySem.W.Frag) (pm : Pm) (κ : Kw) (cls : Value) (d : Option Addr) : D → Prop
  | .exc c l => cls = .ref (pm.ca c) ∧ ∃ (dd : Addr) (vs : List V), (l = [] ∨ d = some dd ∧ κ.F dd = some (.xd ((pm.cf c).zip vs))) ∧ RepAll K pm κ vs l
  | _ => False
theorem RepX.mono {κ κ' : Kw} {cls : Value} {d : Option Addr} {e : D} (q : Le κ κ') (h : RepX K pm κ cls d e) : RepX K pm κ' cls d e := by
  cases e with
  | exc c l =>
    obtain ⟨h1, dd, vs, h2, h3⟩ := h
    exact ⟨h1, dd, vs, h2.imp id fun ⟨x, y⟩ => ⟨x, q.f _ _ y⟩, h3.mono q⟩
  | _ => cases h
structure EnvOk (K : PySem.W.Frag) (pm : Pm) (κ : Kw) (σ : L2.St) (v : Env) : Prop where
  len : σ.length = v.length
  at_ : ∀ (i : Nat) (d : D), v[i]? = some (some d) → ∃ x, σ[i]? = some (some x) ∧ Rep K pm κ x d
theorem EnvOk.monoW {κ κ' : Kw} {σ : L2.St} {v : Env} (q : LeW κ κ') (h : EnvOk K pm κ σ v) : EnvOk K pm κ' σ v := ⟨h.len, fun i d e => by
  obtain ⟨x, h1, h2⟩ := h.at_ i d e
  exact ⟨x, h1, h2.monoW q⟩⟩
theorem EnvOk.mono {κ κ' : Kw} {σ : L2.St} {v : Env} (q : Le κ κ') (h : EnvOk K pm κ σ v) : EnvOk K pm κ' σ v := h.monoW q.w
theorem EnvOk.set {κ : Kw} {σ : L2.St} {v : Env} {x : V} {d : D} (h : EnvOk K pm κ σ v) (i : Nat) (r : Rep K pm κ x d) : EnvOk K pm κ (σ.set i (some x)) (v.set i (some d)) := by
  refine ⟨by rw [List.length_set, List.length_set]; exact h.len, fun j e q => ?_⟩
  by_cases hj : j = i
  · subst hj
    have hl : j < v.length := by
      have := (List.getElem?_eq_some_iff.mp q).1
      rw [List.length_set] at this
      exact this
    rw [List.getElem?_set_self hl] at q
    cases q
    exact ⟨x, by rw [List.getElem?_set_self (by rw [h.len]; exact hl)], r⟩
  · rw [List.getElem?_set_ne (fun z => hj z.symm)] at q
    obtain ⟨y, h1, h2⟩ := h.at_ j e q
    exact ⟨y, by rw [List.getElem?_set_ne (fun z => hj z.symm)]; exact h1, h2⟩
theorem EnvOk.unset {κ : Kw} {σ : L2.St} {v : Env} (h : EnvOk K pm κ σ v) (i : Nat) : EnvOk K pm κ (σ.set i none) (v.set i none) := by
  refine ⟨by rw [List.length_set, List.length_set]; exact h.len, fun j e q => ?_⟩
  by_cases hj : j = i
  · subst hj
    have hl : j < v.length := by
      have := (List.getElem?_eq_some_iff.mp q).1
      rw [List.length_set] at this
      exact this
    rw [List.getElem?_set_self hl] at q
    cases q
  · rw [List.getElem?_set_ne (fun z => hj z.symm)] at q
    obtain ⟨y, h1, h2⟩ := h.at_ j e q
    exact ⟨y, by rw [List.getElem?_set_ne (fun z => hj z.symm)]; exact h1, h2⟩
/-- what must be shown behind a reading, by its mirror's result -/
def Post {α β : Type} (K : PySem.W.Frag) (pm : Pm) (ρ : Kw → β → α → Prop) (W : WX) (σ : L2.St) (κ : Kw) (Q : β → Hp → Prop) : R α → Prop
  | .ok d s => ∀ (x : β) (κ' : Kw) (H : Hp), Le κ κ' → Wd K pm κ' s H → ρ κ' x d → Q x H
  | .ex e s => ∀ (cls : Value) (dd : Option Addr) (κ' : Kw) (H : Hp), Le κ κ' → Wd K pm κ' s H → RepX K pm κ' cls dd e → W cls dd σ H
  | .no => False
theorem Post.mono {α β : Type} {ρ : Kw → β → α → Prop} {W : WX} {σ : L2.St} {κ κ' : Kw} {Q : β → Hp → Prop} {r : R α} (q : Le κ κ') (h : Post K pm ρ W σ κ Q r) : Post K pm ρ W σ κ' Q r := by
  cases r with
  | ok d s => exact fun x κ2 H l => h x κ2 H (q.trans l)
  | ex e s => exact fun c d κ2 H l => h c d κ2 H (q.trans l)
  | no => exact h
abbrev TG' (β : Type) := L2.St → Hp → (β → Hp → Prop) → Prop
/-- from κ0 on the reading t meets the mirror g -/
def Ref {α β : Type} (K : PySem.W.Frag) (pm : Pm) (ρ : Kw → β → α → Prop) (W : WX) (κ0 : Kw) (t : TG' β) (g : E α) : Prop :=
  ∀ (κ : Kw), Le κ0 κ → ∀ (σ : L2.St) (v : Env) (s : Store) (H : Hp) (Q : β → Hp → Prop), Wd K pm κ s H → EnvOk K pm κ σ v → Post K pm ρ W σ κ Q (g v s) → t σ H Q
theorem Ref.up {α β : Type} {ρ : Kw → β → α → Prop} {W : WX} {κ0 κ1 : Kw} {t : TG' β} {g : E α} (q : Le κ0 κ1) (h : Ref K pm ρ W κ0 t g) : Ref K pm ρ W κ1 t g := fun κ l => h κ (q.trans l)
theorem Ref.bind {α β α' β' : Type} {ρ : Kw → β → α → Prop} {ρ' : Kw → β' → α' → Prop} {W : WX} {κ0 : Kw} {ta : TG' β} {ga : E α} {k : β → TG' β'} {gk : α → E α'} (ha : Ref K pm ρ W κ0 ta ga)
    (hk : ∀ (x : β) (d : α) (κ1 : Kw), Le κ0 κ1 → ρ κ1 x d → Ref K pm ρ' W κ1 (k x) (gk d)) : Ref K pm ρ' W κ0 (fun σ H Q => ta σ H fun x H1 => k x σ H1 Q) (eThen ga gk) := by
  intro κ l σ v s H Q w e p
  refine ha κ l σ v s H _ w e ?_
  unfold eThen at p
  cases q : ga v s with
  | ok d s1 =>
    rw [q] at p
    exact fun x κ1 H1 l1 w1 r => hk x d κ1 (l.trans l1) r κ1 (Le.refl κ1) σ v s1 H1 Q w1 (e.mono l1) (p.mono l1)
  | ex e1 s1 =>
    rw [q] at p
    exact p
  | no =>
    rw [q] at p
    exact p
/-- a thing that is reckoned -/
theorem Ref.retS {α β : Type} {ρ : Kw → β → α → Prop} {W : WX} {κ0 : Kw} {t : TG' β} {f : Store → Option α}
    (h : ∀ (d : α) (κ : Kw), Le κ0 κ → ∀ (σ : L2.St) (s : Store) (H : Hp) (Q : β → Hp → Prop), Wd K pm κ s H → f s = some d → (∀ (x : β) (κ' : Kw) (H' : Hp), Le κ κ' → Wd K pm κ' s H' → ρ κ' x d → Q x H') → t σ H Q) : Ref K pm ρ W κ0 t (Dn.retS f) := by
  intro κ l σ v s H Q w e p
  unfold Dn.retS at p
  cases q : f s with
  | none =>
    rw [q] at p
    exact p.elim
  | some d =>
    rw [q] at p
    exact h d κ l σ s H Q w q p
abbrev RefE (K : PySem.W.Frag) (pm : Pm) (W : WX) (t : TE) (g : E D) : Prop := ∀ κ, Ref K pm (Rep K pm) W κ t g
abbrev RefA (K : PySem.W.Frag) (pm : Pm) (W : WX) (t : TA) (g : E (List D)) : Prop := ∀ κ, Ref K pm (RepAll K pm) W κ t g
abbrev RelB : Kw → Bool → Bool → Prop := fun _ x d => x = d
abbrev RefT (K : PySem.W.Frag) (pm : Pm) (W : WX) (t : TT) (g : E Bool) : Prop := ∀ κ, Ref K pm RelB W κ t g
variable {W : WX}
theorem ref_var (i : Nat) : RefE K pm W (tVar i) (eVar i) := fun κ0 κ l σ v s H Q w e p => by
  unfold eVar at p
  cases q : v[i]? with
  | none =>
    rw [q] at p
    exact p.elim
  | some o =>
    cases o with
    | none =>
      rw [q] at p
      exact p.elim
    | some d =>
      rw [q] at p
      obtain ⟨x, h1, h2⟩ := e.at_ i d q
      exact ⟨x, h1, p x κ H (Le.refl κ) w h2⟩
theorem ref_c {x : V} {d : D} (h : ∀ κ, Rep K pm κ x d) : RefE K pm W (tC x) (eC d) := fun κ0 κ l σ v s H Q w e p => p x κ H (Le.refl κ) w (h κ)
/-- an operation by values -/
def Op2R (K : PySem.W.Frag) (pm : Pm) (r : R2) (f : Op2) : Prop :=
  ∀ (κ : Kw) (s : Store) (H : Hp) (x y : V) (dx dy d : D), Wd K pm κ s H → Rep K pm κ x dx → Rep K pm κ y dy → f s dx dy = some d →
    ∀ Q : VK, (∀ (z : V) (κ' : Kw) (H' : Hp), Le κ κ' → Wd K pm κ' s H' → Rep K pm κ' z d → Q z H') → r x y H Q
def Op1R (K : PySem.W.Frag) (pm : Pm) (r : V → Hp → VK → Prop) (f : Op1) : Prop :=
  ∀ (κ : Kw) (s : Store) (H : Hp) (x : V) (dx d : D), Wd K pm κ s H → Rep K pm κ x dx → f s dx = some d →
    ∀ Q : VK, (∀ (z : V) (κ' : Kw) (H' : Hp), Le κ κ' → Wd K pm κ' s H' → Rep K pm κ' z d → Q z H') → r x H Q
def FnR (K : PySem.W.Frag) (pm : Pm) (r : List V → Hp → VK → Prop) (f : Store → List D → Option D) : Prop :=
  ∀ (κ : Kw) (s : Store) (H : Hp) (xs : List V) (ds : List D) (d : D), Wd K pm κ s H → RepAll K pm κ xs ds → f s ds = some d →
    ∀ Q : VK, (∀ (z : V) (κ' : Kw) (H' : Hp), Le κ κ' → Wd K pm κ' s H' → Rep K pm κ' z d → Q z H') → r xs H Q
theorem ref_op {r : R2} {f : Op2} {ta tb : TE} {ga gb : E D} (hr : Op2R K pm r f) (ha : RefE K pm W ta ga) (hb : RefE K pm W tb gb) : RefE K pm W (tOp r ta tb) (eOp f ga gb) := fun κ0 =>
  Ref.bind (k := fun x σ H1 Q => tb σ H1 fun y H2 => r x y H2 Q) (gk := fun x => eThen gb fun y => Dn.retS fun s => f s x y) (ha κ0) fun x dx κ1 l1 r1 =>
    Ref.bind (k := fun y _ H2 Q => r x y H2 Q) (gk := fun y => Dn.retS fun s => f s dx y) (hb κ1) fun y dy κ2 l2 r2 =>
      Ref.retS fun d κ l σ s H Q w hd k => hr κ s H x y dx dy d w (r1.mono (l2.trans l)) (r2.mono l) hd Q k
theorem ref_un {r : V → Hp → VK → Prop} {f : Op1} {ta : TE} {ga : E D} (hr : Op1R K pm r f) (ha : RefE K pm W ta ga) : RefE K pm W (tUn r ta) (eUn f ga) := fun κ0 =>
  Ref.bind (k := fun x _ H1 Q => r x H1 Q) (gk := fun x => Dn.retS fun s => f s x) (ha κ0) fun x dx κ1 l1 r1 =>
    Ref.retS fun d κ l σ s H Q w hd k => hr κ s H x dx d w (r1.mono l) hd Q k
theorem ref_nil : RefA K pm W tNil eNil := fun κ0 κ l σ v s H Q w e p => p [] κ H (Le.refl κ) w .nil
theorem ref_cons {ta : TE} {tr : TA} {ga : E D} {gr : E (List D)} (ha : RefE K pm W ta ga) (hr : RefA K pm W tr gr) : RefA K pm W (tCons ta tr) (eCons ga gr) := fun κ0 =>
  Ref.bind (k := fun x σ H1 Q => tr σ H1 fun xs H2 => Q (x :: xs) H2) (gk := fun x => eThen gr fun xs _ s => .ok (x :: xs) s) (ha κ0) fun x dx κ1 l1 r1 =>
    Ref.bind (k := fun xs _ H2 Q => Q (x :: xs) H2) (gk := fun xs _ s => .ok (dx :: xs) s) (hr κ1) fun xs ds κ2 l2 r2 κ l σ v s H Q w e p => p _ κ H (Le.refl κ) w (.cons (r1.mono (l2.trans l)) (r2.mono l))
theorem ref_fn {r : List V → Hp → VK → Prop} {f : Store → List D → Option D} {ta : TA} {ga : E (List D)} (hr : FnR K pm r f) (ha : RefA K pm W ta ga) : RefE K pm W (tCB r ta) (eFn f ga) := fun κ0 =>
  Ref.bind (k := fun xs _ H1 Q => r xs H1 Q) (gk := fun xs => Dn.retS fun s => f s xs) (ha κ0) fun xs ds κ1 l1 r1 =>
    Ref.retS fun d κ l σ s H Q w hd k => hr κ s H xs ds d w (r1.mono l) hd Q k
/-- how many things an argument list gives -/
def Len (g : E (List D)) (n : Nat) : Prop := ∀ v s xs s1, g v s = .ok xs s1 → xs.length = n
theorem len_nil : Len eNil 0 := fun v s xs s1 h => by
  cases h
  rfl
theorem len_cons {a : E D} {r : E (List D)} {n : Nat} (h : Len r n) : Len (eCons a r) (n + 1) := fun v s xs s1 q => by
  unfold eCons eThen at q
  cases e : a v s with
  | ok x s2 =>
    rw [e] at q
    simp only at q
    cases e2 : r v s2 with
    | ok ys s3 =>
      rw [e2] at q
      cases q
      rw [List.length_cons, h v s2 ys _ e2]
    | ex _ _ =>
      rw [e2] at q
      cases q
    | no =>
      rw [e2] at q
      cases q
  | ex _ _ =>
    rw [e] at q
    cases q
  | no =>
    rw [e] at q
    cases q
theorem RepAll.size {κ : Kw} {xs : List V} {l : List D} {n : Nat} (r : RepAll K pm κ xs l) (h : l.length = n) (hn : n ≤ 10000) : xs.length ≤ sizeLine := by
  rw [r.length, h]
  exact Nat.le_trans hn (by decide)
/-- the display's rule wants the number of its things: Ref with a length beside -/
theorem ref_disp {mk : List V → HO} {mkD : List D → D} {ta : TA} {ga : E (List D)} {n : Nat} (hmk : ∀ (κ : Kw) (a : Addr) (xs : List V) (l : List D), κ.F a = some (mk xs) → RepAll K pm κ xs l → Rep K pm κ (.ref a) (mkD l)) (ha : RefA K pm W ta ga) (hl : Len ga n) (hn : n ≤ 10000) :
    RefE K pm W (fun σ H Q => ta σ H fun xs H1 => xs.length ≤ sizeLine ∧ ∀ p, H1 p = none → Q (.ref p) (upd H1 p (mk xs))) (eThen ga fun xs _ s => .ok (mkD xs) s) := fun κ0 κ l σ v s H Q w e p => by
  refine ha κ0 κ l σ v s H _ w e ?_
  unfold eThen at p
  cases q : ga v s with
  | ok d s1 =>
    rw [q] at p
    refine fun xs κ1 H1 l1 w1 r1 => ⟨r1.size (hl v s d s1 q) hn, fun a ha => ?_⟩
    refine p (.ref a) (κ1.add a (mk xs)) _ (l1.trans (w1.add_le ha _)) (w1.add ha _) (hmk _ a xs d ?_ (r1.mono (w1.add_le ha _)))
    exact upd_same
  | ex e1 s1 =>
    rw [q] at p
    exact p
  | no =>
    rw [q] at p
    exact p
theorem ref_tup {ta : TA} {ga : E (List D)} {n : Nat} (ha : RefA K pm W ta ga) (hl : Len ga n) (hn : n ≤ 10000) : RefE K pm W (tTup ta) (eTup ga) := ref_disp (mk := HO.tup) (mkD := D.tup) (fun κ a xs l h r => .tup (.inl (.inl h)) r) ha hl hn
theorem ref_lst {ta : TA} {ga : E (List D)} {n : Nat} (ha : RefA K pm W ta ga) (hl : Len ga n) (hn : n ≤ 10000) : RefE K pm W (tLst ta) (eLst ga) := ref_disp (mk := HO.lst) (mkD := D.lst) (fun κ a xs l h r => .lst h r) ha hl hn
/-- a list that will change -/
theorem ref_new {ta : TA} {ga : E (List D)} {n : Nat} (ha : RefA K pm W ta ga) (hl : Len ga n) (hn : n ≤ 10000) : RefE K pm W (tLst ta) (eNew ga) := fun κ0 κ l σ v s H Q w e p => by
  refine ha κ0 κ l σ v s H _ w e ?_
  unfold eNew eThen at p
  cases q : ga v s with
  | ok d s1 =>
    rw [q] at p
    refine fun xs κ1 H1 l1 w1 r1 => ⟨r1.size (hl v s d s1 q) hn, fun a ha => ?_⟩
    refine p (.ref a) (κ1.new a) _ (l1.trans (κ1.new_le a)) (w1.newO ha _ _ ⟨xs, upd_same, r1.mono (κ1.new_le a)⟩) ?_
    refine .hnd ?_
    rw [← w1.len]
    exact κ1.new_at a
  | ex e1 s1 =>
    rw [q] at p
    exact p
  | no =>
    rw [q] at p
    exact p
theorem ref_if {t : TT} {ta tb : TE} {g : E Bool} {ga gb : E D} (ht : RefT K pm W t g) (ha : RefE K pm W ta ga) (hb : RefE K pm W tb gb) : RefE K pm W (tIf t ta tb) (eIf g ga gb) := fun κ0 =>
  Ref.bind (k := fun c σ H1 Q => if c = true then ta σ H1 Q else tb σ H1 Q) (gk := fun c => if c then ga else gb) (ht κ0) fun x d κ1 l1 r1 => by
    cases r1
    cases x with
    | true => exact ha κ1
    | false => exact hb κ1
/-! ### tests -/
theorem ref_test {ta : TE} {ga : E D} (ha : RefE K pm W ta ga) : RefT K pm W (tTest ta) (tV ga) := fun κ0 =>
  Ref.bind (k := fun x _ H1 Q => ∃ k, x = .bl k ∧ Q k H1) (gk := fun x => Dn.ret (asB x)) (ha κ0) fun x d κ1 l1 r1 κ l σ v s H Q w e p => by
    unfold Dn.ret asB at p
    cases r1 with
    | bl b => exact ⟨b, rfl, p b κ H (Le.refl κ) w rfl⟩
    | _ => exact p.elim
theorem ref_testB {ta : TE} {ga : E D} (ha : RefE K pm W ta ga) : RefT K pm W (tB ta) (tV ga) := ref_test ha
theorem ref_and {t u : TT} {g h : E Bool} (ht : RefT K pm W t g) (hu : RefT K pm W u h) : RefT K pm W (L2.tAnd t u) (tAnd g h) := fun κ0 =>
  Ref.bind (k := fun c σ H1 Q => if c = true then u σ H1 Q else Q false H1) (gk := fun c => if c then h else fun _ s => .ok false s) (ht κ0) fun x d κ1 l1 r1 => by
    cases r1
    cases x with
    | true => exact hu κ1
    | false => exact fun κ l σ v s H Q w e p => p false κ H (Le.refl κ) w rfl
theorem ref_or {t u : TT} {g h : E Bool} (ht : RefT K pm W t g) (hu : RefT K pm W u h) : RefT K pm W (L2.tOr t u) (tOr g h) := fun κ0 =>
  Ref.bind (k := fun c σ H1 Q => if c = true then Q true H1 else u σ H1 Q) (gk := fun c => if c then (fun _ s => .ok true s) else h) (ht κ0) fun x d κ1 l1 r1 => by
    cases r1
    cases x with
    | true => exact fun κ l σ v s H Q w e p => p true κ H (Le.refl κ) w rfl
    | false => exact hu κ1
theorem ref_not {t : TT} {g : E Bool} (ht : RefT K pm W t g) : RefT K pm W (L2.tNot t) (tNot g) := fun κ0 =>
  Ref.bind (k := fun c _ H1 Q => Q (!c) H1) (gk := fun c _ s => .ok (!c) s) (ht κ0) fun x d κ1 l1 r1 κ l σ v s H Q w e p => by
    cases r1
    exact p (!x) κ H (Le.refl κ) w rfl
/-- and, or of bools as values -/
def eAndV (a b : E D) : E D := eThen a fun x => match x with
  | .bl true => b
  | .bl false => fun _ s => .ok (.bl false) s
  | _ => fun _ _ => .no
def eOrV (a b : E D) : E D := eThen a fun x => match x with
  | .bl true => fun _ s => .ok (.bl true) s
  | .bl false => b
  | _ => fun _ _ => .no
def eNotV (a : E D) : E D := eThen a fun x => match x with
  | .bl c => fun _ s => .ok (.bl (!c)) s
  | _ => fun _ _ => .no
theorem ref_andV {ta tb : TE} {ga gb : E D} (ha : RefE K pm W ta ga) (hb : RefE K pm W tb gb) : RefE K pm W (tAndV ta tb) (eAndV ga gb) := fun κ0 => by
  refine Ref.bind (k := fun x σ H1 Q => ∃ c, x = .bl c ∧ if c = true then tb σ H1 Q else Q (.bl false) H1) (ha κ0) ?_
  intro x d κ1 l1 r1 κ l σ v s H Q w e p
  cases r1 with
  | bl b =>
    cases b with
    | true => exact ⟨true, rfl, hb κ1 κ l σ v s H Q w e p⟩
    | false => exact ⟨false, rfl, p _ κ H (Le.refl κ) w (.bl false)⟩
  | _ => exact p.elim
theorem ref_orV {ta tb : TE} {ga gb : E D} (ha : RefE K pm W ta ga) (hb : RefE K pm W tb gb) : RefE K pm W (tOrV ta tb) (eOrV ga gb) := fun κ0 => by
  refine Ref.bind (k := fun x σ H1 Q => ∃ c, x = .bl c ∧ if c = true then Q (.bl true) H1 else tb σ H1 Q) (ha κ0) ?_
  intro x d κ1 l1 r1 κ l σ v s H Q w e p
  cases r1 with
  | bl b =>
    cases b with
    | true => exact ⟨true, rfl, p _ κ H (Le.refl κ) w (.bl true)⟩
    | false => exact ⟨false, rfl, hb κ1 κ l σ v s H Q w e p⟩
  | _ => exact p.elim
theorem ref_notV {ta : TE} {ga : E D} (ha : RefE K pm W ta ga) : RefE K pm W (tNotV ta) (eNotV ga) := fun κ0 => by
  refine Ref.bind (k := fun (x : V) (_ : L2.St) (H1 : Hp) (Q : VK) => ∃ c, x = .bl c ∧ Q (.bl (!c)) H1) (ha κ0) ?_
  intro x d κ1 l1 r1 κ l σ v s H Q w e p
  cases r1 with
  | bl b => exact ⟨b, rfl, p _ κ H (Le.refl κ) w (.bl _)⟩
  | _ => exact p.elim
/-- a < b < c -/
def eChain (f g : Op2) (a b c : E D) : E D := eThen a fun x => eThen b fun y => fun v s => match f s x y with
  | some (.bl true) => eThen c (fun z => retS fun s => g s y z) v s
  | some (.bl false) => .ok (.bl false) s
  | _ => .no
theorem ref_chain {r r' : R2} {f f' : Op2} {ta tb tc : TE} {ga gb gc : E D} (hr : Op2R K pm r f) (hr' : Op2R K pm r' f') (ha : RefE K pm W ta ga) (hb : RefE K pm W tb gb) (hc : RefE K pm W tc gc) : RefE K pm W (tChain r r' ta tb tc) (eChain f f' ga gb gc) := fun κ0 => by
  refine Ref.bind (k := fun x σ H1 Q => tb σ H1 fun y H2 => r x y H2 fun z H3 => ∃ k, z = .bl k ∧ (if k = true then tc σ H3 fun w' H4 => r' y w' H4 Q else Q (.bl false) H3)) (ha κ0) ?_
  intro x dx κ1 l1 r1
  refine Ref.bind (k := fun y σ H2 Q => r x y H2 fun z H3 => ∃ k, z = .bl k ∧ (if k = true then tc σ H3 fun w' H4 => r' y w' H4 Q else Q (.bl false) H3)) (hb κ1) ?_
  intro y dy κ2 l2 r2 κ l σ v s H Q w e p
  dsimp only at p
  cases q : f s dx dy with
  | none =>
    rw [q] at p
    exact p.elim
  | some d =>
    rw [q] at p
    refine hr κ s H x y dx dy d w (r1.mono (l2.trans l)) (r2.mono l) q _ fun z κ3 H3 l3 w3 r3 => ?_
    cases r3 with
    | bl b =>
      refine ⟨b, rfl, ?_⟩
      cases b with
      | true =>
        have go : Ref K pm (Rep K pm) W κ3 (fun σ H Q => tc σ H fun w' H4 => r' y w' H4 Q) (eThen gc fun z => Dn.retS fun s => f' s dy z) :=
          Ref.bind (k := fun w' _ H4 Q => r' y w' H4 Q) (hc κ3) fun z dz κ4 l4 r4 =>
            Ref.retS fun d κ5 l5 σ s H Q w hd k => hr' κ5 s H y z dy dz d w (r2.mono (l.trans (l3.trans (l4.trans l5)))) (r4.mono l5) hd Q k
        exact go κ3 (Le.refl κ3) σ v s H3 Q w3 (e.mono l3) (Post.mono l3 p)
      | false => exact p _ κ3 H3 l3 w3 (.bl false)
    | _ => exact p.elim
end
end Dn
/-! Dn3: a reading meets a mirror: statements, targets, loops, comprehensions, a def's promise. -/
namespace Dn
open PySem PySem.Spec PyProof.Rows L2
section
variable {K : PySem.W.Frag} {pm : Pm} {W : WX}
def SPost (K : PySem.W.Frag) (pm : Pm) (W : WX) (D : Ends) (κ : Kw) : SR → Prop
  | .nx v s => ∀ (σ : L2.St) (κ' : Kw) (H : Hp), Le κ κ' → Wd K pm κ' s H → EnvOk K pm κ' σ v → D.nx σ H
  | .bk v s => ∀ (σ : L2.St) (κ' : Kw) (H : Hp), Le κ κ' → Wd K pm κ' s H → EnvOk K pm κ' σ v → D.bk σ H
  | .ct v s => ∀ (σ : L2.St) (κ' : Kw) (H : Hp), Le κ κ' → Wd K pm κ' s H → EnvOk K pm κ' σ v → D.ct σ H
  | .rt d s => ∀ (x : V) (κ' : Kw) (H : Hp), Le κ κ' → Wd K pm κ' s H → Rep K pm κ' x d → D.rt x H
  | .ex e v s => ∀ (cls : Value) (dd : Option Addr) (σ : L2.St) (κ' : Kw) (H : Hp), Le κ κ' → Wd K pm κ' s H → EnvOk K pm κ' σ v → RepX K pm κ' cls dd e → W cls dd σ H
  | .no => False
theorem SPost.mono {D : Ends} {κ κ' : Kw} {r : SR} (q : Le κ κ') (h : SPost K pm W D κ r) : SPost K pm W D κ' r := by
  cases r with
  | nx v s => exact fun σ κ2 H l => h σ κ2 H (q.trans l)
  | bk v s => exact fun σ κ2 H l => h σ κ2 H (q.trans l)
  | ct v s => exact fun σ κ2 H l => h σ κ2 H (q.trans l)
  | rt d s => exact fun x κ2 H l => h x κ2 H (q.trans l)
  | ex e v s => exact fun c d σ κ2 H l => h c d σ κ2 H (q.trans l)
  | no => exact h
def RefSF (K : PySem.W.Frag) (pm : Pm) (W : WX) (κ0 : Kw) (t : TS) (g : S) : Prop :=
  ∀ (κ : Kw), Le κ0 κ → ∀ (σ : L2.St) (v : Env) (s : Store) (H : Hp) (D : Ends), Wd K pm κ s H → EnvOk K pm κ σ v → SPost K pm W D κ (g v s) → t D σ H
abbrev RefS (K : PySem.W.Frag) (pm : Pm) (W : WX) (t : TS) (g : S) : Prop := ∀ κ, RefSF K pm W κ t g
theorem ref_then {α β : Type} {ρ : Kw → β → α → Prop} {κ0 : Kw} {ta : TG' β} {ga : E α} {k : β → Ends → L2.St → Hp → Prop} {gk : α → S} (ha : Ref K pm ρ W κ0 ta ga)
    (hk : ∀ (x : β) (d : α) (κ1 : Kw), Le κ0 κ1 → ρ κ1 x d → RefSF K pm W κ1 (k x) (gk d)) : RefSF K pm W κ0 (fun D σ H => ta σ H fun x H1 => k x D σ H1) (sThen ga gk) := by
  intro κ l σ v s H D w e p
  refine ha κ l σ v s H _ w e ?_
  unfold sThen at p
  cases q : ga v s with
  | ok d s1 =>
    rw [q] at p
    exact fun x κ1 H1 l1 w1 r => hk x d κ1 (l.trans l1) r κ1 (Le.refl κ1) σ v s1 H1 D w1 (e.mono l1) (p.mono l1)
  | ex e1 s1 =>
    rw [q] at p
    exact fun c d κ1 H1 l1 w1 r => p c d σ κ1 H1 l1 w1 (e.mono l1) r
  | no =>
    rw [q] at p
    exact p
theorem ref_pass : RefS K pm W tNext sPass := fun κ0 κ l σ v s H D w e p => p σ κ H (Le.refl κ) w e
theorem ref_break : RefS K pm W tBreak sBreak := fun κ0 κ l σ v s H D w e p => p σ κ H (Le.refl κ) w e
theorem ref_cont : RefS K pm W tCont sCont := fun κ0 κ l σ v s H D w e p => p σ κ H (Le.refl κ) w e
theorem ref_seq {t u : TS} {g h : S} (ht : RefS K pm W t g) (hu : RefS K pm W u h) : RefS K pm W (tSeq t u) (sSeq g h) := fun κ0 κ l σ v s H D w e p => by
  refine ht κ0 κ l σ v s H _ w e ?_
  unfold sSeq at p
  cases q : g v s with
  | nx v1 s1 =>
    rw [q] at p
    exact fun σ1 κ1 H1 l1 w1 e1 => hu κ1 κ1 (Le.refl κ1) σ1 v1 s1 H1 D w1 e1 (p.mono l1)
  | bk v1 s1 => rw [q] at p; exact p
  | ct v1 s1 => rw [q] at p; exact p
  | rt d s1 => rw [q] at p; exact p
  | ex e1 v1 s1 => rw [q] at p; exact p
  | no => rw [q] at p; exact p
theorem ref_ret {ta : TE} {ga : E D} (ha : RefE K pm W ta ga) : RefS K pm W (tRet ta) (sRet ga) := fun κ0 =>
  ref_then (k := fun x D _ H => D.rt x H) (gk := fun x _ s => .rt x s) (ha κ0) fun x d κ1 l1 r1 κ l σ v s H D w e p => p x κ H (Le.refl κ) w (r1.mono l)
theorem ref_retN : RefS K pm W tRetN sRetN := fun κ0 κ l σ v s H D w e p => p .non κ H (Le.refl κ) w .non
theorem ref_drop {ta : TE} {ga : E D} (ha : RefE K pm W ta ga) : RefS K pm W (tDrop ta) (sDrop ga) := fun κ0 =>
  ref_then (k := fun _ D σ H => D.nx σ H) (gk := fun _ v s => .nx v s) (ha κ0) fun x d κ1 l1 r1 κ l σ v s H D w e p => p σ κ H (Le.refl κ) w e
theorem ref_ifS {t : TT} {ta tb : TS} {g : E Bool} {ga gb : S} (ht : RefT K pm W t g) (ha : RefS K pm W ta ga) (hb : RefS K pm W tb gb) : RefS K pm W (tIfS t ta tb) (sIf g ga gb) := fun κ0 => by
  refine ref_then (k := fun c D σ H => if c = true then ta D σ H else tb D σ H) (ht κ0) ?_
  intro x d κ1 l1 r1
  cases r1
  cases x with
  | true => exact ha κ1
  | false => exact hb κ1
/-! ### targets -/
def RefG (K : PySem.W.Frag) (pm : Pm) (t : TG) (g : Tg) : Prop :=
  ∀ (κ : Kw) (σ : L2.St) (v : Env) (s : Store) (H : Hp) (x : V) (d : D) (v1 : Env) (s1 : Store), Wd K pm κ s H → EnvOk K pm κ σ v → Rep K pm κ x d → g d v s = some (v1, s1) →
    ∀ Q : L2.St → Hp → Prop, (∀ (σ' : L2.St) (κ' : Kw) (H' : Hp), Le κ κ' → Wd K pm κ' s1 H' → EnvOk K pm κ' σ' v1 → Q σ' H') → t x σ H Q
theorem ref_gN (i : Nat) : RefG K pm (gName i) (gN i) := fun κ σ v s H x d v1 s1 w e r h Q q => by
  cases h
  exact q _ κ H (Le.refl κ) w (e.set i r)
def RefGs (K : PySem.W.Frag) (pm : Pm) (t : TGs) (g : List D → Env → Option Env) : Prop :=
  ∀ (κ : Kw) (σ : L2.St) (v : Env) (s : Store) (H : Hp) (xs : List V) (l : List D) (v1 : Env), Wd K pm κ s H → EnvOk K pm κ σ v → RepAll K pm κ xs l → g l v = some v1 →
    ∀ Q : L2.St → Hp → Prop, (∀ (σ' : L2.St) (κ' : Kw) (H' : Hp), Le κ κ' → Wd K pm κ' s H' → EnvOk K pm κ' σ' v1 → Q σ' H') → t xs σ H Q
theorem ref_gNil : RefGs K pm gNil (gNs []) := fun κ σ v s H xs l v1 w e r h Q q => by
  cases r with
  | nil =>
    cases h
    exact ⟨rfl, q _ κ H (Le.refl κ) w e⟩
  | cons _ _ => cases h
theorem ref_gCons {i : Nat} {is : List Nat} {u : TGs} (h : RefGs K pm u (gNs is)) : RefGs K pm (gCons (gName i) u) (gNs (i :: is)) := fun κ σ v s H xs l v1 w e r hh Q q => by
  cases r with
  | nil => cases hh
  | cons r1 r2 => exact ⟨_, _, rfl, h κ _ _ s H _ _ v1 w (e.set i r1) r2 hh Q q⟩
theorem gNs_len : ∀ (is : List Nat) {l : List D} {v v1 : Env}, gNs is l v = some v1 → l.length = is.length
  | [], [], _, _, _ => rfl
  | i :: is, d :: l, v, v1, h => by
    have q : gNs is l (v.set i (some d)) = some v1 := h
    simp only [List.length_cons, gNs_len is q]
  | [], _ :: _, _, _, h => by cases h
  | _ :: _, [], _, _, h => by cases h
/-- a, b = a tuple -/
theorem ref_gT {is : List Nat} {n : Nat} {u : TGs} (hn : is.length = n) (h : RefGs K pm u (gNs is)) : RefG K pm (gTup K n u) (fun d v s => match d with
  | .tup l => (gNs is l v).map fun v1 => (v1, s)
  | _ => none) := fun κ σ v s H x d v1 s1 w e r hh Q q => by
  cases r with
  | tup ht hr =>
    rename_i a xs l
    simp only [Option.map_eq_some_iff, Prod.mk.injEq] at hh
    obtain ⟨v2, h1, h2, h3⟩ := hh
    subst h2
    subst h3
    refine ⟨a, xs, rfl, sqT_mono w.f ht, ?_, h κ σ v s H xs l v2 w e hr h1 Q q⟩
    rw [hr.length, gNs_len is h1, hn]
  | _ => cases hh
theorem ref_set {ta : TE} {ga : E D} {t : TG} {g : Tg} (ha : RefE K pm W ta ga) (hg : RefG K pm t g) : RefS K pm W (tAsg ta t) (sSet g ga) := fun κ0 => by
  refine ref_then (k := fun x D σ H => t x σ H D.nx) (ha κ0) ?_
  intro x d κ1 l1 r1 κ l σ v s H D w e p
  dsimp only at p
  cases q : g d v s with
  | none =>
    rw [q] at p
    exact p.elim
  | some o =>
    obtain ⟨v1, s1⟩ := o
    rw [q] at p
    exact hg κ σ v s H x d v1 s1 w e (r1.mono l) q _ p
/-! ### lists -/
theorem Wd.lst {κ : Kw} {s : Store} {H : Hp} {h : Nat} {a : Addr} {l : List D} (w : Wd K pm κ s H) (ha : κ.as[h]? = some a) (hs : s[h]? = some (.lst l)) : ∃ xs, H a = some (.lst xs) ∧ RepAll K pm κ xs l := w.ob h a _ ha hs
/-- the things of a list -/
def lstOf (s : Store) : D → Option (List D)
  | .lst l => some l
  | .fro l => some l
  | .hnd h => (match s[h]? with
    | some (.lst l) => some l
    | _ => none)
  | _ => none
theorem lstOf_rep {κ : Kw} {s : Store} {H : Hp} {x : V} {d : D} {l : List D} (w : Wd K pm κ s H) (r : Rep K pm κ x d) (h : lstOf s d = some l) : ∃ a xs, x = .ref a ∧ SqL K H a xs ∧ RepAll K pm κ xs l := by
  cases r with
  | lst h1 h2 =>
    cases h
    exact ⟨_, _, rfl, .inl (.inl (w.f _ _ h1)), h2⟩
  | fro h1 h2 =>
    cases h
    exact ⟨_, _, rfl, sqL_mono w.f h1, h2⟩
  | hnd h1 =>
    rename_i a hh
    unfold lstOf at h
    simp only at h
    split at h
    · cases h
      rename_i l' e
      obtain ⟨xs, q1, q2⟩ := w.lst h1 e
      exact ⟨_, xs, rfl, .inl (.inl q1), q2⟩
    · cases h
  | _ => cases h
theorem seqOf_rep {κ : Kw} {s : Store} {H : Hp} {x : V} {d : D} {l : List D} (w : Wd K pm κ s H) (r : Rep K pm κ x d) (h : seqOf s d = some l) : ∃ a xs, x = .ref a ∧ (SqL K H a xs ∨ SqT K H a xs) ∧ RepAll K pm κ xs l := by
  cases r with
  | tup h1 h2 =>
    cases h
    exact ⟨_, _, rfl, .inr (sqT_mono w.f h1), h2⟩
  | lst h1 h2 =>
    cases h
    exact ⟨_, _, rfl, .inl (.inl (.inl (w.f _ _ h1))), h2⟩
  | fro h1 h2 =>
    cases h
    exact ⟨_, _, rfl, .inl (sqL_mono w.f h1), h2⟩
  | hnd h1 =>
    rename_i a hh
    unfold seqOf at h
    simp only at h
    split at h
    · cases h
      rename_i l' e
      obtain ⟨xs, q1, q2⟩ := w.lst h1 e
      exact ⟨_, xs, rfl, .inl (.inl (.inl q1)), q2⟩
    · cases h
  | _ => cases h
/-- a list that may change, at its place -/
theorem hnd_rep {κ : Kw} {s : Store} {H : Hp} {x : V} {h : Nat} {l : List D} (w : Wd K pm κ s H) (r : Rep K pm κ x (.hnd h)) (e : s[h]? = some (.lst l)) : ∃ a xs, x = .ref a ∧ κ.as[h]? = some a ∧ H a = some (.lst xs) ∧ RepAll K pm κ xs l := by
  cases r with
  | hnd h1 =>
    obtain ⟨xs, q1, q2⟩ := w.lst h1 e
    exact ⟨_, xs, rfl, h1, q1, q2⟩
theorem ixN_is (n : Nat) (i : Int) : Dn.ixN n i = L2.ixN n i := rfl
/-- o[i] = e -/
theorem ref_put {te to ti : TE} {ge go gi : E D} (he : RefE K pm W te ge) (ho : RefE K pm W to go) (hi : RefE K pm W ti gi) : RefS K pm W (tAsg te (gSub to ti rSetL)) (sPut go gi ge) := fun κ0 => by
  refine ref_then (k := fun x D σ H => gSub to ti rSetL x σ H D.nx) (he κ0) ?_
  intro x dx κ1 l1 r1
  refine ref_then (k := fun o D σ H => ti σ H fun i H2 => rSetL o i x H2 fun H3 => D.nx σ H3) (ho κ1) ?_
  intro o do_ κ2 l2 r2
  refine ref_then (k := fun i D σ H2 => rSetL o i x H2 fun H3 => D.nx σ H3) (hi κ2) ?_
  intro i di κ3 l3 r3 κ l σ v s H D w e p
  unfold putAt at p
  cases r2 with
  | hnd h2 =>
    rename_i a h
    cases r3 with
    | int k =>
      simp only at p
      cases q : s[h]? with
      | none =>
        rw [q] at p
        exact p.elim
      | some m =>
        rw [q] at p
        cases m with
        | ins c fs => exact p.elim
        | lst ys =>
          have ha : κ.as[h]? = some a := l.a _ _ (l3.a _ _ h2)
          obtain ⟨xs, q1, q2⟩ := w.lst ha q
          simp only at p
          cases q3 : Dn.ixN ys.length k with
          | none =>
            rw [q3] at p
            exact p.elim
          | some j =>
            rw [q3] at p
            refine ⟨a, xs, k, j, rfl, rfl, q1, ?_, ?_⟩
            · rw [q2.length]
              exact q3
            · refine p σ κ _ (Le.refl κ) (w.put ha _ _ ⟨_, upd_same, q2.set (r1.mono (l2.trans (l3.trans l))) j⟩) e
    | _ => exact p.elim
  | _ => exact p.elim
/-- o.append(e) -/
theorem ref_push {to te : TE} {go ge : E D} (ho : RefE K pm W to go) (he : RefE K pm W te ge) : RefS K pm W (tDrop (tBM K "list" rAppend to (tCons te tNil))) (sPush go ge) := fun κ0 => by
  refine ref_then (k := fun o D σ H => tyV K "list" o H ∧ te σ H fun x H2 => rAppend o [x] H2 fun _ H3 => D.nx σ H3) (ho κ0) ?_
  intro o do_ κ1 l1 r1 κ l σ v s H D w e p
  dsimp only at p
  cases r1 with
  | hnd h1 =>
    rename_i a h
    unfold isL at p
    simp only at p
    cases q : s[h]? with
    | none =>
      simp only [q, Bool.false_eq_true, if_false] at p
      exact p.elim
    | some m =>
      cases m with
      | ins c fs =>
        simp only [q, Bool.false_eq_true, if_false] at p
        exact p.elim
      | lst ys =>
        simp only [q, if_true] at p
        obtain ⟨xs, q1, q2⟩ := w.lst (l.a _ _ h1) q
        refine ⟨.inl ⟨rfl, xs, .inl (.inl q1)⟩, ?_⟩
        have go : RefSF K pm W κ (fun D σ H => te σ H fun x H2 => rAppend (.ref a) [x] H2 fun _ H3 => D.nx σ H3) (sThen ge fun x v s => match pushAt s (.hnd h) x with
          | some s1 => .nx v s1
          | none => .no) := by
          refine ref_then (k := fun x D σ H2 => rAppend (.ref a) [x] H2 fun _ H3 => D.nx σ H3) (he κ) ?_
          intro x d κ3 l3 r3 κ4 l4 σ v s H D w e p
          unfold pushAt at p
          simp only at p
          cases q : s[h]? with
          | none =>
            simp only [q] at p
            exact p.elim
          | some m =>
            cases m with
            | ins c fs =>
              simp only [q] at p
              exact p.elim
            | lst zs =>
              have ha : κ4.as[h]? = some a := (l.trans (l3.trans l4)).a _ _ h1
              obtain ⟨xs, q1, q2⟩ := w.lst ha q
              simp only [q] at p
              by_cases hz : zs.length < 100000
              · rw [if_pos hz] at p
                refine ⟨a, xs, x, rfl, rfl, q1, ?_, ?_⟩
                · rw [q2.length]
                  exact Nat.lt_of_lt_of_le hz (by decide)
                · exact p σ κ4 _ (Le.refl κ4) (w.put ha _ _ ⟨_, upd_same, q2.append (.one (r3.mono l4))⟩) e
              · rw [if_neg hz] at p
                exact p.elim
        exact go κ (Le.refl κ) σ v s H D w e p
  | _ => exact p.elim
/-! ### what a loop walks -/
structure IterIs (K : PySem.W.Frag) (pm : Pm) (κ0 : Kw) (J : It) (I : Its) : Prop where
  go : ∀ (κ : Kw), LeW κ0 κ → ∀ (s : Store) (H : Hp), Wd K pm κ s H → I.ok s = true → ∀ (i : Nat) (d : D), I.l[i]? = some d → J.go i H ∧ ∀ (x : V) (H' : Hp), J.yld i H x H' → ∃ κ', Le κ κ' ∧ Wd K pm κ' s H' ∧ Rep K pm κ' x d
  stop : ∀ (κ : Kw), LeW κ0 κ → ∀ (s : Store) (H : Hp), Wd K pm κ s H → I.ok s = true → J.stop I.l.length H
theorem IterIs.up {κ0 κ1 : Kw} {J : It} {I : Its} (l : LeW κ0 κ1) (h : IterIs K pm κ0 J I) : IterIs K pm κ1 J I := ⟨fun κ l1 => h.go κ (l.trans l1), fun κ l1 => h.stop κ (l.trans l1)⟩
abbrev RefI (K : PySem.W.Frag) (pm : Pm) (W : WX) (t : TI) (g : E Its) : Prop := ∀ κ, Ref K pm (IterIs K pm) W κ t g
theorem ref_for {wi : TI} {t : TG} {tb : TS} {it : E Its} {g : Tg} {b : S} (hi : RefI K pm W wi it) (hg : RefG K pm t g) (hb : RefS K pm W tb b) : RefS K pm W (tFor wi t tb) (sFor it g b) := fun κ0 => by
  refine ref_then (k := fun J D σ H => ∃ W : Nat → Nat → L2.St → Hp → Prop, (∃ m, W 0 m σ H) ∧ ∀ i m σ H, W i m σ H →
    (J.stop i H ∧ D.nx σ H) ∨ (J.go i H ∧ ∃ N : L2.St → Hp → Prop, (∀ σ' H', N σ' H' → ∃ m', m' < m ∧ W (i + 1) m' σ' H') ∧ ∀ x H', J.yld i H x H' → t x σ H' fun σ2 H2 => tb { D with nx := N, ct := N, bk := D.nx } σ2 H2)) (hi κ0) ?_
  intro J I κ1 l1 r1 κ l σ v s H D w e p
  obtain ⟨its, ok⟩ := I
  refine ⟨fun i m σ H => m = its.length - i ∧ i ≤ its.length ∧ ∃ (κ : Kw) (v : Env) (s : Store), Le κ1 κ ∧ Wd K pm κ s H ∧ EnvOk K pm κ σ v ∧ SPost K pm W D κ (loop g b ok (its.drop i) v s), ⟨_, rfl, Nat.zero_le _, κ, v, s, l, w, e, p⟩, ?_⟩
  rintro i m σ H ⟨rfl, hi, κ, v, s, l, w, e, p⟩
  by_cases hlt : i < its.length
  · have hd : its.drop i = its[i] :: its.drop (i + 1) := List.drop_eq_getElem_cons hlt
    rw [hd] at p
    unfold loop at p
    by_cases ho : ok s = true
    · rw [if_pos ho] at p
      obtain ⟨g1, g2⟩ := r1.go κ l.w s H w ho i its[i] (by simp [hlt])
      refine .inr ⟨g1, fun σ' H' => ∃ (κ : Kw) (v : Env) (s : Store), Le κ1 κ ∧ Wd K pm κ s H' ∧ EnvOk K pm κ σ' v ∧ SPost K pm W D κ (loop g b ok (its.drop (i + 1)) v s), fun σ' H' q => ⟨_, by omega, rfl, hlt, q⟩, fun x H' y => ?_⟩
      obtain ⟨κ', l', w', r'⟩ := g2 x H' y
      cases q : g its[i] v s with
      | none =>
        rw [q] at p
        exact p.elim
      | some o =>
        obtain ⟨v1, s1⟩ := o
        rw [q] at p
        refine hg κ' σ v s H' x its[i] v1 s1 w' (e.mono l') r' q _ fun σ2 κ2 H2 l2 w2 e2 => ?_
        refine hb κ2 κ2 (Le.refl κ2) σ2 v1 s1 H2 _ w2 e2 ?_
        simp only at p
        have L : Le κ1 κ2 := l.trans (l'.trans l2)
        have p' := p.mono (l'.trans l2)
        cases q2 : b v1 s1 with
        | nx v3 s3 =>
          rw [q2] at p'
          exact fun σ3 κ3 H3 l3 w3 e3 => ⟨κ3, v3, s3, L.trans l3, w3, e3, p'.mono l3⟩
        | ct v3 s3 =>
          rw [q2] at p'
          exact fun σ3 κ3 H3 l3 w3 e3 => ⟨κ3, v3, s3, L.trans l3, w3, e3, p'.mono l3⟩
        | bk v3 s3 =>
          rw [q2] at p'
          exact p'
        | rt d s3 =>
          rw [q2] at p'
          exact p'
        | ex e1 v3 s3 =>
          rw [q2] at p'
          exact p'
        | no =>
          rw [q2] at p'
          exact p'
    · rw [if_neg ho] at p
      exact p.elim
  · have hz : i = its.length := by omega
    subst hz
    rw [List.drop_length] at p
    unfold loop at p
    by_cases ho : ok s = true
    · rw [if_pos ho] at p
      exact .inl ⟨r1.stop κ l.w s H w ho, p σ κ H (Le.refl κ) w e⟩
    · rw [if_neg ho] at p
      exact p.elim
theorem ref_while {t : TT} {tb : TS} {g : E Bool} {b : S} (n : Nat) (ht : RefT K pm W t g) (hb : RefS K pm W tb b) : RefS K pm W (tWhile t tb) (sWhile n g b) := fun κ0 κ l σ v s H D w e p => by
  refine ⟨fun m σ H => ∃ (κ : Kw) (v : Env) (s : Store), Wd K pm κ s H ∧ EnvOk K pm κ σ v ∧ SPost K pm W D κ (wloop g b m v s), ⟨n, κ, v, s, w, e, p⟩, ?_⟩
  rintro m σ H ⟨κ, v, s, w, e, p⟩
  cases m with
  | zero => exact p.elim
  | succ m =>
    unfold wloop at p
    refine ht κ κ (Le.refl κ) σ v s H _ w e ?_
    cases q : g v s with
    | no =>
      rw [q] at p
      exact p
    | ex e1 s1 =>
      rw [q] at p
      exact fun c d κ1 H1 l1 w1 r => p c d σ κ1 H1 l1 w1 (e.mono l1) r
    | ok c s1 =>
      rw [q] at p
      intro x κ1 H1 l1 w1 r1
      have ex : x = c := r1
      subst ex
      cases x with
      | false => exact p σ κ1 H1 l1 w1 (e.mono l1)
      | true =>
        refine ⟨fun σ' H' => ∃ (κ : Kw) (v : Env) (s : Store), Wd K pm κ s H' ∧ EnvOk K pm κ σ' v ∧ SPost K pm W D κ (wloop g b m v s), fun σ' H' q => ⟨m, Nat.lt_succ_self m, q⟩, ?_⟩
        refine hb κ1 κ1 (Le.refl κ1) σ v s1 H1 _ w1 (e.mono l1) ?_
        simp only at p
        have p' := p.mono l1
        cases q2 : b v s1 with
        | nx v3 s3 =>
          rw [q2] at p'
          exact fun σ3 κ3 H3 l3 w3 e3 => ⟨κ3, v3, s3, w3, e3, p'.mono l3⟩
        | ct v3 s3 =>
          rw [q2] at p'
          exact fun σ3 κ3 H3 l3 w3 e3 => ⟨κ3, v3, s3, w3, e3, p'.mono l3⟩
        | bk v3 s3 =>
          rw [q2] at p'
          exact p'
        | rt d s3 =>
          rw [q2] at p'
          exact p'
        | ex e1 v3 s3 =>
          rw [q2] at p'
          exact p'
        | no =>
          rw [q2] at p'
          exact p'
/-! ### what is walked -/
def itSeq (a : E D) : E Its := eThen a fun d => retS fun s => match d with
  | .lst l => some ⟨l, fun _ => true⟩
  | .fro l => some ⟨l, fun _ => true⟩
  | _ => none
def itTup (a : E D) : E Its := eThen a fun d => retS fun _ => match d with
  | .tup l => some ⟨l, fun _ => true⟩
  | _ => none
theorem ref_itL {ta : TE} {ga : E D} (ha : RefE K pm W ta ga) : RefI K pm W (iList K ta) (itSeq ga) := fun κ0 => by
  refine Ref.bind (k := fun x _ H R => ∃ a, x = .ref a ∧ (∃ xs, SqL K H a xs) ∧ R (Itl K a) H) (ha κ0) ?_
  intro x d κ1 l1 r1
  refine Ref.retS fun I κ l σ s H Q w hI k => ?_
  have key : ∀ {a : Addr} {xs : List V} {its : List D}, (∀ κ, LeW κ1 κ → ∀ H, (∀ a o, κ.F a = some o → H a = some o) → SqL K H a xs) → RepAll K pm κ1 xs its → IterIs K pm κ (Itl K a) ⟨its, fun _ => true⟩ := fun {a xs its} hq hr => by
    refine ⟨fun κ2 l2 s2 H2 w2 _ i d hd => ?_, fun κ2 l2 s2 H2 w2 _ => ?_⟩
    · have q := hq κ2 (l.w.trans l2) H2 w2.f
      obtain ⟨v, h1, h2⟩ := hr.get hd
      refine ⟨⟨xs, v, q, h1⟩, fun x H' y => ?_⟩
      obtain ⟨rfl, y⟩ := y
      have := y xs q
      rw [h1] at this
      cases this
      exact ⟨κ2, Le.refl κ2, w2, h2.monoW (l.w.trans l2)⟩
    · exact ⟨xs, hq κ2 (l.w.trans l2) H2 w2.f, by rw [hr.length]; exact Nat.le_refl _⟩
  cases r1 with
  | lst h1 h2 =>
    rename_i a xs its
    cases hI
    have hq : ∀ κ, LeW κ1 κ → ∀ H, (∀ a o, κ.F a = some o → H a = some o) → SqL K H a xs := fun κ l H f => .inl (.inl (f _ _ (l.f _ _ h1)))
    exact ⟨a, rfl, ⟨xs, hq κ l.w H w.f⟩, k _ κ H (Le.refl κ) w (key hq h2)⟩
  | fro h1 h2 =>
    rename_i a xs its
    cases hI
    have hq : ∀ κ, LeW κ1 κ → ∀ H, (∀ a o, κ.F a = some o → H a = some o) → SqL K H a xs := fun κ l H f => sqL_mono f (sqL_mono l.f h1)
    exact ⟨a, rfl, ⟨xs, hq κ l.w H w.f⟩, k _ κ H (Le.refl κ) w (key hq h2)⟩
  | _ => cases hI
theorem ref_itT {ta : TE} {ga : E D} (ha : RefE K pm W ta ga) : RefI K pm W (iTup K ta) (itTup ga) := fun κ0 => by
  refine Ref.bind (k := fun x _ H R => ∃ a, x = .ref a ∧ (∃ xs, SqT K H a xs) ∧ R (Itt K a) H) (ha κ0) ?_
  intro x d κ1 l1 r1
  refine Ref.retS fun I κ l σ s H Q w hI k => ?_
  cases r1 with
  | tup h1 h2 =>
    rename_i a xs its
    cases hI
    have hq : ∀ κ, LeW κ1 κ → ∀ H, (∀ a o, κ.F a = some o → H a = some o) → SqT K H a xs := fun κ l H f => sqT_mono f (sqT_mono l.f h1)
    refine ⟨a, rfl, ⟨xs, hq κ l.w H w.f⟩, k _ κ H (Le.refl κ) w ⟨fun κ2 l2 s2 H2 w2 _ i d hd => ?_, fun κ2 l2 s2 H2 w2 _ => ?_⟩⟩
    · have q := hq κ2 (l.w.trans l2) H2 w2.f
      obtain ⟨v, h3, h4⟩ := h2.get hd
      refine ⟨⟨xs, v, q, h3⟩, fun x H' y => ?_⟩
      obtain ⟨rfl, y⟩ := y
      have := y xs q
      rw [h3] at this
      cases this
      exact ⟨κ2, Le.refl κ2, w2, h4.monoW (l.w.trans l2)⟩
    · exact ⟨xs, hq κ2 (l.w.trans l2) H2 w2.f, by rw [h2.length]; exact Nat.le_refl _⟩
  | _ => cases hI
/-- range(n), range(a, b) -/
def upto (lo : Int) (n : Nat) : List D := (List.range n).map fun (i : Nat) => D.int (lo + i)
def itR1 (a : E (List D)) : E Its := eThen a fun d => retS fun _ => match d with
  | [.int j] => if j ≤ 1000000 ∧ -1000000 ≤ j then some ⟨upto 0 j.toNat, fun _ => true⟩ else none
  | _ => none
def itR2 (a : E (List D)) : E Its := eThen a fun d => retS fun _ => match d with
  | [.int i, .int j] => if -1000000000000000 ≤ i ∧ i ≤ 1000000000000000 ∧ -1000000000000000 ≤ j ∧ j ≤ 1000000000000000 then some ⟨upto i (j - i).toNat, fun _ => true⟩ else none
  | _ => none
theorem iter_range {κ : Kw} (lo : Int) (n : Nat) : IterIs K pm κ (Itr lo n) ⟨upto lo n, fun _ => true⟩ := by
  refine ⟨fun κ2 l2 s2 H2 w2 _ i d hd => ?_, fun κ2 l2 s2 H2 w2 _ => ?_⟩
  · unfold upto at hd
    simp only [List.getElem?_map, Option.map_eq_some_iff] at hd
    obtain ⟨j, h1, h2⟩ := hd
    obtain ⟨h3, h4⟩ := List.getElem?_eq_some_iff.mp h1
    simp only [List.getElem_range] at h4
    subst h4
    subst h2
    rw [List.length_range] at h3
    refine ⟨h3, fun x H' y => ?_⟩
    obtain ⟨rfl, rfl⟩ := y
    exact ⟨κ2, Le.refl κ2, w2, .int _⟩
  · show n ≤ (upto lo n).length
    unfold upto
    rw [List.length_map, List.length_range]
    exact Nat.le_refl _
theorem ref_itR1 {ta : TA} {ga : E (List D)} (ha : RefA K pm W ta ga) : RefI K pm W (iRng1 ta) (itR1 ga) := fun κ0 => by
  refine Ref.bind (k := fun vs _ H R => ∃ j : Int, vs = [.int j] ∧ -(2 ^ 62) ≤ j ∧ j < 2 ^ 62 ∧ R (Itr 0 j.toNat) H) (ha κ0) ?_
  intro x d κ1 l1 r1
  refine Ref.retS fun I κ l σ s H Q w hI k => ?_
  split at hI
  · rename_i j
    cases r1 with
    | cons a b =>
      cases a
      cases b
      split at hI
      · rename_i hj
        cases hI
        exact ⟨j, rfl, by omega, by omega, k _ κ H (Le.refl κ) w (iter_range _ _)⟩
      · cases hI
  · cases hI
theorem ref_itR2 {ta : TA} {ga : E (List D)} (ha : RefA K pm W ta ga) : RefI K pm W (iRng2 ta) (itR2 ga) := fun κ0 => by
  refine Ref.bind (k := fun vs _ H R => ∃ i j : Int, vs = [.int i, .int j] ∧ (-(2 ^ 62) ≤ i ∧ i < 2 ^ 62 ∧ -(2 ^ 62) ≤ j ∧ j < 2 ^ 62) ∧ R (Itr i (j - i).toNat) H) (ha κ0) ?_
  intro x d κ1 l1 r1
  refine Ref.retS fun I κ l σ s H Q w hI k => ?_
  split at hI
  · rename_i i j
    cases r1 with
    | cons a b =>
      cases a
      cases b with
      | cons a b =>
        cases a
        cases b
        split at hI
        · rename_i hj
          cases hI
          exact ⟨i, j, rfl, by omega, k _ κ H (Le.refl κ) w (iter_range _ _)⟩
        · cases hI
  · cases hI
end
end Dn
/-! Dn4: comprehensions, calls, a def's promise. -/
namespace Dn
open PySem PySem.Spec PyProof.Rows L2
section
variable {K : PySem.W.Frag} {pm : Pm} {W : WX}
/-! ### comprehensions -/
theorem wipe_len (v : Env) : ∀ vs : List Nat, (Dn.wipe v vs).length = v.length
  | [] => rfl
  | i :: r => by
    unfold Dn.wipe
    rw [List.length_set, wipe_len v r]
theorem EnvOk.wipe {κ : Kw} {σ : L2.St} {v : Env} (e : EnvOk K pm κ σ v) : ∀ vs : List Nat, EnvOk K pm κ (L2.wipe σ vs) (Dn.wipe v vs)
  | [] => e
  | i :: r => (EnvOk.wipe e r).unset i
theorem set_comm2 {α : Type} (l : List α) (i j : Nat) (a b : α) (h : i ≠ j) : (l.set i a).set j b = (l.set j b).set i a := List.set_comm a b h
theorem wipe_set {σ : L2.St} {j : Nat} {x : Option V} : ∀ {vs : List Nat}, j ∈ vs → L2.wipe (σ.set j x) vs = L2.wipe σ vs
  | i :: r, h => by
    unfold L2.wipe
    by_cases e : j ∈ r
    · rw [wipe_set e]
    · have hj : j = i := by
        rcases List.mem_cons.mp h with z | z
        · exact z
        · exact absurd z e
      subst hj
      clear h
      have aux : ∀ (r : List Nat) (σ : L2.St), (L2.wipe (σ.set j x) r).set j none = (L2.wipe σ r).set j none := by
        intro r
        induction r with
        | nil =>
          intro σ
          show (σ.set j x).set j none = σ.set j none
          rw [List.set_set]
        | cons k r ih =>
          intro σ
          unfold L2.wipe
          by_cases hk : k = j
          · subst hk
            rw [List.set_set, List.set_set]
            exact ih σ
          · rw [set_comm2 _ k j _ _ hk, ih, set_comm2 _ j k _ _ (fun z => hk z.symm)]
      exact aux r σ
theorem wipe_wipe {σ : L2.St} : ∀ vs : List Nat, L2.wipe (L2.wipe σ vs) vs = L2.wipe σ vs := by
  have aux : ∀ (ws vs : List Nat), (∀ i ∈ ws, i ∈ vs) → L2.wipe (L2.wipe σ ws) vs = L2.wipe σ vs := by
    intro ws
    induction ws with
    | nil => intro vs _; rfl
    | cons i r ih =>
      intro vs h
      show L2.wipe ((L2.wipe σ r).set i none) vs = _
      rw [wipe_set (h i List.mem_cons_self)]
      exact ih vs fun j hj => h j (List.mem_cons_of_mem _ hj)
  intro vs
  exact aux vs vs fun _ h => h
/-- a target whose names are all among vs -/
def RefGv (K : PySem.W.Frag) (pm : Pm) (vs : List Nat) (t : TG) (g : Tg) : Prop :=
  ∀ (κ : Kw) (σ : L2.St) (v : Env) (s : Store) (H : Hp) (x : V) (d : D) (v1 : Env) (s1 : Store), Wd K pm κ s H → EnvOk K pm κ σ v → Rep K pm κ x d → g d v s = some (v1, s1) →
    ∀ Q : L2.St → Hp → Prop, (∀ (σ' : L2.St) (κ' : Kw) (H' : Hp), Le κ κ' → Wd K pm κ' s1 H' → EnvOk K pm κ' σ' v1 → L2.wipe σ' vs = L2.wipe σ vs → Q σ' H') → t x σ H Q
theorem ref_gNv {vs : List Nat} (i : Nat) (h : i ∈ vs) : RefGv K pm vs (gName i) (gN i) := fun κ σ v s H x d v1 s1 w e r hh Q q => by
  cases hh
  exact q _ κ H (Le.refl κ) w (e.set i r) (wipe_set h)
theorem gNames_v : ∀ (is vs : List Nat) (u : TGs) (h : RefGs K pm u (gNs is)), True := fun _ _ _ _ => trivial
/-- the names of a tuple target -/
def gTs : List Nat → TGs
  | [] => gNil
  | i :: r => gCons (gName i) (gTs r)
theorem ref_gTs : ∀ is : List Nat, RefGs K pm (gTs is) (gNs is)
  | [] => ref_gNil
  | i :: r => ref_gCons (ref_gTs r)
theorem gTs_v {vs : List Nat} : ∀ (is : List Nat), (∀ i ∈ is, i ∈ vs) → ∀ (κ : Kw) (σ : L2.St) (v : Env) (s : Store) (H : Hp) (xs : List V) (l : List D) (v1 : Env), Wd K pm κ s H → EnvOk K pm κ σ v → RepAll K pm κ xs l → gNs is l v = some v1 →
    ∀ Q : L2.St → Hp → Prop, (∀ (σ' : L2.St) (κ' : Kw) (H' : Hp), Le κ κ' → Wd K pm κ' s H' → EnvOk K pm κ' σ' v1 → L2.wipe σ' vs = L2.wipe σ vs → Q σ' H') → gTs is xs σ H Q
  | [], hv, κ, σ, v, s, H, xs, l, v1, w, e, r, hh, Q, q => by
    cases r with
    | nil =>
      cases hh
      exact ⟨rfl, q _ κ H (Le.refl κ) w e rfl⟩
    | cons _ _ => cases hh
  | i :: is, hv, κ, σ, v, s, H, xs, l, v1, w, e, r, hh, Q, q => by
    cases r with
    | nil => cases hh
    | cons r1 r2 =>
      refine ⟨_, _, rfl, gTs_v is (fun j hj => hv j (List.mem_cons_of_mem _ hj)) κ _ _ s H _ _ v1 w (e.set i r1) r2 hh Q fun σ' κ' H' l' w' e' z => q σ' κ' H' l' w' e' ?_⟩
      rw [z, wipe_set (hv i List.mem_cons_self)]
def gTd (is : List Nat) : Tg := fun d v s => match d with
  | .tup l => (gNs is l v).map fun v1 => (v1, s)
  | _ => none
theorem ref_gTd {n : Nat} (is : List Nat) (hn : is.length = n) : RefG K pm (gTup K n (gTs is)) (gTd is) := ref_gT hn (ref_gTs is)
theorem ref_gTv {vs : List Nat} {n : Nat} (is : List Nat) (hn : is.length = n) (hv : ∀ i ∈ is, i ∈ vs) : RefGv K pm vs (gTup K n (gTs is)) (gTd is) := fun κ σ v s H x d v1 s1 w e r hh Q q => by
  cases r with
  | tup ht hr =>
    rename_i a xs l
    unfold gTd at hh
    simp only [Option.map_eq_some_iff, Prod.mk.injEq] at hh
    obtain ⟨v2, h1, h2, h3⟩ := hh
    subst h2
    subst h3
    refine ⟨a, xs, rfl, sqT_mono w.f ht, ?_, gTs_v is hv κ σ v s H xs l v2 w e hr h1 Q q⟩
    rw [hr.length, gNs_len is h1, hn]
  | _ => cases hh
/-! a cell that only we know -/
def Kw.priv (κ : Kw) (p : Addr) (o : HO) : Kw := { κ with pv := upd κ.pv p o }
theorem Kw.priv_w (κ : Kw) (p : Addr) (o : HO) : LeW κ (κ.priv p o) := ⟨fun _ _ h => h, fun _ _ h => h⟩
theorem Kw.unpriv_w (κ : Kw) (p : Addr) (o : HO) : LeW (κ.priv p o) κ := ⟨fun _ _ h => h, fun _ _ h => h⟩
theorem MRep.w {κ κ' : Kw} {H H' : Hp} {a : Addr} {m : MO} (q : LeW κ κ') (e : H' a = H a) (h : MRep K pm κ H a m) : MRep K pm κ' H' a m := h.mono q e
theorem Wd.priv {κ : Kw} {s : Store} {H : Hp} {p : Addr} (w : Wd K pm κ s H) (hp : H p = none) (o : HO) : Wd K pm (κ.priv p o) s (upd H p o) := by
  have nas := w.new_as hp
  refine ⟨fun a u h => ?_, fun a u h => ?_, w.len, w.nd, fun i a m e1 e2 => ?_, fun i a e => ?_⟩
  · have e : a ≠ p := fun z => by
      have := w.f a u h
      rw [z, hp] at this
      cases this
    exact (upd_ne e).trans (w.f a u h)
  · have h' : upd κ.pv p o a = some u := h
    by_cases e : a = p
    · subst e
      rw [upd_same] at h' ⊢
      exact ⟨h', w.new_F hp⟩
    · rw [upd_ne e] at h' ⊢
      exact w.p a u h'
  · have e : a ≠ p := fun z => nas i (z ▸ e1)
    exact (w.ob i a m e1 e2).mono (κ.priv_w p o) (upd_ne e)
  · have e' : a ≠ p := fun z => nas i (z ▸ e)
    obtain ⟨h1, h2⟩ := w.sep i a e
    refine ⟨h1, ?_⟩
    show upd κ.pv p o a = none
    rw [upd_ne e']
    exact h2
/-- the cell is written anew -/
theorem Wd.priv_put {κ : Kw} {s : Store} {H : Hp} {p : Addr} {o : HO} (w : Wd K pm (κ.priv p o) s H) (u : HO) : Wd K pm (κ.priv p u) s (upd H p u) := by
  obtain ⟨h1, h2⟩ := w.p p o (show upd κ.pv p o p = some o from upd_same)
  have nas : ∀ i : Nat, κ.as[i]? ≠ some p := fun i e => by
    have := (w.sep i p e).2
    have z : upd κ.pv p o p = none := this
    rw [upd_same] at z
    cases z
  refine ⟨fun a b h => ?_, fun a b h => ?_, w.len, w.nd, fun i a m e1 e2 => ?_, fun i a e => ?_⟩
  · have e : a ≠ p := fun z => by
      rw [z] at h
      have h' : κ.F p = some b := h
      have h2' : κ.F p = none := h2
      rw [h2'] at h'
      cases h'
    exact (upd_ne e).trans (w.f a b h)
  · have h' : upd κ.pv p u a = some b := h
    by_cases e : a = p
    · subst e
      rw [upd_same] at h' ⊢
      exact ⟨h', h2⟩
    · rw [upd_ne e] at h' ⊢
      exact w.p a b (by show upd κ.pv p o a = some b; rw [upd_ne e]; exact h')
  · have e : a ≠ p := fun z => nas i (z ▸ e1)
    exact (w.ob i a m e1 e2).mono ((κ.unpriv_w p o).trans (κ.priv_w p u)) (upd_ne e)
  · have e' : a ≠ p := fun z => nas i (z ▸ e)
    obtain ⟨q1, q2⟩ := w.sep i a e
    refine ⟨q1, ?_⟩
    show upd κ.pv p u a = none
    rw [upd_ne e']
    have z : upd κ.pv p o a = none := q2
    rw [upd_ne e'] at z
    exact z
/-- the cell is one of the objects that never change, from now on -/
theorem Wd.open_ {κ : Kw} {s : Store} {H : Hp} {p : Addr} {o : HO} (w : Wd K pm (κ.priv p o) s H) (hp : κ.pv p = none) : Wd K pm (κ.add p o) s H ∧ Le κ (κ.add p o) := by
  obtain ⟨h1, h2⟩ := w.p p o (show upd κ.pv p o p = some o from upd_same)
  have nas : ∀ i : Nat, κ.as[i]? ≠ some p := fun i e => by
    have := (w.sep i p e).2
    have z : upd κ.pv p o p = none := this
    rw [upd_same] at z
    cases z
  have hF : ∀ a b, κ.F a = some b → a ≠ p := fun a b h z => by
    rw [z] at h
    have h2' : κ.F p = none := h2
    rw [h2'] at h
    cases h
  have L : Le κ (κ.add p o) := ⟨fun a b h => by
    show upd κ.F p o a = some b
    rw [upd_ne (hF a b h)]
    exact h, fun _ _ h => h, rfl⟩
  refine ⟨⟨fun a b h => ?_, fun a b h => ?_, w.len, w.nd, fun i a m e1 e2 => ?_, fun i a e => ?_⟩, L⟩
  · have h' : upd κ.F p o a = some b := h
    by_cases e : a = p
    · subst e
      rw [upd_same] at h'
      cases h'
      exact h1
    · rw [upd_ne e] at h'
      exact w.f a b h'
  · have h' : κ.pv a = some b := h
    have e : a ≠ p := fun z => by
      rw [z, hp] at h'
      cases h'
    obtain ⟨q1, q2⟩ := w.p a b (by show upd κ.pv p o a = some b; rw [upd_ne e]; exact h')
    refine ⟨q1, ?_⟩
    show upd κ.F p o a = none
    rw [upd_ne e]
    exact q2
  · exact (w.ob i a m e1 e2).mono ((κ.unpriv_w p o).trans L.w) rfl
  · have e' : a ≠ p := fun z => nas i (z ▸ e)
    obtain ⟨q1, q2⟩ := w.sep i a e
    refine ⟨?_, ?_⟩
    · show upd κ.F p o a = none
      rw [upd_ne e']
      exact q1
    · have z : upd κ.pv p o a = none := q2
      rw [upd_ne e'] at z
      exact z
theorem Le.unpriv {κ κ' : Kw} {p : Addr} {o : HO} (l : Le (κ.priv p o) κ') : ∃ κ2 : Kw, κ' = κ2.priv p o ∧ Le κ κ2 := by
  refine ⟨{ κ' with pv := κ.pv }, ?_, ⟨l.f, l.a, rfl⟩⟩
  have e : κ'.pv = upd κ.pv p o := l.p
  cases κ'
  simp only at e
  subst e
  rfl
/-- [elt for target in it if test] -/
theorem ref_lc {wi : TI} {t : TG} {tt : TT} {te : TE} {vs : List Nat} {it : E Its} {g : Tg} {gt : E Bool} {ge : E D} (hi : RefI K pm W wi it) (hg : RefGv K pm vs t g) (ht : RefT K pm (fun _ _ _ _ => False) tt gt) (he : RefE K pm (fun _ _ _ _ => False) te ge) :
    RefE K pm W (tLc wi t tt te vs) (eLc it g gt ge vs) := fun κ0 => by
  refine Ref.bind (k := fun (J : It) (σ : L2.St) (H : Hp) (Q : VK) => ∀ D, H D = none → ∃ W : Nat → Nat → Hp → Prop, (∃ m, W 0 m (upd H D (.lst []))) ∧ ∀ i m H, W i m H →
    (J.stop i H ∧ Q (V.ref D) H) ∨ (J.go i H ∧ ∃ Nx : Hp → Prop, (∀ H', Nx H' → ∃ m', m' < m ∧ W (i + 1) m' H') ∧ ∀ x H', J.yld i H x H' → t x (L2.wipe σ vs) H' fun σ2 H2 => L2.wipe σ2 vs = L2.wipe σ vs ∧ tt σ2 H2 fun b H3 =>
      if b = true then te σ2 H3 fun y H4 => ∃ acc, H4 D = some (.lst acc) ∧ acc.length < sizeLine ∧ Nx (upd H4 D (.lst (acc ++ [y]))) else Nx H3)) (hi κ0) ?_
  intro J I κ1 l1 r1 κ l σ v s H Q w e p D hD
  obtain ⟨its, ok⟩ := I
  have hpv : κ.pv D = none := w.new_pv hD
  refine ⟨fun i m H => m = its.length - i ∧ i ≤ its.length ∧ ∃ (κ2 : Kw) (s : Store) (acc : List Dn.D) (xs : List V), Le κ κ2 ∧ Wd K pm (κ2.priv D (.lst xs)) s H ∧ RepAll K pm κ2 xs acc ∧ Post K pm (Rep K pm) W σ κ Q (eThen (lcs g gt ge vs ok (its.drop i) acc) (fun l _ s => .ok (.lst l) s) v s),
    ⟨_, rfl, Nat.zero_le _, κ, s, [], [], Le.refl κ, w.priv hD _, .nil, p⟩, ?_⟩
  rintro i m H ⟨rfl, hi, κ2, s, acc, xs, l2, w, ra, p⟩
  unfold eThen at p
  by_cases hlt : i < its.length
  · have hd : its.drop i = its[i] :: its.drop (i + 1) := List.drop_eq_getElem_cons hlt
    rw [hd] at p
    unfold lcs at p
    by_cases ho : (ok s && decide (acc.length < 100000)) = true
    · rw [if_pos ho] at p
      obtain ⟨ho1, ho2⟩ := Bool.and_eq_true_iff.mp ho
      have hsz : xs.length < sizeLine := by
        rw [ra.length]
        exact Nat.lt_of_lt_of_le (of_decide_eq_true ho2) (by decide)
      obtain ⟨g1, g2⟩ := r1.go (κ2.priv D (.lst xs)) ((l.trans l2).w.trans (κ2.priv_w _ _)) s H w ho1 i its[i] (by simp [hlt])
      refine .inr ⟨g1, fun H' => ∃ (κ2 : Kw) (s : Store) (acc : List Dn.D) (xs : List V), Le κ κ2 ∧ Wd K pm (κ2.priv D (.lst xs)) s H' ∧ RepAll K pm κ2 xs acc ∧ Post K pm (Rep K pm) W σ κ Q (eThen (lcs g gt ge vs ok (its.drop (i + 1)) acc) (fun l _ s => .ok (.lst l) s) v s), fun H' q => ⟨_, by omega, rfl, hlt, q⟩, fun x H' y => ?_⟩
      obtain ⟨κ3, l3, w3, r3⟩ := g2 x H' y
      cases q : g its[i] (Dn.wipe v vs) s with
      | none =>
        rw [q] at p
        exact p.elim
      | some o =>
        obtain ⟨v1, s1⟩ := o
        rw [q] at p
        simp only at p
        have e3 : EnvOk K pm κ3 (L2.wipe σ vs) (Dn.wipe v vs) := (e.monoW (l2.w.trans ((κ2.priv_w _ _).trans l3.w))).wipe vs
        refine hg κ3 (L2.wipe σ vs) (Dn.wipe v vs) s H' x its[i] v1 s1 w3 e3 r3 q _ fun σ4 κ4 H4 l4 w4 e4 z => ⟨z.trans (wipe_wipe vs), ?_⟩
        refine ht κ4 κ4 (Le.refl κ4) σ4 v1 s1 H4 _ w4 e4 ?_
        cases q2 : gt v1 s1 with
        | no =>
          rw [q2] at p
          exact p.elim
        | ex _ _ =>
          rw [q2] at p
          exact p.elim
        | ok b s2 =>
          rw [q2] at p
          intro b' κ5 H5 l5 w5 rb
          have eb : b' = b := rb
          subst eb
          cases b' with
          | false =>
            simp only at p
            obtain ⟨κ6, rfl, l6⟩ := (l3.trans (l4.trans l5)).unpriv
            exact ⟨κ6, s2, acc, xs, l2.trans l6, w5, ra.mono l6, p⟩
          | true =>
            simp only at p
            refine he κ5 κ5 (Le.refl κ5) σ4 v1 s2 H5 _ w5 (e4.mono l5) ?_
            cases q3 : ge v1 s2 with
            | no =>
              rw [q3] at p
              exact p.elim
            | ex _ _ =>
              rw [q3] at p
              exact p.elim
            | ok d s3 =>
              rw [q3] at p
              intro y κ7 H7 l7 w7 ry
              simp only at p
              obtain ⟨κ8, rfl, l8⟩ := (l3.trans (l4.trans (l5.trans l7))).unpriv
              refine ⟨xs, (w7.p D _ upd_same).1, hsz, κ8, s3, acc ++ [d], xs ++ [y], l2.trans l8, w7.priv_put _, (ra.mono l8).append (.one (ry.monoW (κ8.unpriv_w _ _))), p⟩
    · rw [if_neg ho] at p
      exact p.elim
  · have hz : i = its.length := by omega
    subst hz
    rw [List.drop_length] at p
    unfold lcs at p
    by_cases ho : ok s = true
    · rw [if_pos ho] at p
      refine .inl ⟨r1.stop (κ2.priv D (.lst xs)) ((l.trans l2).w.trans (κ2.priv_w _ _)) s H w ho, ?_⟩
      obtain ⟨w', l'⟩ := w.open_ (by rw [l2.p]; exact hpv)
      exact p (.ref D) (κ2.add D (.lst xs)) H (l2.trans l') w' (.lst upd_same (ra.mono l'))
    · rw [if_neg ho] at p
      exact p.elim
theorem ref_yes : RefT K pm W L2.tYes Dn.tYes := fun κ0 κ l σ v s H Q w e p => p true κ H (Le.refl κ) w rfl
/-! ### calls -/
/-- what a def promises, by its mirror -/
def spD (K : PySem.W.Frag) (pm : Pm) (g : Fn) : Sp := fun vs H Q E => ∃ (κ : Kw) (s : Store) (ds : List D), Wd K pm κ s H ∧ RepAll K pm κ vs ds ∧ Post K pm (Rep K pm) (fun cls d _ H => E cls d H) [] κ Q (g ds s)
theorem ref_call {g : Fn} {ta : TA} {ga : E (List D)} (ha : RefA K pm W ta ga) : RefE K pm W (tCallS (spD K pm g) (WE W) ta) (eCall g ga) := fun κ0 => by
  refine Ref.bind (k := fun vs σ H Q => spD K pm g vs H Q (WE W σ)) (ha κ0) ?_
  intro vs ds κ1 l1 r1 κ l σ v s H Q w e p
  refine ⟨κ, s, ds, w, r1.mono l, ?_⟩
  dsimp only at p
  cases q : g ds s with
  | ok d s1 =>
    rw [q] at p
    exact p
  | ex e1 s1 =>
    rw [q] at p
    exact p
  | no =>
    rw [q] at p
    exact p
theorem EnvOk.start {κ : Kw} {vs : List V} {ds : List D} (r : RepAll K pm κ vs ds) (N : List Str) : EnvOk K pm κ (L2.start N vs) (env0 N.length ds) := by
  unfold L2.start env0
  refine ⟨by simp [r.length], fun i d h => ?_⟩
  by_cases hi : i < ds.length
  · rw [List.getElem?_append_left (by simpa using hi)] at h
    rw [List.getElem?_append_left (by simpa [r.length] using hi)]
    simp only [List.getElem?_map, Option.map_eq_some_iff, Option.some.injEq] at h
    obtain ⟨d', h1, h2⟩ := h
    subst h2
    obtain ⟨x, h3, h4⟩ := r.get h1
    exact ⟨x, by simp [h3], h4⟩
  · rw [List.getElem?_append_right (by simpa using hi)] at h
    simp only [List.getElem?_replicate] at h
    split at h <;> cases h
theorem body_spD {N : List Str} {p : Nat} {b : S} {t : TS} {vs : List V} {H : Hp} {Q : VK} {E : XK} (hb : RefS K pm (fun cls d _ H => E cls d H) t b) (h : spD K pm (body N.length p b) vs H Q E) : t { nx := fun _ H' => Q .non H', rt := Q } (L2.start N vs) H := by
  obtain ⟨κ, s, ds, w, r, q⟩ := h
  unfold body at q
  by_cases hl : ds.length = p
  · rw [if_pos hl] at q
    refine hb κ κ (Le.refl κ) _ (env0 N.length ds) s H _ w (EnvOk.start r N) ?_
    cases e : b (env0 N.length ds) s with
    | nx v1 s1 =>
      rw [e] at q
      exact fun σ κ' H' l w _ => q .non κ' H' l w .non
    | rt d s1 =>
      rw [e] at q
      exact fun x κ' H' l w r => q x κ' H' l w r
    | ex e1 v1 s1 =>
      rw [e] at q
      exact fun c d σ κ' H' l w _ r => q c d κ' H' l w r
    | bk v1 s1 =>
      rw [e] at q
      exact q.elim
    | ct v1 s1 =>
      rw [e] at q
      exact q.elim
    | no =>
      rw [e] at q
      exact q.elim
  · rw [if_neg hl] at q
    exact q.elim
theorem spD_len {n p : Nat} {b : S} {vs : List V} {H : Hp} {Q : VK} {E : XK} (h : spD K pm (body n p b) vs H Q E) : vs.length = p := by
  obtain ⟨κ, s, ds, w, r, q⟩ := h
  unfold body at q
  by_cases hl : ds.length = p
  · rw [r.length]
    exact hl
  · rw [if_neg hl] at q
    exact q.elim
end
/-! ### a piece of the text and its mirror -/
structure DE (pm : Pm) (X : Cx) (W : WX) (e : Expr) (g : E D) : Prop where
  ex : ∃ t, PE X e t ∧ RefE X.K pm W t g
structure DT (pm : Pm) (X : Cx) (W : WX) (e : Expr) (g : E Bool) : Prop where
  ex : ∃ t, PT X e t ∧ RefT X.K pm W t g
/-- a chain of and, or -/
structure DW (pm : Pm) (X : Cx) (W : WX) (e : Expr) (g : E Bool) : Prop where
  ex : ∃ t, PW X e t ∧ RefT X.K pm W t g
structure DA (pm : Pm) (X : Cx) (W : WX) (es : List Expr) (g : E (List D)) : Prop where
  ex : ∃ t, PA X es t ∧ RefA X.K pm W t g
  len : Len g es.length
structure DS (pm : Pm) (X : Cx) (W : WX) (st : Stmt) (g : S) : Prop where
  ex : ∃ t, PS X st t ∧ RefS X.K pm W t g
structure DB (pm : Pm) (X : Cx) (W : WX) (st : List Stmt) (g : S) : Prop where
  ex : ∃ t, PSs X st t ∧ RefS X.K pm W t g
structure DI (pm : Pm) (X : Cx) (W : WX) (tg iter : Expr) (g : E Its) : Prop where
  ex : ∃ t, PI X tg iter t ∧ RefI X.K pm W t g
structure DG (pm : Pm) (X : Cx) (tg : Expr) (g : Tg) : Prop where
  ex : ∃ t, PG X tg t ∧ RefG X.K pm t g
end Dn
/-! Dn5: the operations. -/
namespace Dn
open PySem PySem.Spec PyProof.Rows L2
/-! ### data that are shown, compared -/
mutual
def toPy0 : D → Option PyData
  | .non => some .none
  | .bl b => some (.bool b)
  | .int i => some (.int i)
  | .str x => some (.str x)
  | .tup l => (toPyL0 l).map .tuple
  | .lst l => (toPyL0 l).map .list
  | .fro l => (toPyL0 l).map .list
  | .hnd _ => none
  | .exc _ _ => none
  | .cls _ => none
def toPyL0 : List D → Option (List PyData)
  | [] => some []
  | x :: r => match toPy0 x, toPyL0 r with
    | some p, some q => some (p :: q)
    | _, _ => none
end
def toPy (s : Store) : D → Option PyData
  | .hnd h => (match s[h]? with
    | some (.lst l) => (toPyL0 l).map .list
    | _ => none)
  | d => toPy0 d
section
variable {K : PySem.W.Frag} {pm : Pm} {W : WX}
mutual
theorem toPy0_dp {κ : Kw} {s : Store} {H : Hp} (w : Wd K pm κ s H) : ∀ {d : D} {x : V} {p : PyData}, Rep K pm κ x d → toPy0 d = some p → Dp K H x p
  | .non, _, _, .non, e => by cases e; exact .non
  | .bl b, _, _, .bl _, e => by cases e; exact .bl b
  | .int i, _, _, .int _, e => by cases e; exact .int i
  | .str x, _, _, .str _, e => by cases e; exact .str x
  | .tup l, _, p, .tup h r, e => by
    unfold toPy0 at e
    obtain ⟨q, h1, h2⟩ := Option.map_eq_some_iff.mp e
    subst h2
    exact .tup (sqT_mono w.f h) (toPyL0_dp w r h1)
  | .lst l, _, p, .lst h r, e => by
    unfold toPy0 at e
    obtain ⟨q, h1, h2⟩ := Option.map_eq_some_iff.mp e
    subst h2
    exact .lst (.inl (.inl (w.f _ _ h))) (toPyL0_dp w r h1)
  | .fro l, _, p, .fro h r, e => by
    unfold toPy0 at e
    obtain ⟨q, h1, h2⟩ := Option.map_eq_some_iff.mp e
    subst h2
    exact .lst (sqL_mono w.f h) (toPyL0_dp w r h1)
theorem toPyL0_dp {κ : Kw} {s : Store} {H : Hp} (w : Wd K pm κ s H) : ∀ {l : List D} {xs : List V} {ps : List PyData}, RepAll K pm κ xs l → toPyL0 l = some ps → DpAll K H xs ps
  | [], _, _, .nil, e => by cases e; exact .nil
  | d :: l, _, ps, .cons a b, e => by
    unfold toPyL0 at e
    split at e
    · rename_i p q h1 h2
      cases e
      exact .cons (toPy0_dp w a h1) (toPyL0_dp w b h2)
    · cases e
end
theorem toPy_dp {κ : Kw} {s : Store} {H : Hp} (w : Wd K pm κ s H) {d : D} {x : V} {p : PyData} (r : Rep K pm κ x d) (e : toPy s d = some p) : Dp K H x p := by
  cases d with
  | hnd h =>
    unfold toPy at e
    simp only at e
    split at e
    · rename_i l hl
      obtain ⟨q, h1, h2⟩ := Option.map_eq_some_iff.mp e
      subst h2
      obtain ⟨a, xs, rfl, _, h3, h4⟩ := hnd_rep w r hl
      exact .lst (.inl (.inl h3)) (toPyL0_dp w h4 h1)
    · cases e
  | _ => exact toPy0_dp w r e
/-! ### numbers -/
def intsD (f : Int → Int → Option D) : Op2 := fun _ x y => match x, y with
  | .int i, .int j => f i j
  | _, _ => none
theorem op_ints0 {g : Int → Int → V} {f : Int → Int → Option D} (h : ∀ i j d, f i j = some d → ∀ κ, Rep K pm κ (g i j) d) : Op2R K pm (rI0 g) (intsD f) := by
  intro κ s H x y dx dy d w rx ry e Q q
  cases rx with
  | int i =>
    cases ry with
    | int j => exact ⟨i, j, rfl, rfl, q _ κ H (Le.refl κ) w (h i j d e κ)⟩
    | _ => cases e
  | _ => cases e
theorem op_intsC {C : Int → Int → Prop} {g : Int → Int → V} {f : Int → Int → Option D} (h : ∀ i j d, f i j = some d → C i j ∧ ∀ κ, Rep K pm κ (g i j) d) : Op2R K pm (rI C g) (intsD f) := by
  intro κ s H x y dx dy d w rx ry e Q q
  cases rx with
  | int i =>
    cases ry with
    | int j => exact ⟨i, j, rfl, rfl, (h i j d e).1, q _ κ H (Le.refl κ) w ((h i j d e).2 κ)⟩
    | _ => cases e
  | _ => cases e
def subD : Op2 := intsD fun i j => some (.int (i - j))
theorem or_sub : Op2R K pm (rI0 fun i j => .int (i - j)) subD := op_ints0 fun i j d e κ => by cases e; exact .int _
def mulD : Op2 := intsD fun i j => if -(2 ^ 64) < i ∧ i < 2 ^ 64 ∨ -(2 ^ 64) < j ∧ j < 2 ^ 64 then some (.int (i * j)) else none
theorem or_mul : Op2R K pm (rI CMul fun i j => .int (i * j)) mulD := op_intsC fun i j d e => by
  split at e
  · rename_i h
    cases e
    exact ⟨h, fun κ => .int _⟩
  · cases e
def fdivD : Op2 := intsD fun i j => if j ≠ 0 ∧ j.natAbs < 1073741824 then some (.int (i.fdiv j)) else none
theorem or_fdiv : Op2R K pm (rI CDivN fun i j => .int (i.fdiv j)) fdivD := op_intsC fun i j d e => by
  split at e
  · rename_i h
    cases e
    exact ⟨h, fun κ => .int _⟩
  · cases e
def modD : Op2 := intsD fun i j => if j ≠ 0 then some (.int (i.fmod j)) else none
theorem or_mod : Op2R K pm (rI (fun _ j => j ≠ 0) fun i j => .int (i.fmod j)) modD := op_intsC fun i j d e => by
  split at e
  · rename_i h
    cases e
    exact ⟨h, fun κ => .int _⟩
  · cases e
def powD : Op2 := intsD fun i j => if 0 ≤ j ∧ j ≤ 1000000 ∧ i.natAbs < 2 ^ 64 then some (.int (i ^ j.toNat)) else none
theorem or_pow : Op2R K pm (rI CPow fun i j => .int (i ^ j.toNat)) powD := op_intsC fun i j d e => by
  split at e
  · rename_i h
    cases e
    exact ⟨h, fun κ => .int _⟩
  · cases e
def ltD : Op2 := intsD fun i j => some (.bl (decide (i < j)))
theorem or_lt : Op2R K pm (rI0 fun i j => .bl (decide (i < j))) ltD := op_ints0 fun i j d e κ => by cases e; exact .bl _
def leD : Op2 := intsD fun i j => some (.bl (decide (i ≤ j)))
theorem or_le : Op2R K pm (rI0 fun i j => .bl (decide (i ≤ j))) leD := op_ints0 fun i j d e κ => by cases e; exact .bl _
def gtD : Op2 := intsD fun i j => some (.bl (decide (j < i)))
theorem or_gt : Op2R K pm (rI0 fun i j => .bl (decide (j < i))) gtD := op_ints0 fun i j d e κ => by cases e; exact .bl _
def geD : Op2 := intsD fun i j => some (.bl (decide (j ≤ i)))
theorem or_ge : Op2R K pm (rI0 fun i j => .bl (decide (j ≤ i))) geD := op_ints0 fun i j d e κ => by cases e; exact .bl _
def negD : Op1 := fun _ x => match x with
  | .int i => some (.int (-i))
  | _ => none
theorem or_neg : Op1R K pm (rU fun i => .int (-i)) negD := by
  intro κ s H x dx d w rx e Q q
  cases rx with
  | int i =>
    cases e
    exact ⟨i, rfl, q _ κ H (Le.refl κ) w (.int _)⟩
  | _ => cases e
/-! ### + -/
/-- a list that may be joined to another -/
def plOf (s : Store) : D → Option (List D)
  | .lst l => some l
  | .hnd h => (match s[h]? with
    | some (.lst l) => some l
    | _ => none)
  | _ => none
theorem plOf_rep {κ : Kw} {s : Store} {H : Hp} {x : V} {d : D} {l : List D} (w : Wd K pm κ s H) (r : Rep K pm κ x d) (h : plOf s d = some l) : ∃ a xs, x = .ref a ∧ H a = some (.lst xs) ∧ RepAll K pm κ xs l := by
  cases r with
  | lst h1 h2 =>
    cases h
    exact ⟨_, _, rfl, w.f _ _ h1, h2⟩
  | hnd h1 =>
    unfold plOf at h
    simp only at h
    split at h
    · cases h
      rename_i l' e
      obtain ⟨xs, q1, q2⟩ := w.lst h1 e
      exact ⟨_, xs, rfl, q1, q2⟩
    · cases h
  | _ => cases h
def addD : Op2 := fun s x y => match x, y with
  | .int i, .int j => some (.int (i + j))
  | .str a, .str b => if a.length + b.length ≤ 1000000 then some (.str (a ++ b)) else none
  | .tup a, .tup b => if a.length + b.length ≤ 100000 then some (.tup (a ++ b)) else none
  | x, y => match plOf s x, plOf s y with
    | some a, some b => if a.length + b.length ≤ 100000 then some (.lst (a ++ b)) else none
    | _, _ => none
abbrev rAddAll (K : PySem.W.Frag) : R2 := fun x y H Q => (rI0 fun i j => .int (i + j)) x y H Q ∨ (∃ i j, x = .str i ∧ y = .str j ∧ i.length + j.length ≤ sizeLine ∧ Q (.str (i ++ j)) H) ∨ rCat x y H Q ∨ rCatA K x y H Q
theorem opr_add {X : Cx} : OpR X (binaryOp .Add) (rAddAll X.K) := op_add.or (op_add_str.or (op_cat.or op_catA))
theorem or_add : Op2R K pm (rAddAll K) addD := by
  intro κ s H x y dx dy d w rx ry e Q q
  unfold addD at e
  split at e
  · cases rx
    cases ry
    cases e
    exact .inl ⟨_, _, rfl, rfl, q _ κ H (Le.refl κ) w (.int _)⟩
  · cases rx
    cases ry
    split at e
    · rename_i hz
      cases e
      exact .inr (.inl ⟨_, _, rfl, rfl, Nat.le_trans hz (by decide), q _ κ H (Le.refl κ) w (.str _)⟩)
    · cases e
  · rename_i a b
    cases rx with
    | tup h1 h2 =>
      rename_i p xs
      cases ry with
      | tup h3 h4 =>
        rename_i p' ys
        split at e
        · rename_i hz
          cases e
          have t1 := sqT_mono w.f h1
          have t2 := sqT_mono w.f h3
          refine .inr (.inr (.inr ⟨p, p', xs, ys, rfl, rfl, t1, t2, by rw [h2.length, h4.length]; exact Nat.le_trans hz (by decide), fun z => ?_, fun z1 z2 => ?_, fun z1 z2 a ha => ?_⟩))
          · subst z
            cases h2
            exact q _ κ H (Le.refl κ) w (.tup h3 h4)
          · subst z2
            cases h4
            rw [List.append_nil] at q
            exact q _ κ H (Le.refl κ) w (.tup h1 h2)
          · exact q _ (κ.add a (.tup (xs ++ ys))) _ (w.add_le ha _) (w.add ha _) (.tup (.inl (.inl upd_same)) ((h2.append h4).mono (w.add_le ha _)))
        · cases e
  · split at e
    · rename_i a b ha hb
      split at e
      · rename_i hz
        cases e
        obtain ⟨p, xs, rfl, h1, h2⟩ := plOf_rep w rx ha
        obtain ⟨p', ys, rfl, h3, h4⟩ := plOf_rep w ry hb
        refine .inr (.inr (.inl ⟨p, p', xs, ys, rfl, rfl, h1, h3, by rw [h2.length, h4.length]; exact Nat.le_trans hz (by decide), fun a ha => ?_⟩))
        exact q _ (κ.add a (.lst (xs ++ ys))) _ (w.add_le ha _) (w.add ha _) (.lst upd_same ((h2.append h4).mono (w.add_le ha _)))
      · cases e
    · cases e
/-! ### == -/
def eqC (s : Store) (x y : D) : Option Bool := match x, y with
  | .non, .non => some true
  | .int i, .int j => some (decide (i = j))
  | .bl i, .bl j => some (decide (i = j))
  | .str a, .str b => some (decide (a = b))
  | .non, .int _ | .non, .bl _ | .non, .str _ | .int _, .non | .bl _, .non | .str _, .non | .int _, .str _ | .str _, .int _ | .bl _, .str _ | .str _, .bl _ => some false
  | x, y => match toPy s x, toPy s y with
    | some p, some q => if SeqAt.shaped p = true ∧ SeqAt.shaped q = true then some (PyData.eqv p q) else none
    | _, _ => none
def eqD : Op2 := fun s x y => (eqC s x y).map D.bl
def neD : Op2 := fun s x y => (eqC s x y).map fun b => D.bl (!b)
abbrev rEqAll (K : PySem.W.Frag) : R2 := fun x y H Q => rEq x y H Q ∨ rEqD K x y H Q
abbrev rNeAll (K : PySem.W.Frag) : R2 := fun x y H Q => rNe x y H Q ∨ rNeD K x y H Q
theorem opr_eq {X : Cx} (hu : X.A.units + 64 < cLine) : OpR X (compareOp .Eq) (rEqAll X.K) := op_eq.or (op_eqD hu)
theorem opr_ne {X : Cx} (hu : X.A.units + 64 < cLine) : OpR X (compareOp .NotEq) (rNeAll X.K) := op_ne.or (op_neD hu)
theorem eqC_is {κ : Kw} {s : Store} {H : Hp} {x y : V} {dx dy : D} {b : Bool} (w : Wd K pm κ s H) (rx : Rep K pm κ x dx) (ry : Rep K pm κ y dy) (e : eqC s dx dy = some b) :
    (scal x y = true ∧ decide (x = y) = b) ∨ ∃ p q, Dp K H x p ∧ Dp K H y q ∧ SeqAt.shaped p = true ∧ SeqAt.shaped q = true ∧ PyData.eqv p q = b := by
  unfold eqC at e
  split at e
  case h_15 =>
    split at e
    · rename_i p q h1 h2
      split at e
      · rename_i hz
        cases e
        exact .inr ⟨p, q, toPy_dp w rx h1, toPy_dp w ry h2, hz.1, hz.2, rfl⟩
      · cases e
    · cases e
  all_goals
    cases rx
    cases ry
    cases e
    exact .inl ⟨rfl, by simp⟩
theorem or_eq : Op2R K pm (rEqAll K) eqD := by
  intro κ s H x y dx dy d w rx ry e Q q
  obtain ⟨b, h1, h2⟩ := Option.map_eq_some_iff.mp e
  subst h2
  have q' := q (.bl b) κ H (Le.refl κ) w (.bl b)
  rcases eqC_is w rx ry h1 with ⟨z1, z2⟩ | ⟨p, r, z1, z2, z3, z4, z5⟩
  · exact .inl ⟨z1, by rw [z2]; exact q'⟩
  · exact .inr ⟨p, r, z1, z2, z3, z4, by rw [z5]; exact q'⟩
theorem or_ne : Op2R K pm (rNeAll K) neD := by
  intro κ s H x y dx dy d w rx ry e Q q
  obtain ⟨b, h1, h2⟩ := Option.map_eq_some_iff.mp e
  subst h2
  have q' := q (.bl (!b)) κ H (Le.refl κ) w (.bl (!b))
  rcases eqC_is w rx ry h1 with ⟨z1, z2⟩ | ⟨p, r, z1, z2, z3, z4, z5⟩
  · exact .inl ⟨z1, by rw [z2]; exact q'⟩
  · exact .inr ⟨p, r, z1, z2, z3, z4, by rw [z5]; exact q'⟩
/-- is None -/
def noneB : D → Bool
  | .non => true
  | _ => false
def isND : Op2 := fun _ x y => match y with
  | .non => some (.bl (noneB x))
  | _ => none
def notND : Op2 := fun _ x y => match y with
  | .non => some (.bl (!noneB x))
  | _ => none
theorem noneB_is {κ : Kw} {x : V} {d : D} (r : Rep K pm κ x d) : decide (x = .non) = noneB d := by
  cases r <;> simp [noneB]
theorem or_isN : Op2R K pm (fun x y H Q => y = .non ∧ Q (.bl (decide (x = .non))) H) isND := by
  intro κ s H x y dx dy d w rx ry e Q q
  cases ry with
  | non =>
    cases e
    exact ⟨rfl, by rw [noneB_is rx]; exact q _ κ H (Le.refl κ) w (.bl _)⟩
  | _ => cases e
theorem or_notN : Op2R K pm (fun x y H Q => y = .non ∧ Q (.bl (!decide (x = .non))) H) notND := by
  intro κ s H x y dx dy d w rx ry e Q q
  cases ry with
  | non =>
    cases e
    exact ⟨rfl, by rw [noneB_is rx]; exact q _ κ H (Le.refl κ) w (.bl _)⟩
  | _ => cases e
/-! ### in -/
/-- flat data as values -/
def flat : D → Option V
  | .non => some .non
  | .bl b => some (.bl b)
  | .int i => some (.int i)
  | .str x => some (.str x)
  | _ => none
def flats : List D → Option (List V)
  | [] => some []
  | x :: r => match flat x, flats r with
    | some p, some q => some (p :: q)
    | _, _ => none
theorem flat_rep {κ : Kw} {x y : V} {d : D} (r : Rep K pm κ x d) (h : flat d = some y) : y = x ∧ flatV x = true := by
  cases r <;> cases h <;> exact ⟨rfl, rfl⟩
theorem flats_rep {κ : Kw} : ∀ {l : List D} {xs ys : List V}, RepAll K pm κ xs l → flats l = some ys → ys = xs ∧ xs.all flatV = true
  | [], _, _, .nil, h => by cases h; exact ⟨rfl, rfl⟩
  | d :: l, _, _, .cons a b, h => by
    unfold flats at h
    split at h
    · rename_i p q h1 h2
      cases h
      obtain ⟨e1, f1⟩ := flat_rep a h1
      obtain ⟨e2, f2⟩ := flats_rep b h2
      subst e1
      subst e2
      exact ⟨rfl, by rw [List.all_cons, f1, f2]; rfl⟩
    · cases h
def inC (s : Store) (x y : D) : Option Bool := match x, y with
  | .str a, .str z => (match a.cps.toList with
    | [c] => some (decide (c ∈ z.cps.toList))
    | _ => none)
  | x, y => match flat x, seqOf s y with
    | some v, some l => (flats l).map fun vs => inV v vs
    | _, _ => none
def inD : Op2 := fun s x y => (inC s x y).map D.bl
def ninD : Op2 := fun s x y => (inC s x y).map fun b => D.bl (!b)
abbrev rInAll (K : PySem.W.Frag) : R2 := fun x y H Q => (∃ (c : Nat) (z : Str), x = .str ⟨#[c]⟩ ∧ y = .str z ∧ Q (.bl (decide (c ∈ z.cps.toList))) H) ∨ rIn K false x y H Q
abbrev rNinAll (K : PySem.W.Frag) : R2 := fun x y H Q => (∃ (c : Nat) (z : Str), x = .str ⟨#[c]⟩ ∧ y = .str z ∧ Q (.bl (!decide (c ∈ z.cps.toList))) H) ∨ rIn K true x y H Q
theorem opr_in {X : Cx} : OpR X (compareOp .In) (rInAll X.K) := op_in_sign.or op_in_seq
theorem opr_nin {X : Cx} : OpR X (compareOp .NotIn) (rNinAll X.K) := op_notIn_sign.or op_notIn_seq
theorem str_one {a : Str} {c : Nat} (h : a.cps.toList = [c]) : a = ⟨#[c]⟩ := by
  obtain ⟨⟨l⟩⟩ := a
  simp only at h
  subst h
  rfl
theorem inC_is {κ : Kw} {s : Store} {H : Hp} {x y : V} {dx dy : D} {b : Bool} (w : Wd K pm κ s H) (rx : Rep K pm κ x dx) (ry : Rep K pm κ y dy) (e : inC s dx dy = some b) :
    (∃ (c : Nat) (z : Str), x = .str ⟨#[c]⟩ ∧ y = .str z ∧ decide (c ∈ z.cps.toList) = b) ∨ ∃ p xs, y = .ref p ∧ (SqL K H p xs ∨ SqT K H p xs) ∧ flatV x = true ∧ xs.all flatV = true ∧ inV x xs = b := by
  unfold inC at e
  split at e
  · rename_i a z
    cases rx
    cases ry
    split at e
    · rename_i c hc
      cases e
      exact .inl ⟨c, z, by rw [str_one hc], rfl, rfl⟩
    · cases e
  · split at e
    · rename_i v l h1 h2
      obtain ⟨vs, h3, h4⟩ := Option.map_eq_some_iff.mp e
      obtain ⟨a, xs, rfl, h5, h6⟩ := seqOf_rep w ry h2
      obtain ⟨e1, f1⟩ := flat_rep rx h1
      obtain ⟨e2, f2⟩ := flats_rep h6 h3
      subst e1
      subst e2
      exact .inr ⟨a, _, rfl, h5, f1, f2, h4⟩
    · cases e
theorem or_in : Op2R K pm (rInAll K) inD := by
  intro κ s H x y dx dy d w rx ry e Q q
  obtain ⟨b, h1, h2⟩ := Option.map_eq_some_iff.mp e
  subst h2
  have q' := q (.bl b) κ H (Le.refl κ) w (.bl b)
  rcases inC_is w rx ry h1 with ⟨c, z, rfl, rfl, z2⟩ | ⟨p, xs, rfl, z2, z3, z4, z5⟩
  · exact .inl ⟨c, z, rfl, rfl, by rw [z2]; exact q'⟩
  · exact .inr ⟨p, xs, rfl, z2, z3, z4, by rw [if_neg Bool.false_ne_true, z5]; exact q'⟩
theorem or_nin : Op2R K pm (rNinAll K) ninD := by
  intro κ s H x y dx dy d w rx ry e Q q
  obtain ⟨b, h1, h2⟩ := Option.map_eq_some_iff.mp e
  subst h2
  have q' := q (.bl (!b)) κ H (Le.refl κ) w (.bl (!b))
  rcases inC_is w rx ry h1 with ⟨c, z, rfl, rfl, z2⟩ | ⟨p, xs, rfl, z2, z3, z4, z5⟩
  · exact .inl ⟨c, z, rfl, rfl, by rw [z2]; exact q'⟩
  · exact .inr ⟨p, xs, rfl, z2, z3, z4, by rw [if_pos rfl, z5]; exact q'⟩
/-! ### a[i], a[i:j] -/
def atD {α : Type} (l : List α) (i : Int) : Option α := (Dn.ixN l.length i).bind fun j => l[j]?
def ixD : Op2 := fun s x y => match y with
  | .int i => (match x with
    | .str z => if z.length ≤ 1000000 then (atD z.cps.toList i).map fun c => D.str ⟨#[c]⟩ else none
    | x => match seqOf s x with
      | some l => atD l i
      | none => none)
  | _ => none
theorem atD_rep {κ : Kw} {xs : List V} {l : List D} {i : Int} {d : D} (r : RepAll K pm κ xs l) (h : atD l i = some d) : ∃ v, atI xs i = some v ∧ Rep K pm κ v d := by
  unfold atD at h
  obtain ⟨j, h1, h2⟩ := Option.bind_eq_some_iff.mp h
  obtain ⟨v, h3, h4⟩ := r.get h2
  refine ⟨v, ?_, h4⟩
  unfold atI
  rw [r.length, show L2.ixN l.length i = some j from h1]
  exact h3
theorem or_ix : Op2R K pm (rIx K) ixD := by
  intro κ s H x y dx dy d w rx ry e Q q
  cases ry with
  | int i =>
    unfold ixD at e
    simp only at e
    split at e
    · rename_i z
      cases rx
      split at e
      · rename_i hz
        obtain ⟨c, h1, h2⟩ := Option.map_eq_some_iff.mp e
        subst h2
        exact .inr (.inr ⟨_, i, c, rfl, rfl, Nat.le_trans hz (by decide), h1, q _ κ H (Le.refl κ) w (.str _)⟩)
      · cases e
    · split at e
      · rename_i l hl
        obtain ⟨a, xs, rfl, h1, h2⟩ := seqOf_rep w rx hl
        obtain ⟨v, h3, h4⟩ := atD_rep h2 e
        rcases h1 with h1 | h1
        · exact .inl ⟨a, xs, i, v, rfl, rfl, h1, h3, q _ κ H (Le.refl κ) w h4⟩
        · exact .inr (.inl ⟨a, xs, i, v, rfl, rfl, h1, h3, q _ κ H (Le.refl κ) w h4⟩)
      · cases e
  | _ => cases e
def cutD {α : Type} (l : List α) (lo hi : Option Int) : List α := (l.drop (HT.sIx l.length 0 lo)).take (HT.sIx l.length l.length hi - HT.sIx l.length 0 lo)
def slD (s : Store) (x : D) (lo hi : Option Int) : Option D := match x with
  | .str z => if z.length ≤ 1000000 then some (.str (cutS z lo hi)) else none
  | .tup l => some (.tup (cutD l lo hi))
  | x => match lstOf s x with
    | some l => some (.lst (cutD l lo hi))
    | none => none
abbrev rSlAll (K : PySem.W.Frag) : V → Option Int → Option Int → Hp → VK → Prop := fun x lo hi H Q => rSlL K x lo hi H Q ∨ rSlS x lo hi H Q ∨ rSlA K x lo hi H Q
theorem slr_all {X : Cx} : SlR X (rSlAll X.K) := sl_list.or (sl_str.or sl_tupA)
theorem cut_rep {κ : Kw} {xs : List V} {l : List D} (r : RepAll K pm κ xs l) (lo hi : Option Int) : RepAll K pm κ (cutV xs lo hi) (cutD l lo hi) := by
  unfold cutV cutD
  rw [r.length]
  exact (r.drop _).take _
/-- the parts of a slice -/
def ePart (a : E D) : E (Option Int) := eThen a fun x => ret (match x with
  | .int i => some (some i)
  | _ => none)
def eNoPart : E (Option Int) := fun _ s => .ok none s
def eSl (a : E D) (lo hi : E (Option Int)) : E D := eThen a fun x => eThen lo fun l => eThen hi fun h => retS fun s => slD s x l h
abbrev RefO (K : PySem.W.Frag) (pm : Pm) (W : WX) (t : TO) (g : E (Option Int)) : Prop := ∀ κ, Ref K pm (fun _ x d => x = d) W κ t g
theorem ref_sl {ta : TE} {tl th : TO} {ga : E D} {gl gh : E (Option Int)} (ha : RefE K pm W ta ga) (hl : RefO K pm W tl gl) (hh : RefO K pm W th gh) : RefE K pm W (tSl (rSlAll K) ta tl th) (eSl ga gl gh) := fun κ0 => by
  refine Ref.bind (k := fun x σ H1 Q => tl σ H1 fun l H2 => th σ H2 fun u H3 => rSlAll K x l u H3 Q) (ha κ0) ?_
  intro x dx κ1 l1 r1
  refine Ref.bind (k := fun l σ H2 Q => th σ H2 fun u H3 => rSlAll K x l u H3 Q) (hl κ1) ?_
  intro l l' κ2 l2 r2
  have e1 : l = l' := r2
  subst e1
  refine Ref.bind (k := fun u _ H3 Q => rSlAll K x l u H3 Q) (hh κ2) ?_
  intro u u' κ3 l3 r3
  have e2 : u = u' := r3
  subst e2
  refine Ref.retS fun d κ ll σ s H Q w hd k => ?_
  have rx := r1.mono (l2.trans (l3.trans ll))
  unfold slD at hd
  split at hd
  · cases rx
    split at hd
    · rename_i hz
      cases hd
      exact .inr (.inl ⟨_, rfl, Nat.le_trans hz (by decide), k _ κ H (Le.refl κ) w (.str _)⟩)
    · cases hd
  · rename_i its
    cases hd
    cases rx with
    | tup h1 h2 =>
      rename_i a xs
      refine .inr (.inr ⟨a, xs, rfl, sqT_mono w.f h1, fun z => ?_, fun z p hp => ?_⟩)
      · refine k _ κ H (Le.refl κ) w (.tup h1 ?_)
        have e : cutV xs l u = xs := by
          unfold cutV
          rw [z.1, z.2]
          simp
        have := cut_rep h2 l u
        rw [e] at this
        exact this
      · exact k _ (κ.add p (.tup (cutV xs l u))) _ (w.add_le hp _) (w.add hp _) (.tup (.inl (.inl upd_same)) ((cut_rep h2 l u).mono (w.add_le hp _)))
  · split at hd
    · rename_i its hits
      cases hd
      obtain ⟨a, xs, rfl, h1, h2⟩ := lstOf_rep w rx hits
      exact .inl ⟨a, xs, rfl, h1, fun p hp => k _ (κ.add p (.lst (cutV xs l u))) _ (w.add_le hp _) (w.add hp _) (.lst upd_same ((cut_rep h2 l u).mono (w.add_le hp _)))⟩
    · cases hd
theorem ref_noPart : RefO K pm W tNoPart eNoPart := fun κ0 κ l σ v s H Q w e p => p none κ H (Le.refl κ) w rfl
theorem ref_part {ta : TE} {ga : E D} (ha : RefE K pm W ta ga) : RefO K pm W (tPart ta) (ePart ga) := fun κ0 => by
  refine Ref.bind (k := fun (x : V) (_ : L2.St) (H1 : Hp) (Q : Option Int → Hp → Prop) => ∃ i, x = .int i ∧ Q (some i) H1) (ha κ0) ?_
  intro x d κ1 l1 r1 κ l σ v s H Q w e p
  unfold Dn.ret at p
  cases r1 with
  | int i => exact ⟨i, rfl, p _ κ H (Le.refl κ) w rfl⟩
  | _ => exact p.elim
end
end Dn
/-! Dn6: built-in functions and methods. -/
namespace Dn
open PySem PySem.Spec PyProof.Rows L2
section
variable {K : PySem.W.Frag} {pm : Pm} {W : WX}
theorem all_nil {κ : Kw} {xs : List V} (r : RepAll K pm κ xs []) : xs = [] := by cases r; rfl
theorem all_one {κ : Kw} {xs : List V} {d : D} (r : RepAll K pm κ xs [d]) : ∃ x, xs = [x] ∧ Rep K pm κ x d := by
  cases r with
  | cons a b =>
    cases b
    exact ⟨_, rfl, a⟩
theorem all_two {κ : Kw} {xs : List V} {d e : D} (r : RepAll K pm κ xs [d, e]) : ∃ x y, xs = [x, y] ∧ Rep K pm κ x d ∧ Rep K pm κ y e := by
  cases r with
  | cons a b =>
    obtain ⟨y, rfl, r2⟩ := all_one b
    exact ⟨_, y, rfl, a, r2⟩
/-! ### len, int, str, tuple, list -/
def lenD (s : Store) : List D → Option D
  | [.str z] => if z.length ≤ 1000000 then some (.int z.length) else none
  | [x] => (seqOf s x).map fun l => .int l.length
  | _ => none
theorem or_len : FnR K pm (fun xs H Q => ∃ x n, xs = [x] ∧ LenV K x H n ∧ Q (.int n) H) lenD := by
  intro κ s H xs ds d w r e Q q
  unfold lenD at e
  split at e
  · obtain ⟨x, rfl, r1⟩ := all_one r
    cases r1
    split at e
    · rename_i hz
      cases e
      exact ⟨_, _, rfl, ⟨Nat.le_trans hz (by decide), rfl⟩, q _ κ H (Le.refl κ) w (.int _)⟩
    · cases e
  · obtain ⟨x, rfl, r1⟩ := all_one r
    obtain ⟨l, h1, h2⟩ := Option.map_eq_some_iff.mp e
    subst h2
    obtain ⟨a, xs, rfl, h3, h4⟩ := seqOf_rep w r1 h1
    refine ⟨_, l.length, rfl, ?_, q _ κ H (Le.refl κ) w (.int _)⟩
    rw [← h4.length]
    rcases h3 with h3 | h3
    · exact .inl ⟨xs, h3, rfl⟩
    · exact .inr ⟨xs, h3, rfl⟩
  · cases e
def intD (_ : Store) : List D → Option D
  | [.int i] => some (.int i)
  | [.bl b] => some (.int (if b then 1 else 0))
  | [.str z] => if z.length ≤ 640 then (PySem.intText? z).map .int else none
  | _ => none
abbrev rIntAll : List V → Hp → VK → Prop := fun xs H Q => ((∃ i, xs = [.int i] ∧ Q (.int i) H) ∨ ∃ k, xs = [.bl k] ∧ Q (.int (if k then 1 else 0)) H) ∨ (∃ a n, xs = [.str a] ∧ PySem.intText? a = some n ∧ a.length ≤ 640 ∧ Q (.int n) H)
theorem CallR.or {X : Cx} {f : Value} {r r' : List V → Hp → VK → Prop} (h : CallR X f r) (h' : CallR X f r') : CallR X f (fun xs H Q => r xs H Q ∨ r' xs H Q) := by
  intro pins s σ H xs us Q I rv q
  rcases q with q | q
  · exact h pins s σ H xs us Q I rv q
  · exact h' pins s σ H xs us Q I rv q
theorem call_intAll {X : Cx} : CallR X (.type "int") rIntAll := CallR.or call_int1 call_int_str
theorem or_int : FnR K pm rIntAll intD := by
  intro κ s H xs ds d w r e Q q
  unfold intD at e
  split at e
  · obtain ⟨x, rfl, r1⟩ := all_one r
    cases r1
    cases e
    exact .inl (.inl ⟨_, rfl, q _ κ H (Le.refl κ) w (.int _)⟩)
  · obtain ⟨x, rfl, r1⟩ := all_one r
    cases r1
    cases e
    exact .inl (.inr ⟨_, rfl, q _ κ H (Le.refl κ) w (.int _)⟩)
  · obtain ⟨x, rfl, r1⟩ := all_one r
    cases r1
    split at e
    · rename_i hz
      obtain ⟨n, h1, h2⟩ := Option.map_eq_some_iff.mp e
      subst h2
      exact .inr ⟨_, n, rfl, h1, hz, q _ κ H (Le.refl κ) w (.int _)⟩
    · cases e
  · cases e
def strD (_ : Store) : List D → Option D
  | [.int i] => if i.natAbs < 2 ^ 1000 then some (.str ((toString i : String) : Str)) else none
  | _ => none
theorem or_str : FnR K pm (fun xs H Q => ∃ i, xs = [.int i] ∧ i.natAbs.log2 < 1920 ∧ Q (.str (toString i)) H) strD := by
  intro κ s H xs ds d w r e Q q
  unfold strD at e
  split at e
  · obtain ⟨x, rfl, r1⟩ := all_one r
    cases r1
    split at e
    · rename_i i hz
      cases e
      refine ⟨_, rfl, ?_, q _ κ H (Le.refl κ) w (.str _)⟩
      by_cases h0 : i.natAbs = 0
      · rw [h0]
        decide
      · have := (Nat.log2_lt h0).mpr hz
        omega
    · cases e
  · cases e
def tupleD (s : Store) : List D → Option D
  | [.tup l] => some (.tup l)
  | [x] => (lstOf s x).map .tup
  | _ => none
theorem or_tuple : FnR K pm (fun xs H Q => ∃ p ys, xs = [.ref p] ∧ ((SqL K H p ys ∧ ∀ l, H l = none → Q (.ref l) (upd H l (.tup ys))) ∨ (SqT K H p ys ∧ Q (.ref p) H))) tupleD := by
  intro κ s H xs ds d w r e Q q
  unfold tupleD at e
  split at e
  · obtain ⟨x, rfl, r1⟩ := all_one r
    cases e
    cases r1 with
    | tup h1 h2 => exact ⟨_, _, rfl, .inr ⟨sqT_mono w.f h1, q _ κ H (Le.refl κ) w (.tup h1 h2)⟩⟩
  · obtain ⟨x, rfl, r1⟩ := all_one r
    obtain ⟨l, h1, h2⟩ := Option.map_eq_some_iff.mp e
    subst h2
    obtain ⟨a, xs, rfl, h3, h4⟩ := lstOf_rep w r1 h1
    exact ⟨a, xs, rfl, .inl ⟨h3, fun p hp => q _ (κ.add p (.tup xs)) _ (w.add_le hp _) (w.add hp _) (.tup (.inl (.inl upd_same)) (h4.mono (w.add_le hp _)))⟩⟩
  · cases e
abbrev rListOf (K : PySem.W.Frag) : List V → Hp → VK → Prop := fun xs H Q => ∃ p ys, xs = [.ref p] ∧ (SqL K H p ys ∨ SqT K H p ys) ∧ ∀ l, H l = none → Q (.ref l) (upd H l (.lst ys))
def listD (s : Store) : List D → Option D
  | [x] => (seqOf s x).map .lst
  | _ => none
theorem or_list : FnR K pm (rListOf K) listD := by
  intro κ s H xs ds d w r e Q q
  unfold listD at e
  split at e
  · obtain ⟨x, rfl, r1⟩ := all_one r
    obtain ⟨l, h1, h2⟩ := Option.map_eq_some_iff.mp e
    subst h2
    obtain ⟨a, xs, rfl, h3, h4⟩ := seqOf_rep w r1 h1
    exact ⟨a, xs, rfl, h3, fun p hp => q _ (κ.add p (.lst xs)) _ (w.add_le hp _) (w.add hp _) (.lst upd_same (h4.mono (w.add_le hp _)))⟩
  · cases e
/-- list(..) that will change -/
def eNewOf (a : E D) : E D := eThen a fun x v s => match seqOf s x with
  | some l => .ok (.hnd s.length) (s ++ [.lst l])
  | none => .no
theorem ref_newOf {ta : TE} {ga : E D} (ha : RefE K pm W ta ga) : RefE K pm W (tCB (rListOf K) (tCons ta tNil)) (eNewOf ga) := fun κ0 => by
  refine Ref.bind (k := fun x _ H1 Q => rListOf K [x] H1 Q) (ha κ0) ?_
  intro x d κ1 l1 r1 κ l σ v s H Q w e p
  dsimp only at p
  cases q : seqOf s d with
  | none =>
    rw [q] at p
    exact p.elim
  | some its =>
    rw [q] at p
    obtain ⟨a, xs, rfl, h3, h4⟩ := seqOf_rep w (r1.mono l) q
    refine ⟨a, xs, rfl, h3, fun b hb => ?_⟩
    refine p (.ref b) (κ.new b) _ (κ.new_le b) (w.newO hb _ _ ⟨xs, upd_same, h4.mono (κ.new_le b)⟩) (.hnd ?_)
    rw [← w.len]
    exact κ.new_at b
/-! ### * of texts -/
def mulSD : Op2 := fun s x y => match x, y with
  | .str a, .int n => if 2 ≤ n ∧ n ≤ 1000 ∧ a.length = 1 then some (.str ⟨(List.replicate n.toNat a.cps).foldl (· ++ ·) #[]⟩) else none
  | x, y => mulD s x y
abbrev rMulS : R2 := fun x y H Q => (rI CMul fun i j => .int (i * j)) x y H Q ∨ ∃ (a : Str) (n : Int), x = .str a ∧ y = .int n ∧ (2 ≤ n ∧ n ≤ 1000 ∧ a.length = 1) ∧ Q (.str ⟨(List.replicate n.toNat a.cps).foldl (· ++ ·) #[]⟩) H
theorem opr_mulS {X : Cx} : OpR X (binaryOp .Mult) rMulS := by
  refine op_mul.or ?_
  intro pins s σ H x y v u Q I rx ry h
  obtain ⟨a, n, rfl, rfl, ⟨h1, h2, h3⟩, q⟩ := h
  obtain ⟨t, rfl⟩ := rx
  obtain ⟨t', rfl⟩ := ry
  have n1 : ¬ n < 1 := by omega
  have n2 : (n == 1 || a.length == 0) = false := by
    rw [h3]
    simp
    omega
  refine P.mul_str (by simp; omega) (fun _ _ => ?_) (fun _ _ => ?_) ?_
  · rw [h3]
    have : (2 ^ 63 - 1) / n ≥ 1 := by
      apply Int.le_ediv_of_mul_le (by omega)
      omega
    omega
  · rw [h3]
    unfold Builtin.Str.tooLong
    have h2' : n.toNat ≤ 1000 := by omega
    have hs : sizeLine = 16777216 := sizeLine_eq
    simp
    omega
  · rw [if_neg n1, n2]
    refine ⟨?_, ?_⟩
    · show (Str.length ⟨(List.replicate n.toNat a.cps).foldl (· ++ ·) #[]⟩) ≤ sizeLine
      have aux : ∀ (k : Nat) (acc : Array Nat), ((List.replicate k a.cps).foldl (· ++ ·) acc).size = acc.size + k := by
        intro k
        induction k with
        | zero => intro acc; rfl
        | succ k ih =>
          intro acc
          rw [List.replicate_succ, List.foldl_cons, ih, Array.size_append]
          have : a.cps.size = 1 := h3
          omega
      have h4 := aux n.toNat #[]
      show ((List.replicate n.toNat a.cps).foldl (· ++ ·) #[]).size ≤ sizeLine
      rw [h4]
      have hs : sizeLine = 16777216 := sizeLine_eq
      simp
      omega
    · exact ⟨.str ⟨(List.replicate n.toNat a.cps).foldl (· ++ ·) #[]⟩, H, I.tok _, ⟨_, rfl⟩, q⟩
theorem or_mulS : Op2R K pm rMulS mulSD := by
  intro κ s H x y dx dy d w rx ry e Q q
  unfold mulSD at e
  split at e
  · rename_i a n
    cases rx
    cases ry
    split at e
    · rename_i hz
      cases e
      exact .inr ⟨a, n, rfl, rfl, hz, q _ κ H (Le.refl κ) w (.str _)⟩
    · cases e
  · exact .inl (or_mul κ s H x y dx dy d w rx ry e Q q)
/-! ### texts -/
def strsOf : List D → Option (List Str)
  | [] => some []
  | .str x :: r => (strsOf r).map (x :: ·)
  | _ => none
theorem strsOf_rep {κ : Kw} : ∀ {l : List D} {xs : List V} {ss : List Str}, RepAll K pm κ xs l → strsOf l = some ss → xs = ss.map V.str
  | [], _, _, .nil, h => by cases h; rfl
  | .str x :: l, _, _, .cons a b, h => by
    unfold strsOf at h
    obtain ⟨q, h1, h2⟩ := Option.map_eq_some_iff.mp h
    subst h2
    cases a
    rw [strsOf_rep b h1]
    rfl
def joinD (s : Store) (x y : D) : Option D := match x with
  | .str a => (match seqOf s y with
    | some l => (match strsOf l with
      | some ss => if (ss.map (·.length)).sum + ss.length * a.length ≤ 1000000 then some (.str (Txt.join a ss)) else none
      | none => none)
    | none => none)
  | _ => none
def eJoin (a b : E D) : E D := eThen a fun x => match x with
  | .str z => eThen b fun y => retS fun s => joinD s (.str z) y
  | _ => fun _ _ => .no
theorem ref_join {ta tb : TE} {ga gb : E D} (ha : RefE K pm W ta ga) (hb : RefE K pm W tb gb) :
    RefE K pm W (tM1 (fun x xs H Q => ∃ a p, ∃ ys : List Str, x = .str a ∧ xs = [.ref p] ∧ (SqL K H p (ys.map V.str) ∨ SqT K H p (ys.map V.str)) ∧ (ys.map (·.length)).sum + ys.length * a.length ≤ 16777216 ∧ Q (.str (Txt.join a ys)) H) ta tb) (eJoin ga gb) := fun κ0 => by
  refine Ref.bind (k := fun (x : V) σ H1 Q => (∃ a, x = .str a) ∧ tb σ H1 fun y H2 => (∃ a p, ∃ ys : List Str, x = .str a ∧ [y] = [.ref p] ∧ (SqL K H2 p (ys.map V.str) ∨ SqT K H2 p (ys.map V.str)) ∧ (ys.map (·.length)).sum + ys.length * a.length ≤ 16777216 ∧ Q (V.str (Txt.join a ys)) H2)) (ha κ0) ?_
  intro x d κ1 l1 r1 κ l σ v s H Q w e p
  cases r1 with
  | str z =>
    refine ⟨⟨z, rfl⟩, ?_⟩
    have go : Ref K pm (Rep K pm) W κ (fun σ H Q => tb σ H fun y H2 => (∃ a p, ∃ ys : List Str, V.str z = .str a ∧ [y] = [.ref p] ∧ (SqL K H2 p (ys.map V.str) ∨ SqT K H2 p (ys.map V.str)) ∧ (ys.map (·.length)).sum + ys.length * a.length ≤ 16777216 ∧ Q (V.str (Txt.join a ys)) H2)) (eThen gb fun y => Dn.retS fun s => joinD s (.str z) y) := by
      refine Ref.bind (k := fun (y : V) _ H2 Q => (∃ a p, ∃ ys : List Str, V.str z = .str a ∧ [y] = [.ref p] ∧ (SqL K H2 p (ys.map V.str) ∨ SqT K H2 p (ys.map V.str)) ∧ (ys.map (·.length)).sum + ys.length * a.length ≤ 16777216 ∧ Q (V.str (Txt.join a ys)) H2)) (hb κ) ?_
      intro y dy κ2 l2 r2
      refine Ref.retS fun d κ3 l3 σ s H Q w hd k => ?_
      unfold joinD at hd
      simp only at hd
      split at hd
      · rename_i its h1
        split at hd
        · rename_i ss h2
          split at hd
          · rename_i hz
            cases hd
            obtain ⟨a, xs, rfl, h3, h4⟩ := seqOf_rep w (r2.mono l3) h1
            have e := strsOf_rep h4 h2
            subst e
            exact ⟨z, a, ss, rfl, rfl, h3, Nat.le_trans hz (by decide), k _ κ3 H (Le.refl κ3) w (.str _)⟩
          · cases hd
        · cases hd
      · cases hd
    exact go κ (Le.refl κ) σ v s H Q w e p
  | _ => exact p.elim
def splitD (x y : D) : Option D := match x, y with
  | .str a, .str b => if 0 < b.length ∧ a.length ≤ 1000000 then some (.lst ((Txt.split a b).map D.str)) else none
  | _, _ => none
def eSplit (a b : E D) : E D := eThen a fun x => match x with
  | .str z => eThen b fun y => retS fun _ => splitD (.str z) y
  | _ => fun _ _ => .no
theorem ref_split {ta tb : TE} {ga gb : E D} (ha : RefE K pm W ta ga) (hb : RefE K pm W tb gb) :
    RefE K pm W (tM1 (fun x xs H Q => ∃ a b, x = .str a ∧ xs = [.str b] ∧ (b.length == 0) = false ∧ a.length + 2 ≤ sizeLine ∧ rNewStrs (Txt.split a b) H Q) ta tb) (eSplit ga gb) := fun κ0 => by
  refine Ref.bind (k := fun (x : V) σ H1 Q => (∃ a, x = .str a) ∧ tb σ H1 fun y H2 => ∃ a b, x = .str a ∧ [y] = [.str b] ∧ (b.length == 0) = false ∧ a.length + 2 ≤ sizeLine ∧ rNewStrs (Txt.split a b) H2 Q) (ha κ0) ?_
  intro x d κ1 l1 r1 κ l σ v s H Q w e p
  cases r1 with
  | str z =>
    refine ⟨⟨z, rfl⟩, ?_⟩
    have go : Ref K pm (Rep K pm) W κ (fun σ H Q => tb σ H fun y H2 => ∃ a b, V.str z = .str a ∧ [y] = [.str b] ∧ (b.length == 0) = false ∧ a.length + 2 ≤ sizeLine ∧ rNewStrs (Txt.split a b) H2 Q) (eThen gb fun y => Dn.retS fun _ => splitD (.str z) y) := by
      refine Ref.bind (k := fun (y : V) _ H2 Q => ∃ a b, V.str z = .str a ∧ [y] = [.str b] ∧ (b.length == 0) = false ∧ a.length + 2 ≤ sizeLine ∧ rNewStrs (Txt.split a b) H2 Q) (hb κ) ?_
      intro y dy κ2 l2 r2
      refine Ref.retS fun d κ3 l3 σ s H Q w hd k => ?_
      unfold splitD at hd
      cases r2 with
      | str b =>
        simp only at hd
        split at hd
        · rename_i hz
          cases hd
          refine ⟨z, b, rfl, rfl, ?_, Nat.le_trans (Nat.add_le_add_right hz.2 2) (by decide), fun p hp => ?_⟩
          · simp
            exact fun e => absurd hz.1 (by rw [show b.length = 0 from e]; exact Nat.lt_irrefl 0)
          · exact k _ (κ3.add p (.lst ((Txt.split z b).map V.str))) _ (w.add_le hp _) (w.add hp _) (.lst upd_same (.ofStrs _))
        · cases hd
      | _ => cases hd
    exact go κ (Le.refl κ) σ v s H Q w e p
  | _ => exact p.elim
/-! ### repr -/
theorem call_reprD {X : Cx} (hg : X.A.guards = some []) (hu : X.A.units + 68 < cLine) :
    CallR X (.builtin "repr") (fun xs H Q => ∃ x d, xs = [x] ∧ Dp X.K H x d ∧ (d.showable = true ∧ d.hasDict = false ∧ d.shown.length ≤ sizeLine ∧ d.depth ≤ 64) ∧ Q (.str d.shown) H) := by
  intro pins s σ H xs us Q I rv h
  obtain ⟨x, d, rfl, hd, ⟨h1, h2, h3, h4⟩, q⟩ := h
  obtain ⟨u, rfl, rx⟩ : ∃ u, us = [u] ∧ RelV x u := by
    cases rv with
    | cons a b =>
      cases b
      exact ⟨_, rfl, a⟩
  obtain ⟨as, hr⟩ := Dp.reads I d x u hd rx
  have big : ∀ {a : Addr}, u = .ref a → Reads s.heap (.ref a) d as → wpAny (model X.prog X.w) X.A (call (.builtin "repr") [u]) (EP X pins σ Q) X.xe s := fun {a} e hr => by
    subst e
    refine repr_of_reads' hr h1 (PyData.noDict_hsm h2) hg (by omega) (fun _ _ e => e) (fun h' t tk hk => ?_) h3
    exact ⟨.str d.shown, H, I.kept hk, ⟨t, rfl⟩, q⟩
  cases hd with
  | non =>
    obtain rfl : u = Value.none := rx
    exact P.repr_of_none ⟨.str _, H, I.tok _, ⟨_, rfl⟩, by simpa only [PyData.shown] using q⟩
  | bl b =>
    obtain rfl : u = Value.bool b := rx
    exact P.repr_of_bool ⟨.str _, H, I.tok _, ⟨_, rfl⟩, by simpa only [PyData.shown] using q⟩
  | int i =>
    obtain ⟨t, rfl⟩ := rx
    exact P.repr_of_int (by simpa only [PyData.showable, decide_eq_true_eq] using h1) ⟨.str _, H, I.tok _, ⟨_, rfl⟩, by simpa only [PyData.shown] using q⟩
  | str z =>
    obtain ⟨t, rfl⟩ := rx
    exact P.repr_of_str ⟨.str _, H, I.tok _, ⟨_, rfl⟩, by simpa only [PyData.shown] using q⟩ (by simpa only [PyData.shown] using h3)
  | lst h5 h6 =>
    obtain rfl : u = Value.ref _ := rx
    exact big rfl hr
  | tup h5 h6 =>
    obtain rfl : u = Value.ref _ := rx
    exact big rfl hr
mutual
/-- data that are shown without trouble -/
def nice : PyData → Bool
  | .none => true
  | .bool _ => true
  | .int i => decide (i.natAbs < 10 ^ 12)
  | .str x => x.cps.all (· < 0x110000)
  | .list xs => niceAll xs
  | .tuple xs => niceAll xs
  | .dict _ => false
def niceAll : List PyData → Bool
  | [] => true
  | x :: r => nice x && niceAll r
end
mutual
theorem nice_is : ∀ p : PyData, nice p = true → p.canLay0 = true ∧ p.intsShort 13 = true ∧ p.showable = true ∧ p.hasDict = false
  | .none, _ => ⟨rfl, rfl, rfl, rfl⟩
  | .bool _, _ => ⟨rfl, rfl, rfl, rfl⟩
  | .int i, h => by
    have h' : i.natAbs < 10 ^ 12 := of_decide_eq_true (by simpa only [nice] using h)
    refine ⟨rfl, ?_, ?_, rfl⟩
    · simp only [PyData.intsShort, decide_eq_true_eq]
      exact PyData.shown_int_le h'
    · simp only [PyData.showable, decide_eq_true_eq]
      by_cases h0 : i.natAbs = 0
      · rw [h0]
        decide
      · have : i.natAbs.log2 < 40 := (Nat.log2_lt h0).mpr (Nat.lt_of_lt_of_le h' (by decide))
        omega
  | .str x, h => by
    refine ⟨?_, rfl, rfl, rfl⟩
    simpa only [nice, PyData.canLay0, PyData.strOk] using h
  | .list xs, h => by
    obtain ⟨a, b, c, d⟩ := niceAll_is xs (by simpa only [nice] using h)
    exact ⟨by simpa only [PyData.canLay0] using a, by simpa only [PyData.intsShort] using b, by simpa only [PyData.showable] using c, by simpa only [PyData.hasDict] using d⟩
  | .tuple xs, h => by
    obtain ⟨a, b, c, d⟩ := niceAll_is xs (by simpa only [nice] using h)
    exact ⟨by simpa only [PyData.canLay0] using a, by simpa only [PyData.intsShort] using b, by simpa only [PyData.showable] using c, by simpa only [PyData.hasDict] using d⟩
  | .dict _, h => by simp [nice] at h
theorem niceAll_is : ∀ xs : List PyData, niceAll xs = true → PyData.canLayAll0 xs = true ∧ PyData.intsShortAll 13 xs = true ∧ PyData.showableAll xs = true ∧ PyData.hasDictAll xs = false
  | [], _ => ⟨rfl, rfl, rfl, rfl⟩
  | x :: r, h => by
    obtain ⟨h1, h2⟩ := Bool.and_eq_true_iff.mp (show (nice x && niceAll r) = true by simpa only [niceAll] using h)
    obtain ⟨a, b, c, d⟩ := nice_is x h1
    obtain ⟨a', b', c', d'⟩ := niceAll_is r h2
    exact ⟨by simp only [PyData.canLayAll0, a, a', Bool.and_self], by simp only [PyData.intsShortAll, b, b', Bool.and_self], by simp only [PyData.showableAll, c, c', Bool.and_self], by simp only [PyData.hasDictAll, d, d', Bool.or_self]⟩
end
theorem nice_repr {p : PyData} (h : nice p = true) (hd : p.depth ≤ 64) (hw : p.weight ≤ 2 ^ 20) : p.showable = true ∧ p.hasDict = false ∧ p.shown.length ≤ 15728653 ∧ p.depth ≤ 64 := by
  obtain ⟨a, b, c, d⟩ := nice_is p h
  refine ⟨c, d, PyData.shown_le_of_layable0 ?_ b, hd⟩
  unfold PyData.layable0
  rw [a, decide_eq_true hd, decide_eq_true hw]
  rfl
def reprD (s : Store) : List D → Option D
  | [x] => (match toPy s x with
    | some p => if p.showable = true ∧ p.hasDict = false ∧ p.shown.length ≤ 15728653 ∧ p.depth ≤ 64 then some (.str p.shown) else none
    | none => none)
  | _ => none
theorem or_repr : FnR K pm (fun xs H Q => ∃ x d, xs = [x] ∧ Dp K H x d ∧ (d.showable = true ∧ d.hasDict = false ∧ d.shown.length ≤ sizeLine ∧ d.depth ≤ 64) ∧ Q (.str d.shown) H) reprD := by
  intro κ s H xs ds d w r e Q q
  unfold reprD at e
  split at e
  · obtain ⟨x, rfl, r1⟩ := all_one r
    split at e
    · rename_i p hp
      split at e
      · rename_i hz
        cases e
        exact ⟨x, p, rfl, toPy_dp w r1 hp, ⟨hz.1, hz.2.1, Nat.le_trans hz.2.2.1 (by decide), hz.2.2.2⟩, q _ κ H (Le.refl κ) w (.str _)⟩
      · cases e
    · cases e
  · cases e
/-! ### a text, walked -/
def itStr (a : E D) : E Its := eThen a fun d => retS fun _ => match d with
  | .str z => some ⟨z.cps.toList.map fun c => .str ⟨#[c]⟩, fun _ => true⟩
  | _ => none
theorem ref_itS {ta : TE} {ga : E D} (ha : RefE K pm W ta ga) : RefI K pm W (fun σ H R => ta σ H fun v H1 => ∃ x, v = .str x ∧ R (L2.Its x) H1) (itStr ga) := fun κ0 => by
  refine Ref.bind (k := fun v _ H R => ∃ x, v = .str x ∧ R (L2.Its x) H) (ha κ0) ?_
  intro x d κ1 l1 r1
  refine Ref.retS fun I κ l σ s H Q w hI k => ?_
  cases r1 with
  | str z =>
    cases hI
    refine ⟨z, rfl, k _ κ H (Le.refl κ) w ⟨fun κ2 l2 s2 H2 w2 _ i d hd => ?_, fun κ2 l2 s2 H2 w2 _ => ?_⟩⟩
    · simp only [List.getElem?_map, Option.map_eq_some_iff] at hd
      obtain ⟨c, h1, h2⟩ := hd
      subst h2
      have hc : z.cps[i]? = some c := by simpa using h1
      refine ⟨(Array.getElem?_eq_some_iff.mp hc).1, fun x H' y => ?_⟩
      obtain ⟨rfl, c', h3, rfl⟩ := y
      rw [hc] at h3
      cases h3
      exact ⟨κ2, Le.refl κ2, w2, .str _⟩
    · show z.cps.size ≤ (z.cps.toList.map _).length
      simp
  | _ => cases hI
/-! ### two names at once -/
def sPar (i j : Nat) (a : E (List D)) : S := sThen a fun l v s => match l with
  | [x, y] => .nx ((v.set i (some x)).set j (some y)) s
  | _ => .no
theorem ref_par {i j : Nat} {ta : TA} {ga : E (List D)} (ha : RefA K pm W ta ga) : RefS K pm W (tPar i j ta) (sPar i j ga) := fun κ0 => by
  refine ref_then (k := fun vs D σ H => ∃ v w, vs = [v, w] ∧ D.nx ((σ.set i (some v)).set j (some w)) H) (ha κ0) ?_
  intro xs ds κ1 l1 r1 κ l σ v s H D w e p
  dsimp only at p
  split at p
  · rename_i x y
    obtain ⟨a, b, rfl, h1, h2⟩ := all_two r1
    exact ⟨a, b, rfl, p _ κ H (Le.refl κ) w ((e.set i (h1.mono l)).set j (h2.mono l))⟩
  · exact p.elim
end
end Dn
/-! Dn7: the class InvalidWords, whose __init__ says super().__init__('..') and keeps its argument in the field place. -/
namespace PySem
namespace WordX
open PySem.W PySem.Calls PyProof.Rows PySem.HandSPX
def wA (p1 p2 : Pos) : Arguments := { posonlyargs := [], args := [{ arg := "self", annotation := none, pos := p1 }, { arg := "place", annotation := none, pos := p2 }], vararg := none, kwonlyargs := [], kw_defaults := [], kwarg := none, defaults := [] }
/-- where things stand in the text, what is told -/
structure WPos where
  (msg : Str)
  (p1 p2 a1 a2 a3 a4 a5 a6 b1 b2 b3 b4 : Pos)
def wB (msg : Str) (a1 a2 a3 a4 a5 a6 b1 b2 b3 b4 : Pos) : List Stmt := [.Expr (.Call (.Attribute (.Call (.Name "super" a1) [] [] a2) "__init__" a3) [.Constant (.str msg) 0 a4] [] a5) a6,
  .Assign [.Attribute (.Name "self" b1) "place" b2] (.Name "place" b3) b4]
def wS : Scope := { kind := .function, names := [(PySem.Str.ofString "self", .local), (PySem.Str.ofString "place", .local), (PySem.Str.ofString "__class__", .free), (PySem.Str.ofString "super", .globalImplicit)], isGenerator := false, isCoroutine := false, more := [] }
/-- what the written part says of the class at C and of its __init__ at fI -/
structure WTxt (K : Frag) (mg : Str → Option Value) (file : Str) (C fI : Addr) (P : WPos) : Prop where
  gC : mg "InvalidWords" = some (.ref C)
  sup : mg "super" = none
  cls : ∃ nm q N bs bm sn sub ab col dd k0 k1 k2 k3 k5, K.lookup C = some (excClassObj nm q C N bs bm true sn sub ab col dd k0 k1 k2 k3 k5 "ValueError.__new__") ∧ refsVE bm = true
  sa : findIn K (.ref C) "__setattr__" = some (some (.builtin "object.__setattr__"))
  noN : findIn K (.ref C) "place" = some none
  iC : findIn K (.ref C) "__init__" = some (some (.ref fI))
  tC : typeIn K (.ref fI) = some (.type "function")
  kC : keepIn K (.ref C) = true
  exC : subIn K (.ref C) (.type "BaseException") = some true
  veC : subIn K (.ref C) (.type "ValueError") = some true
  tyC : typeIn K (.ref C) = some (.type "type")
  up : ks_superIn K C C "__init__" = some (some (.builtin "ValueError.__init__"))
  self : mroIn K C (.ref C) = some true
  op : nsIn K cStatics "thirdparty.any" = some none
  fn : ∃ (oc : Value) (od : Option Addr) (doc pm : Value) (an : Option Addr) (cda : Addr) (ct : Value) (cc : Addr) (osl : Array (Option Value)),
    K.lookup fI = some ⟨oc, od, .func (ksFn "__init__" "InvalidWords.__init__" (wA P.p1 P.p2) (wB P.msg P.a1 P.a2 P.a3 P.a4 P.a5 P.a6 P.b1 P.b2 P.b3 P.b4) wS .none .none doc pm an (.ref cda) ct cc), osl⟩ ∧ codeIn K (.ref cda) "InvalidWords.__init__" = true ∧
      (∃ cl cld csl, K.lookup cc = some ⟨cl, cld, .cell (some (.ref C)), csl⟩) ∧ ∃ ccl cdd vs ccs tf, K.lookup cda = some ⟨ccl, cdd, .fields vs, ccs⟩ ∧ vs[2]? = some (.str file tf)
/-- the call's own shape, told by rfl for written places -/
def WShape (P : WPos) : Prop := ∀ env : Env, ∃ pl : Sem Bool, eval (.Call (.Attribute (.Call (.Name "super" P.a1) [] [] P.a2) "__init__" P.a3) [.Constant (.str P.msg) 0 P.a4] [] P.a5) env = (do
  let ov ← attributeBase (.Call (.Name "super" P.a1) [] [] P.a2) "__init__" env (eval (.Call (.Name "super" P.a1) [] [] P.a2) env)
  standAt P.a3.atName
  let (f, first) ← holding [ov] (getMethod ov "__init__" pl)
  callWith P.a5 f first (backTo P.a5 (starEach [.Constant (.str P.msg) 0 P.a4] env)) [])
/-- what __init__ leaves of a fresh exception at x -/
structure Left (h h' : Heap) (x C dx : Addr) (v : Value) : Prop where
  old : ∀ b o, b ≠ x → h.get? b = some o → h'.get? b = some o
  ob : ∃ t, h'.get? x = some { cls := .ref C, dict := some dx, data := .fields #[.ref t, .none, .none, .none, .bool false, .none] }
  big : h.objs.size ≤ dx
  ne : dx ≠ x
  ns : h'.Ns1 dx (fun y => if y = "place" then some v else none)
section
variable {prog : Program} {w : World} {A : Around} {E : Value → Shared → Prop} {R : Result → Shared → Prop} {s : Shared} {K : Frag} {mg mb : Str → Option Value} {C fI : Addr}
theorem size1 (v : Value) : [v].length ≤ sizeLine := by
  rw [sizeLine_eq]
  exact (by decide : 1 ≤ 16777216)
theorem keep_but {K : Frag} {h h' : Heap} {x : Addr} (X : K.In h) (hx : K.lookup x = none) (k : ∀ b o, b ≠ x → h.get? b = some o → h'.get? b = some o) : K.In h' := fun a o e =>
  k a o (fun z => by rw [z, hx] at e; cases e) (X a o e)
theorem ld {M : Model} {s : Shared} {env : Env} {m : Str → Option Value} {x : Str} {pos : Pos} {v : Value} {Q : Value → Shared → Prop} {A : Around} {E : Value → Shared → Prop} (hn : s.heap.Ns env.locals m) (hv : m x = some v) (h : Q v s)
    (hk : env.scope.kind = .function := by rfl) (hl : env.kindOf x = some .local := by rfl) (hd : (x == ("__debug__" : Str)) = false := by decide) : wpAny M A (eval (.Name x pos) env) Q E s := wpAny_Name (wpAny_loadName_local hk hl hn hv h) hd
/-- ValueError.__init__ bound to the exception at x, called -/
theorem call_up {h : Heap} {g : Array GenState} {d : Drawn} {t : Nat} {os : OsState} {u x t0 : Addr} {rest : List Value} {Q : Value → Shared → Prop} (T : ∃ nm q N bs bm sn sub ab col dd k0 k1 k2 k3 k5, h.get? C = some (excClassObj nm q C N bs bm true sn sub ab col dd k0 k1 k2 k3 k5 "ValueError.__new__"))
    (hx : h.get? x = some (excO C t0)) (hu : h.get? u = some (kxs_mw "ValueError.__init__" x)) (hr : rest.length ≤ sizeLine)
    (hq : ∀ (h' : Heap) (t1 : Addr), (∀ b o, b ≠ x → h.get? b = some o → h'.get? b = some o) → h'.get? x = some (excO C t1) → Q .none ⟨h', g, d, t, os⟩) :
    wpAny (model prog w) A (call (.ref u) rest) Q E ⟨h, g, d, t, os⟩ := by
  obtain ⟨nm, q, N, bs, bm, sn, sub, ab, col, dd, k0, k1, k2, k3, k5, hC⟩ := T
  have FB := F.excBase_ValueError
  refine wpAny_call (codeAny_of_tree ?_)
  show wpAny _ A.in1 (callAny (.ref u) ⟨rest, []⟩) _ _ _
  simp only [callAny]
  refine wpAny_bind (wpAny_load hu ?_)
  have e1 : (Value.type "method-wrapper" == Value.type "method" || Value.type "method-wrapper" == Value.type "builtin_function_or_method" || Value.type "method-wrapper" == Value.type "method-wrapper") = true := by decide
  simp only [kxs_mw, e1, if_true]
  refine KFB.if_so (by decide) (wpAny_bind ?_)
  refine check_bound_init FB.toExcCallFacts hC hx rfl (wpAny_bind (wpAny_pure (wpAny_pure ⟨plainId_quiet FB.init.plain _, codeAny_builtin FB.initEntry ?_⟩)))
  exact exc_init_tree (cls := .ref C) (t0 := t0) (dv := none) (c2 := .none) (c3 := .none) (b4 := .bool false) hx hr fun h' k e' _ => hq h' _ k e'
theorem init_words {file : Str} {P : WPos} (T : WTxt K mg file C fI P) (hsh : WShape P) {x t0 : Addr} {v : Value} (X : K.In s.heap) (hlim : s.heap.NoLimit) (hns : s.heap.Ns mainGlobals mg) (hb : s.heap.Ns builtinsNs mb) (hbb : ∀ x : Str, x ≠ "__name__" → mb x = bootBuiltins x)
    (hx : s.heap.get? x = some (excO C t0)) (hnx : K.lookup x = none) (hng : x ≠ mainGlobals) (hnb : x ≠ builtinsNs) (hroom : A.depth < recursionLimit) (hfile : (prog.main.file == file) = true) (htop : (prog.main.scope.names.lookup ("super" : Str)).isSome = false)
    (hq : ∀ (h' : Heap) (tk : Nat) (dx : Addr), Left s.heap h' x C dx v → R (.ok (.ret .none)) { s with heap := h', toks := tk }) :
    codeAny (model prog w) A (.call (.ref fI) ⟨[.ref x, v], []⟩) R s := by
  obtain ⟨oc, od, doc, pm, an, cda, ct, cc, osl, ho, hcd, ⟨cl, cld, csl, hcell⟩, ⟨ccl, cdd, vs, ccs, tf, hcode, hvs⟩⟩ := T.fn
  obtain ⟨nm, q, N, bs, bm, sn, sub, ab, col, dd, k0, k1, k2, k3, k5, hC, hbm⟩ := T.cls
  obtain ⟨hp, g, d, tk, os⟩ := s
  have hcl : clsIn K C = some { name := nm, bases := bs, mro := .ref C :: bm, ns := N, qualname := q, hasDict := true, slotNames := sn, subclasses := sub, abstract := ab, collection := col, hasDel := false } := by unfold clsIn; rw [hC] <;> rfl
  refine ks_codeAny_call_defAt (fd := ksFn "__init__" "InvalidWords.__init__" (wA P.p1 P.p2) (wB P.msg P.a1 P.a2 P.a3 P.a4 P.a5 P.a6 P.b1 P.b2 P.b3 P.b4) wS .none .none doc pm an (.ref cda) ct cc) (body := wB P.msg P.a1 P.a2 P.a3 P.a4 P.a5 P.a6 P.b1 P.b2 P.b3 P.b4) (binds := [("self", .ref x), ("place", v)]) hroom (X _ _ ho) rfl hlim (codeRec_of X hcd) rfl (BindsTo.of_eq (by first | rfl | with_unfolding_all rfl)) (show ∀ x ∈ wS.names, x.2 ≠ .cell by decide +kernel) (by
    intro y hy
    rcases List.mem_cons.mp hy with rfl | hy
    · exact rfl
    · rcases List.mem_cons.mp hy with rfl | hy
      · exact rfl
      · cases hy) (fun h₁ hn k => ?_) rfl rfl rfl
  have hxL : hp.objs.size ≠ x := Nat.ne_of_gt (Heap.lt_size hx)
  have X₁ : K.In h₁ := X.keeps k
  have hx₁ := k _ _ hx
  have hs : ([("self", Value.ref x), ("place", v)] : List (Str × Value)).reverse.lookup ("self" : Str) = some (.ref x) := by first | rfl | with_unfolding_all rfl
  have hpl : ([("self", Value.ref x), ("place", v)] : List (Str × Value)).reverse.lookup ("place" : Str) = some v := by first | rfl | with_unfolding_all rfl
  have I₁ : InstAt h₁ x (excO C t0) C none := ⟨hx₁, rfl, rfl, trivial⟩
  obtain ⟨pl, hE⟩ := hsh (ksEnv "InvalidWords.__init__" wS hp.objs.size fI (.ref cda) cc)
  have hD1 : h₁.get? C = some (excClassObj nm q C N bs (bm) true sn sub ab col dd k0 k1 k2 k3 k5 "ValueError.__new__") := X₁ _ _ hC
  have n1 : wS.names.lookup ("super" : Str) = some .globalImplicit := by decide +kernel
  have n2 : wS.names.lookup ("__class__" : Str) = some .free := by decide +kernel
  have n3 : wS.names.lookup ("self" : Str) = some .local := by decide +kernel
  have n4 : wS.names.lookup ("place" : Str) = some .local := by decide +kernel
  show PySem.wpAt _ _ _ (execs _ (ksEnv "InvalidWords.__init__" wS hp.objs.size fI (.ref cda) cc)) _ _ _
  refine ks_wpAt_execs_cons (ks_wpAt_Expr_any (ks_wpAt_MethodCall ?_ hE))
  refine ks_wpAt_super_base (env := ksEnv "InvalidWords.__init__" wS hp.objs.size fI (.ref cda) cc) n1 n2 (by decide +kernel) rfl (X₁ _ _ ho) rfl rfl rfl (X₁ _ _ hcode) rfl hvs hfile htop ?_
  have glob : h₁.Ns mainGlobals mg := hns.keeps k
  have blt : h₁.Ns builtinsNs mb := hb.keeps k
  refine ks_loadName_global rfl n1 (loadGlobal_builtin glob T.sup blt ((hbb _ (by decide +kernel)).trans (by decide +kernel : bootBuiltins "super" = some (.type "super"))) ⟨rfl, ?_⟩)
  refine wpAny_loadName_free rfl n2 rfl ⟨_, X₁ _ _ hcell, rfl⟩ ?_
  refine wpAny_loadName_local rfl n3 hn hs ?_
  refine ks_wpAny_isType_cls hD1 rfl ⟨rfl, ?_⟩
  refine ks_wpAny_call_super hD1 rfl hx₁ rfl (fun c e => ?_) (looks_mroIn X₁ T.self) (fun h₂ e2 k2' => ?_)
  · cases e
  have X₂ : K.In h₂ := X₁.keeps k2'
  have hx₂ := k2' _ _ hx₁
  have I₂ : InstAt h₂ x (excO C t0) C none := ⟨hx₂, rfl, rfl, trivial⟩
  have hm := T.up
  unfold ks_superIn at hm
  rw [hcl] at hm
  refine kxs_getMethod kxs_ValueError e2 (looks_opaque X₂ T.op) (l₀ := .ref C :: bm) ?_ rfl X₂ hm (I₂.type.andThen (looks_subIn X₂ T.veC)) (ks_ne X₂ I₂ hcl) (by decide +kernel) ?_
  · exact fun A Q E s k q => wpAny_bind ((looks_clsIn X₂ hcl) A _ E s k (wpAny_pure q))
  have k3' : ∀ b o, h₂.get? b = some o → (h₂.push (kxs_mw "ValueError.__init__" x)).get? b = some o := fun b o e => Heap.get?_push_of_some _ e
  refine kxs_callWith (i := "ValueError.__init__") (x := x) rfl ?_
  refine evalArgs_plain (spliced_cons (Constant_str (k := 0) (pos := P.a4) (spliced_nil ⟨Heap.get?_push_at rfl rfl, ?_⟩)))
  have Y : (h₂.push (kxs_mw "ValueError.__init__" x)).get? C = some (excClassObj nm q C N bs bm true sn sub ab col dd k0 k1 k2 k3 k5 "ValueError.__new__") := k3' _ _ (X₂ _ _ hC)
  refine call_up (C := C) (x := x) (t0 := t0) ⟨nm, q, N, bs, bm, sn, sub, ab, col, dd, k0, k1, k2, k3, k5, Y⟩ (k3' _ _ hx₂) (Heap.get?_push_at rfl rfl) (size1 _) fun h₄ t1 k4' hx₄ => ?_
  have K4 : ∀ b o, b ≠ x → hp.get? b = some o → h₄.get? b = some o := fun b o hb e => k4' b o hb (k3' b o (k2' b o (k b o e)))
  have X₄ : K.In h₄ := keep_but X hnx K4
  have hn₄ : h₄.Ns hp.objs.size (fun y => ([("self", Value.ref x), ("place", v)] : List (Str × Value)).reverse.lookup y) := by
    obtain ⟨o, es, ep, e, r⟩ := hn
    exact ⟨o, es, ep, k4' _ _ hxL (k3' _ _ (k2' _ _ e)), r⟩
  show PySem.wpAt _ _ _ (execs _ (ksEnv "InvalidWords.__init__" wS hp.objs.size fI (.ref cda) cc)) _ _ _
  refine wpAt_of_wpAny (wpAny_execs_cons (plainObj_wpAny_Assign_Attribute ?_))
  refine ld (v := v) hn₄ hpl (ld (v := .ref x) hn₄ hs ?_ rfl n3) rfl n4
  refine set_plain X₄ (ox := excO C t1) (od := none) ⟨hx₄, rfl, rfl, trivial⟩ T.sa ?_
  refine exc_osa X₄ hx₄ hcl (show refsVE (.ref C :: bm) = true from hbm) rfl T.noN (fun h₅ tk₅ dx k₅ dn dne hx₅ hn₅ => ?_)
  refine wpAny_execs_nil (hq h₅ _ dx ⟨fun b o hb e => k₅ b o hb (K4 b o hb e), ⟨t1, hx₅⟩, ?_, dne, hn₅⟩)
  refine Nat.le_trans ?_ dn
  obtain ⟨o, es, ep, e, r⟩ := hn₄
  exact Nat.le_of_lt (Heap.lt_size e)
/-- a made exception -/
structure Made (h h' : Heap) (e C d : Addr) (v : Value) : Prop where
  keep : ∀ b o, h.get? b = some o → h'.get? b = some o
  new : h.objs.size ≤ e
  obj : ∃ oe vs, h'.get? e = some oe ∧ oe.cls = .ref C ∧ oe.dict = some d ∧ oe.data = .fields vs ∧ vs[1]? = some .none ∧ 4 < vs.size
  dbig : h.objs.size ≤ d
  dne : d ≠ e
  ns : h'.Ns1 d (fun y => if y = "place" then some v else none)
theorem made_words {file : Str} {P : WPos} (T : WTxt K mg file C fI P) (hsh : WShape P) {v : Value} (X : K.In s.heap) (hlim : s.heap.NoLimit) (hns : s.heap.Ns mainGlobals mg) (hb : s.heap.Ns builtinsNs mb) (hbb : ∀ x : Str, x ≠ "__name__" → mb x = bootBuiltins x)
    (hroom : A.depth + 1 < recursionLimit) (hfile : (prog.main.file == file) = true) (htop : (prog.main.scope.names.lookup ("super" : Str)).isSome = false)
    (hq : ∀ (h' : Heap) (tk : Nat) (e d : Addr), Made s.heap h' e C d v → R (.ok (.ret (.ref e))) { s with heap := h', toks := tk }) :
    codeAny (model prog w) A (.call (.ref C) ⟨[v], []⟩) R s := by
  obtain ⟨nm, q, N, bs, bm, sn, sub, ab, col, dd, k0, k1, k2, k3, k5, hC, hbm⟩ := T.cls
  obtain ⟨hp, g, dr, tk, os⟩ := s
  have k : ∀ b o, hp.get? b = some o → ((hp.push (kdv_tup [v])).push (excO C hp.objs.size)).get? b = some o := fun b o e => Heap.get?_push_of_some _ (Heap.get?_push_of_some _ e)
  have hget : ((hp.push (kdv_tup [v])).push (excO C hp.objs.size)).get? (hp.objs.size + 1) = some (excO C hp.objs.size) := by heap_get
  have big : ∀ {b : Addr} {o : Obj}, hp.get? b = some o → hp.objs.size + 1 ≠ b := fun {b o} e z => Nat.ne_of_gt (Nat.lt_succ_of_lt (Heap.lt_size e)) z
  have hnx : K.lookup (hp.objs.size + 1) = none := by
    cases e : K.lookup (hp.objs.size + 1) with
    | none => rfl
    | some o => exact absurd rfl (big (X _ _ e))
  have ng : hp.objs.size + 1 ≠ mainGlobals := by
    obtain ⟨o, es, ep, e, r⟩ := hns
    exact big e
  have nb : hp.objs.size + 1 ≠ builtinsNs := by
    obtain ⟨o, es, ep, e, r⟩ := hb
    exact big e
  refine call_own F.excBase_ValueError (fun X => refsVE_contains X bm hbm) (X _ _ hC) (looks_findIn X T.iC) (fun self => bind_fn X self T.tC) (size1 v) ?_
  refine init_words (s := ⟨(hp.push (kdv_tup [v])).push (excO C hp.objs.size), g, dr, tk, os⟩) T hsh (X.keeps k) (hlim.keeps k) (hns.keeps k) (hb.keeps k) hbb hget hnx ng nb ?_ hfile htop fun h' tk' dx L => ?_
  · show A.depth + 1 < recursionLimit
    exact hroom
  · obtain ⟨t, ht⟩ := L.ob
    have old : ∀ b o, hp.get? b = some o → h'.get? b = some o := fun b o e => L.old b o (Nat.ne_of_lt (Nat.lt_succ_of_lt (Heap.lt_size e))) (k b o e)
    have z : hp.objs.size + 1 + 1 ≤ dx := by
      have q := L.big
      first
        | exact q
        | (rw [Heap.size_push, Heap.size_push] at q; exact q)
    exact ⟨rfl, hq h' tk' (hp.objs.size + 1) dx ⟨old, Nat.le_succ _, ⟨_, _, ht, rfl, rfl, rfl, rfl, by show 4 < 6; decide⟩, Nat.le_trans (Nat.le_add_right _ 2) z, L.ne, L.ns⟩⟩
end
end WordX
end PySem
namespace L2
open PySem PySem.Spec PyProof.Rows
/-- the exception's own dict -/
def placeOf (v : V) : HO := .xd [(("place" : Str), v)]
theorem relO_place {v : V} {v' : Value} (r : RelV v v') (f : Str) : RelO (List.lookup f [(("place" : Str), v)]) (if f = "place" then some v' else none) := by
  by_cases hw : f = "place"
  · subst hw
    rw [if_pos rfl]
    have q : List.lookup ("place" : Str) [(("place" : Str), v)] = some v := by simp [List.lookup]
    rw [q]
    exact r
  · rw [if_neg hw]
    have qw : (f == ("place" : Str)) = false := by simpa using hw
    have q2 : List.lookup f [(("place" : Str), v)] = none := by simp [List.lookup, qw]
    rw [q2]
    trivial
section
variable {X : Cx} {C fI : Addr}
/-- InvalidWords(e) -/
def tMkW (C : Addr) (ta : TA) : St → Hp → XK → Prop := fun σ H Q => ta σ H fun vs H1 => ∃ v, vs = [v] ∧ ∀ d, H1 d = none → Q (.ref C) (some d) (upd H1 d (placeOf v))
theorem pmk_words {a : Expr} {ta : TA} {p pos : Pos} {k : Nat} {file : Str} {P : PySem.WordX.WPos} (T : PySem.WordX.WTxt X.K X.mg file C fI P) (hsh : PySem.WordX.WShape P) (hfile : (X.prog.main.file == file) = true) (htop : (X.prog.main.scope.names.lookup ("super" : Str)).isSome = false)
    (hr : Room k X.A) (ha : PA X [a] ta) (hg : Gl X "InvalidWords" := by rfl)
    (he : starEach (a :: []) X.env = (false, eval a X.env) :: starEach [] X.env := by rfl) (hpl : (backTo pos (starEach [] X.env)).any (·.1) = false := by rfl) :
    PMk X (.Call (.Name "InvalidWords" p) [a] [] pos) (tMkW C ta) := by
  intro pins s σ H Q I h
  refine wpAny_Call_Name_kw (ld_glob I hg T.gC ?_)
  refine PySem.W.callWith_K (h₀ := X.base) I.ok.mod.kin T.kC (thn (ha.run pos pins s σ H _ I h) fun us s1 hh => ?_) he hpl
  obtain ⟨vs, H1, I1, r1, v, ev, q1⟩ := hh
  subst ev
  refine ⟨I1.kIn, ?_⟩
  cases r1 with
  | cons rv rn =>
    rename_i v' us'
    cases rn
    show wpAny _ _ (call (.ref C) [v']) _ _ _
    have hlim := I1.nolimit
    obtain ⟨mb, hbn, hbb⟩ := I1.mod.blt
    have gl : s1.heap.Ns mainGlobals X.mg := I1.mod.glob.keeps I1.bk
    have bl : s1.heap.Ns builtinsNs mb := hbn.keeps I1.bk
    obtain ⟨hp, g, dr, tk, os⟩ := s1
    refine wpAny_call (PySem.WordX.made_words T hsh I1.kIn hlim gl bl hbb (by have := hr.dp; omega) hfile htop fun h' tk' e d M => ?_)
    show MkP X pins σ Q (.ref e) ⟨h', g, dr, tk', os⟩
    obtain ⟨oe, fv, hoe, hc, hd, hdat, h1, h5⟩ := M.obj
    have hns := M.ns
    obtain ⟨G', g1, g2⟩ := restrict h' fun b => decide (b ≠ e)
    have gk : ∀ b, b ≠ e → G'.get? b = h'.get? b := fun b hb => g1 b (decide_eq_true hb)
    have ge : G'.get? e = none := g2 e (by simp)
    have old : ∀ b o, hp.get? b = some o → G'.get? b = some o := fun b o q => (gk b (Nat.ne_of_lt (Nat.lt_of_lt_of_le (Heap.lt_size q) M.new))).trans (M.keep b o q)
    have ob : ObjOk X.prog X.w (upd H1 d (placeOf v)) G' d (placeOf v) := ⟨_, hns.at (fun o q => (gk d M.dne).trans q), fun f => relO_place rv f⟩
    have J : Inv X pins σ (upd H1 d (placeOf v)) ⟨G', g, dr, tk', os⟩ := I1.laid (t' := tk') old M.dbig ob
    refine ⟨e, oe, fv, ⟨G', g, dr, tk', os⟩, _, .ref C, some d, rfl, J, fun b o q => ?_, ge, hoe, ⟨hc, hd⟩, hdat, h1, ?_, rfl, I1.bare, raises_own T.exC T.tyC, q1 d (I1.hok.fresh M.dbig)⟩
    · by_cases hb : b = e
      · have q' : G'.get? b = some o := q
        rw [hb, ge] at q'; cases q'
      · exact (gk b hb).symm.trans q
    · rw [upd_ne (Ne.symm M.dne)]
      exact I1.hok.fresh M.new
end
end L2
/-! Dn8: try: .. except C as e: m = e (the exception is kept), isinstance and fields of what was kept, raise. -/
namespace Dn
open PySem PySem.Spec PyProof.Rows L2
section
variable {X : Cx} {pins : List (Addr × Obj)} {σ : L2.St} {H : Hp} {s : Shared}
theorem exH_ok {P : Program} {w : World} {H : Hp} {h : Heap} {a : Addr} {cls : Value} {d : Option Addr} {oe : Obj} {vs : Array Value} (e : h.get? a = some oe) (z : Zc cls d oe) (hd : oe.data = .fields vs) : ObjOk P w H h a (ExH cls d a) :=
  ⟨⟨oe, vs, e, z, hd⟩, ⟨oe, e⟩, fun _ _ ⟨o, v, q, r⟩ k => ⟨o, v, k o q, r⟩⟩
/-- an exception's object is from now on one of the known ones -/
theorem Inv.adopt {a : Addr} {oe : Obj} {vs : Array Value} {cls : Value} {d : Option Addr} (I : Inv X pins σ H s) (ha : s.heap.get? a = some oe) (hz : Zc cls d oe) (hv : oe.data = .fields vs) (hn : H a = none) (hL : a ≠ X.env.locals) (h0 : X.s_0.heap.get? a = none)
    (hp : ∀ p ∈ X.pn ++ pins, p.1 ≠ a) : Inv X pins σ (upd H a (ExH cls d a)) s := by
  have ne : ∀ {b : Addr} {o : HO}, H b = some o → b ≠ a := fun {b o} e z => by
    rw [z, hn] at e
    cases e
  have ne0 : ∀ {b : Addr} {o : Obj}, X.s_0.heap.get? b = some o → b ≠ a := fun {b o} e z => by
    rw [z, h0] at e
    cases e
  have un : Un X.fs X.ex X.H_0 (upd H a (ExH cls d a)) X.s_0.heap s.heap :=
    { keep := I.base.keep
      slot := I.base.slot
      free := fun b o e1 e2 e3 => by
        rw [upd_ne (ne0 e1)]
        exact I.base.free b o e1 e2 e3
      there := I.base.there
      tups := fun b xs e => by
        have q := I.base.tups b xs e
        rw [upd_ne (ne q)]
        exact q
      frzs := fun b o u e => by
        have q := I.base.frzs b o u e
        rw [upd_ne (ne q)]
        exact q
      tbls := fun b ps e => by
        obtain ⟨m, q⟩ := I.base.tbls b ps e
        exact ⟨m, by rw [upd_ne (ne q)]; exact q⟩ }
  refine ⟨I.ok, I.os, I.bare, un, I.loc, I.cell, ?_, fun y c e => ?_, fun p q => ?_, fun b u e => ?_, I.len⟩
  · rw [upd_ne (Ne.symm hL)]
    exact I.free
  · have nc : c ≠ a := fun z => by
      obtain ⟨v, o, q1, q2⟩ := I.cell y c e
      rw [z, ha] at q1
      cases q1
      rw [hv] at q2
      cases q2
    rw [upd_ne nc]
    exact I.freeC y c e
  · obtain ⟨q1, q2, q3⟩ := I.pin p q
    exact ⟨q1, by rw [upd_ne (hp p q)]; exact q2, q3⟩
  · by_cases hb : b = a
    · subst hb
      rw [upd_same] at e
      cases e
      exact exH_ok ha hz hv
    · rw [upd_ne hb] at e
      refine (I.hok b u e).stay (fun _ _ _ q => q) (fun c q => ?_) fun c xs q => ?_
      · rw [upd_ne (ne q)]
        exact q
      · rw [upd_ne (ne q)]
        exact q
/-- what the clause 'except x as n: m = n' wishes -/
def wKeep (K : PySem.W.Frag) (c : Value) (m i : Nat) (Wout : WX) (D : Ends) : WX := fun cls d σ H =>
  ∃ b, PySem.W.exmOne K cls c = some b ∧ (b = true → ∀ a, H a = none → D.nx ((σ.set m (some (.ref a))).set i none) (upd H a (ExH cls d a))) ∧ (b = false → Wout cls d σ H)
theorem notFr_of {B h : Heap} {l : List PySem.Env} {a : Addr} {o : Obj} {vs : Array Value} (ff : h.FunFrames B l) (e : h.get? a = some o) (dd : o.data = .fields vs) : a ∉ frs l := fun hm => by
  obtain ⟨_, o', e', hnf⟩ := ff.mem hm
  rw [e] at e'
  cases e'
  exact hnf _ dd
variable {x n mn : Str} {c : Value} {i m : Nat} {body : List Stmt} {np pos pos' q1 q2 q3 : Pos} {tb : WX → TS} {Wout : WX}
theorem ps_try_keep (hs : X.stack = X.env :: X.outer) (hf : X.env.frame = some X.env.locals) (hex : X.ex = []) (hN : X.N.Nodup) (hi : X.N[i]? = some n) (hm : X.N[m]? = some mn) (hln : X.env.kindOf n = some .local) (hlm : Loc X.env.scope mn) (hfm : X.fn mn = true ∨ X.env.scope.names.lookup mn = some .local) (him : i ≠ m) (hlen : i < X.N.length)
    (hc : Names X x c) (tk : Takes X Wout) (hd1 : (n == ("__debug__" : Str)) = false) (hd2 : (n == ("__classdict__" : Str)) = false)
    (hb : ∀ (W : WX) (pn : List (Addr × Obj)) (xe : Value → Shared → Prop), Takes (X.tr pn xe) W → PassesOwn (model X.prog X.w) X.A X.env xe → PSs (X.tr pn xe) body (tb W))
    (hsw : ∀ e : PySem.Env, swapsWith (.Name n q2) (some (.Name mn q1)) q3.line e = pure false := by intro _; rfl) :
    PS X (.Try body [.ExceptHandler (some (.Name x np)) (some n) [.Assign [.Name mn q1] (.Name n q2) q3] pos'] [] [] pos) (fun D σ H => tb (wKeep X.K c m i Wout D) D σ H) := by
  refine ⟨fun pins s σ H D I h => ?_⟩
  have ok := I.ok
  have frames : X.A.frames = some (X.env :: X.outer) := by rw [ok.frames, hs]
  have locN : Loc X.env.scope n := .inl hln
  refine wpAny_Try_except ?_
  have run := (hb (wKeep X.K c m i Wout D) (X.pn ++ pins) (fun e s₁ => wpAny (model X.prog X.w) X.A (noteFrame e X.env) (fun _ s₂ => wpAny (model X.prog X.w) X.A (setFlight e none) (fun _ s₃ =>
    wpAny (model X.prog X.w) X.A (handleBy e X.env [.ExceptHandler (some (.Name x np)) (some n) [.Assign [.Name mn q1] (.Name n q2) q3] pos']) (SP X pins D) X.xe s₃) X.xe s₂) X.xe s₁) (fun u s' xx => ?_) PassesOwn.looking).run [] s σ H D (I.toTry _) h
  refine wpAny_mono run (fun f s1 hsp => ?_) (fun e s1 he => he)
  · cases f with
    | next =>
      obtain ⟨σ', H', J', q⟩ := hsp
      exact wpAny_execs_nil ⟨σ', H', J'.ofTry ok, q⟩
    | brk => exact let ⟨σ', H', J', q⟩ := hsp; ⟨σ', H', J'.ofTry ok, q⟩
    | cont => exact let ⟨σ', H', J', q⟩ := hsp; ⟨σ', H', J'.ofTry ok, q⟩
    | ret u => exact let ⟨v, σ', H', J', r, q⟩ := hsp; ⟨v, σ', H', J'.ofTry ok, r, q⟩
  · obtain ⟨a, B, sI, pins', σ', H', cls, d, rfl, J', nb, up, sky, na, os, ag, b, hb1, hyes, hno⟩ := xx
    have J : Inv X pins σ' H' sI := J'.ofTry ok
    have sky1 : Sky B (X.env :: X.outer) a (Zc cls d) X.env.locals s'.heap := by rw [← hs]; exact sky
    show wpAny (model X.prog X.w) X.A (noteFrame (.ref a) X.env) _ _ _
    refine Sky.land Zc.steady frames hf sky1 fun hA flA upA => ?_
    have JA : Inv X pins σ' H' { s' with heap := hA } := J.landed nb flA.1 (up.trans upA) os ag
    obtain ⟨oA, vA, eA, zA, dA⟩ := flA.there
    have nfr : a ∉ frs (X.env :: X.outer) := notFr_of flA.2.2.1 eA dA
    have nL : a ≠ X.env.locals := fun z => nfr (List.mem_filterMap.mpr ⟨X.env, List.mem_cons_self, by rw [hf, z]⟩)
    have nF : a ∉ X.fs := fun hm => by
      obtain ⟨e, he, q⟩ := List.mem_filterMap.mp hm
      exact nfr (List.mem_filterMap.mpr ⟨e, List.mem_cons_of_mem _ he, q⟩)
    have bA : B.get? a = none := flA.2.1
    have n0 : X.s_0.heap.get? a = none := by
      cases e : X.s_0.heap.get? a with
      | none => rfl
      | some o =>
        obtain ⟨o', e'⟩ := J.base.there a o e (by rw [hex]; exact fun z => nomatch z)
        have := nb a o' e' (by rw [hs]; exact nfr)
        rw [bA] at this
        cases this
    have np' : ∀ p ∈ X.pn ++ pins, p.1 ≠ a := fun p hp z => by
      obtain ⟨w1, w2, w3, w4, _⟩ := J.pin p hp
      have := nb p.1 p.2 w1 (by
        rw [hs]
        intro hm
        obtain ⟨e, he, q⟩ := List.mem_filterMap.mp hm
        rcases List.mem_cons.mp he with rfl | he
        · rw [hf] at q
          exact w3 (Option.some.inj q).symm
        · exact w4 (List.mem_filterMap.mpr ⟨e, he, q⟩))
      rw [z, bA] at this
      cases this
    have SA := JA.suite eA dA na nL nF
    refine wpAny_handleBy_cons (codeAny_handlers_test ?_) (by intro q; cases q)
    have LT : PySem.W.Looks (model X.prog X.w) hA (typeOf (.ref a)) cls := fun A Q E s k q => wpAny_typeOf_ref (k _ _ eA) (by rw [zA.1]; exact q)
    have LM := PySem.W.exm_one (M := model X.prog X.w) JA.kIn LT hb1
    have asks : ∀ {Q : Value → Shared → Prop} {E : Value → Shared → Prop}, Q c { s' with heap := hA } → wpAny (model X.prog X.w) (X.A.mark (some (.ref a))) (eval (.Name x np) X.env) Q E { s' with heap := hA } := fun {Q E} q => by
      obtain ⟨hg, hdbg, hm | ⟨hm, hv, hnn⟩⟩ := hc
      · exact ld_glob (X := X.suite a ((a, oA) :: (X.pn ++ pins))) SA hg hm q hdbg
      · exact ld_blt (X := X.suite a ((a, oA) :: (X.pn ++ pins))) SA hg hm hv q hnn hdbg
    refine asks (LM.here ?_)
    cases b with
    | false =>
      show wpAny _ X.A (handleBy (.ref a) X.env []) _ _ _
      refine wpAny_handleBy_nil ?_
      obtain ⟨g1, g2, g3, oe, vs, T, oT, ts', he, hz, hd, h1, hr⟩ := id flA
      unfold PySem.passOn
      refine wpAny_bind (wpAny_field he hd h1 ?_)
      rw [if_neg (show ¬ ((Value.ref T == Value.none) = true) from by simp)]
      have fin : wpAny (model X.prog X.w) X.A (setFlight (.ref a) X.env.frame) (fun _ s4 => wpAny (model X.prog X.w) X.A (throw (.ref a) : Sem Flow) (SP X pins D) X.xe s4) X.xe { s' with heap := hA } := by
        rw [hf]
        refine HandSPX.setFlight_upZ flA fun hB hhB upB => wpAny_throw (tk _ _ ?_)
        exact ⟨a, B, sI, pins, σ', H', cls, d, rfl, J, nb, (up.trans upA).trans upB, .inr (.inr (by rw [hs]; exact hhB)), na, os, ag, hno rfl⟩
      first
        | exact wpAny_bind (wpAny_pure (wpAny_bind fin))
        | exact wpAny_bind fin
    | true =>
      refine codeAny_handlers_suite_as ?_
      refine HandSPX.lands_againZ flA fun hB flB upB => ?_
      have JB : Inv X pins σ' H' { s' with heap := hB } := J.landed nb flB.1 ((up.trans upA).trans upB) os ag
      obtain ⟨oB, vB, eB, zB, dB⟩ := flB.there
      have SB := JB.suite eB dB na nL nF
      refine store_ok (X := X.suite a ((a, oB) :: (X.pn ++ pins))) (v := .ref a) SB hN hi locN rfl (fun s5 S5 => ?_) (.inr hln)
      have hil : i < σ'.length := by rw [J.len]; exact hlen
      have one : PSs (X.suite a ((a, oB) :: (X.pn ++ pins))) [.Assign [.Name mn q1] (.Name n q2) q3] (tAsg (tVar i) (gName m)) :=
        pss_one (ps_set (X := X.suite a ((a, oB) :: (X.pn ++ pins))) hN hm hlm (pe_var hi (.inl hln) hd1 hd2) (hsw _) hfm)
      refine wpAny_mono (one.run [] s5 _ H' { nx := fun σ6 H6 => σ6 = (σ'.set i (some (.ref a))).set m (some (.ref a)) ∧ H6 = H', rt := fun _ _ => False } S5 ⟨.ref a, by rw [List.getElem?_set_self hil], rfl, rfl⟩) (fun f s6 hsp => ?_) (fun _ _ z => False.elim z)
      cases f with
      | brk =>
        obtain ⟨_, _, _, z⟩ := hsp
        exact z.elim
      | cont =>
        obtain ⟨_, _, _, z⟩ := hsp
        exact z.elim
      | ret u =>
        obtain ⟨_, _, _, _, _, z⟩ := hsp
        exact z.elim
      | next =>
        obtain ⟨σ6, H6, S6, rfl, rfl⟩ := hsp
        obtain ⟨p1, p2, _⟩ := S6.pin (a, oB) (List.mem_append.mpr (.inl List.mem_cons_self))
        have J6 : Inv X pins _ H6 s6 := S6.unsuite ok
        have J7 := Dn.Inv.adopt J6 p1 zB dB p2 nL n0 np'
        refine gone_ok (Q := fun _ s7 => SP X pins D .next s7) J7 hN hi hln fun s7 J8 => ⟨_, _, J8, ?_⟩
        have e : ((σ'.set i (some (V.ref a))).set m (some (V.ref a))).set i none = (σ'.set m (some (.ref a))).set i none := by
          rw [List.set_comm _ _ him, List.set_set]
        rw [e]
        exact hyes rfl a na
end
section
variable {K : PySem.W.Frag} {pm : Pm} {W : WX}
/-- the mirror of such a try: sub tells of each class whether the clause takes it -/
theorem ref_try {c : Value} {m i : Nat} {tb : WX → TS} {b : S} {sub : Nat → Bool} (hsub : ∀ k, PySem.W.exmOne K (.ref (pm.ca k)) c = some (sub k)) (hb : ∀ W : WX, RefS K pm W (tb W) b) :
    RefS K pm W (fun D σ H => tb (wKeep K c m i W D) D σ H) (sTry sub m i b) := fun κ0 κ l σ v s H D w e p => by
  refine hb (wKeep K c m i W D) κ κ (Le.refl κ) σ v s H D w e ?_
  unfold sTry at p
  cases q : b v s with
  | nx v1 s1 => rw [q] at p; exact p
  | rt d s1 => rw [q] at p; exact p
  | bk v1 s1 => rw [q] at p; exact p
  | ct v1 s1 => rw [q] at p; exact p
  | no => rw [q] at p; exact p
  | ex x v1 s1 =>
    rw [q] at p
    intro cls dd σ1 κ1 H1 l1 w1 e1 r1
    cases x with
    | exc k fs =>
      obtain ⟨rfl, da, vs, h1, h2⟩ := r1
      refine ⟨sub k, hsub k, fun hs a ha => ?_, fun hs => ?_⟩
      · simp only [hs, if_true] at p
        have L := w1.add_le ha (ExH (.ref (pm.ca k)) dd a)
        refine p _ (κ1.add a (ExH (.ref (pm.ca k)) dd a)) _ (l1.trans L) (w1.add ha _) (((e1.mono L).set m ?_).unset i)
        exact .exc upd_same (h1.imp id fun ⟨x, y⟩ => ⟨x, L.f _ _ y⟩) (h2.mono L)
      · simp only [hs, Bool.false_eq_true, if_false] at p
        exact p _ _ σ1 κ1 H1 l1 w1 e1 ⟨rfl, da, vs, h1, h2⟩
    | _ => exact r1.elim
/-- raise C('..'), raise InvalidWords(e) -/
def sRaise0 (c : Nat) : S := fun v s => .ex (.exc c []) v s
theorem ref_raise0 (c : Nat) : RefS K pm W (fun _ σ H => W (.ref (pm.ca c)) none σ H) (sRaise0 c) := fun κ0 κ l σ v s H D w e p =>
  p _ none σ κ H (Le.refl κ) w e ⟨rfl, 0, [], .inl rfl, .nil⟩
def sRaise1 (c : Nat) (a : E (List D)) : S := sThen a fun l v s => match l with
  | [x] => .ex (.exc c [x]) v s
  | _ => .no
theorem ref_raiseW {c : Nat} {ta : TA} {ga : E (List D)} (hf : pm.cf c = [("place" : Str)]) (ha : RefA K pm W ta ga) : RefS K pm W (fun _ σ H => tMkW (pm.ca c) ta σ H fun cls d H' => W cls d σ H') (sRaise1 c ga) := fun κ0 => by
  refine ref_then (k := fun vs D σ H1 => ∃ v, vs = [v] ∧ ∀ d, H1 d = none → W (.ref (pm.ca c)) (some d) σ (upd H1 d (placeOf v))) (ha κ0) ?_
  intro xs ds κ1 l1 r1 κ l σ v s H D w e p
  dsimp only at p
  split at p
  · rename_i x
    obtain ⟨a, rfl, h1⟩ := all_one r1
    refine ⟨a, rfl, fun d hd => ?_⟩
    have L := w.add_le hd (placeOf a)
    refine p _ (some d) σ (κ.add d (placeOf a)) _ L (w.add hd _) (e.mono L) ⟨rfl, d, [a], .inr ⟨rfl, ?_⟩, .one ((h1.mono l).mono L)⟩
    rw [hf]
    exact upd_same
  · exact p.elim
/-- e.place, isinstance(e, C) of a kept exception -/
def fldD (c : Nat) (j : Nat) : Op1 := fun _ x => match x with
  | .exc k l => if k = c then l[j]? else none
  | _ => none
def tFldX (K : PySem.W.Frag) (C : Addr) (f : Str) (te : TE) : TE := tUn (fun x H Q => ∃ (a dd : Addr) (fs : List (Str × V)) (v : V), x = .ref a ∧ H a = some (ExH (.ref C) (some dd) a) ∧ H dd = some (.xd fs) ∧ fs.lookup f = some v ∧ Q v H) te
theorem pe_fldX {X : Cx} {C : Addr} {e : Expr} {te : TE} {pos : Pos} {f : Str} (T : XfC X.K C) (hno : PySem.W.findIn X.K (.ref C) f = some none) (he : PE X e te) (hb : attributeBase e f X.env (eval e X.env) = eval e X.env := by rfl) :
    PE X (.Attribute e f pos) (tFldX X.K C f te) := by
  refine ⟨fun pins s σ H Q I h => ?_⟩
  refine attr_of hb (thn (he.run pins s σ H _ I h) fun u s1 hh => ?_)
  obtain ⟨x, H1, I1, rx, a, dd, fs, v, rfl, ea, ed, lk, q⟩ := hh
  obtain rfl : u = Value.ref a := rx
  obtain ⟨⟨oe, vs, ho, hz, hd⟩, _⟩ := (show ObjOk X.prog X.w H1 s1.heap a (ExH (.ref C) (some dd) a) from I1.hok a _ ea)
  obtain ⟨mA, hns, hr⟩ := (show ObjOk X.prog X.w H1 s1.heap dd (.xd fs) from I1.hok dd _ ed)
  obtain ⟨od, hod, hl⟩ := lookIn_ns hns
  obtain ⟨u, hu, ru⟩ := RelO.some_of (v := v) (o := mA f) (by rw [← lk]; exact hr f)
  have J : PySem.W.InstAt s1.heap a oe C (some od) := ⟨ho, hz.1, by unfold PySem.W.notCls; rw [hd] <;> rfl, by rw [hz.2]; exact hod⟩
  exact HandSPX.exc_get I1.kIn J T.ga T.gg T.exC (PySem.W.findObj_own T.hdC hno rfl (by rw [hl, hu])) (handed_of ru) ⟨v, H1, I1.tok _, ru, q⟩
theorem ref_fldX {c j : Nat} {f : Str} {te : TE} {ge : E D} (hj : ∀ (vs : List V) (v : V), vs[j]? = some v → ((pm.cf c).zip vs).lookup f = some v) (he : RefE K pm W te ge) : RefE K pm W (tFldX K (pm.ca c) f te) (eUn (fldD c j) ge) := by
  refine ref_un (fun κ s H x dx d w rx e Q q => ?_) he
  unfold fldD at e
  cases rx with
  | exc h1 h2 h3 =>
    rename_i a dd0 k l dd vs
    simp only at e
    split at e
    · rename_i hk
      subst hk
      rcases h2 with rfl | ⟨rfl, h2⟩
      · simp at e
      · obtain ⟨v, hv, rv⟩ := h3.get e
        exact ⟨a, dd, _, v, rfl, w.f _ _ h1, w.f _ _ h2, hj vs v hv, q v κ H (Le.refl κ) w rv⟩
    · cases e
  | _ => cases e
end
end Dn
/-! Dn9: pieces of the text put together with their mirrors. -/
namespace Dn
open PySem PySem.Spec PyProof.Rows L2
section
variable {pm : Pm} {X : Cx} {W : WX}
theorem DE.mk' {e : Expr} {g : E D} {t : TE} (p : PE X e t) (r : RefE X.K pm W t g) : DE pm X W e g := ⟨t, p, r⟩
theorem DT.mk' {e : Expr} {g : E Bool} {t : TT} (p : PT X e t) (r : RefT X.K pm W t g) : DT pm X W e g := ⟨t, p, r⟩
theorem DW.mk' {e : Expr} {g : E Bool} {t : TT} (p : PW X e t) (r : RefT X.K pm W t g) : DW pm X W e g := ⟨t, p, r⟩
theorem DA.mk' {es : List Expr} {g : E (List D)} {t : TA} (p : PA X es t) (r : RefA X.K pm W t g) (l : Len g es.length) : DA pm X W es g := ⟨⟨t, p, r⟩, l⟩
theorem DS.mk' {st : Stmt} {g : S} {t : TS} (p : PS X st t) (r : RefS X.K pm W t g) : DS pm X W st g := ⟨t, p, r⟩
theorem DB.mk' {st : List Stmt} {g : S} {t : TS} (p : PSs X st t) (r : RefS X.K pm W t g) : DB pm X W st g := ⟨t, p, r⟩
theorem DI.mk' {tg iter : Expr} {g : E Its} {t : TI} (p : PI X tg iter t) (r : RefI X.K pm W t g) : DI pm X W tg iter g := ⟨t, p, r⟩
noncomputable section
def DE.t {e : Expr} {g : E D} (a : DE pm X W e g) : TE := a.ex.choose
def DT.t {e : Expr} {g : E Bool} (a : DT pm X W e g) : TT := a.ex.choose
def DW.t {e : Expr} {g : E Bool} (a : DW pm X W e g) : TT := a.ex.choose
def DA.t {e : List Expr} {g : E (List D)} (a : DA pm X W e g) : TA := a.ex.choose
def DS.t {e : Stmt} {g : S} (a : DS pm X W e g) : TS := a.ex.choose
def DB.t {e : List Stmt} {g : S} (a : DB pm X W e g) : TS := a.ex.choose
def DI.t {tg e : Expr} {g : E Its} (a : DI pm X W tg e g) : TI := a.ex.choose
end
theorem DE.p {e : Expr} {g : E D} (a : DE pm X W e g) : PE X e a.t := a.ex.choose_spec.1
theorem DE.r {e : Expr} {g : E D} (a : DE pm X W e g) : RefE X.K pm W a.t g := a.ex.choose_spec.2
theorem DT.p {e : Expr} {g : E Bool} (a : DT pm X W e g) : PT X e a.t := a.ex.choose_spec.1
theorem DT.r {e : Expr} {g : E Bool} (a : DT pm X W e g) : RefT X.K pm W a.t g := a.ex.choose_spec.2
theorem DW.p {e : Expr} {g : E Bool} (a : DW pm X W e g) : PW X e a.t := a.ex.choose_spec.1
theorem DW.r {e : Expr} {g : E Bool} (a : DW pm X W e g) : RefT X.K pm W a.t g := a.ex.choose_spec.2
theorem DA.p {e : List Expr} {g : E (List D)} (a : DA pm X W e g) : PA X e a.t := a.ex.choose_spec.1
theorem DA.r {e : List Expr} {g : E (List D)} (a : DA pm X W e g) : RefA X.K pm W a.t g := a.ex.choose_spec.2
theorem DS.p {e : Stmt} {g : S} (a : DS pm X W e g) : PS X e a.t := a.ex.choose_spec.1
theorem DS.r {e : Stmt} {g : S} (a : DS pm X W e g) : RefS X.K pm W a.t g := a.ex.choose_spec.2
theorem DB.p {e : List Stmt} {g : S} (a : DB pm X W e g) : PSs X e a.t := a.ex.choose_spec.1
theorem DB.r {e : List Stmt} {g : S} (a : DB pm X W e g) : RefS X.K pm W a.t g := a.ex.choose_spec.2
theorem DI.p {tg e : Expr} {g : E Its} (a : DI pm X W tg e g) : PI X tg e a.t := a.ex.choose_spec.1
theorem DI.r {tg e : Expr} {g : E Its} (a : DI pm X W tg e g) : RefI X.K pm W a.t g := a.ex.choose_spec.2
/-! ### values -/
theorem xv (i : Nat) {x : Str} {pos : Pos} (h1 : X.N[i]? = some x := by rfl) (h2 : Vis X.env.scope x := by first | exact .inl rfl | exact .inr (.inl rfl) | exact .inr (.inr rfl)) (h3 : (x == Str.ofString "__debug__") = false := by decide) (h4 : (x == Str.ofString "__classdict__") = false := by decide) :
    DE pm X W (.Name x pos) (eVar i) := .mk' (pv i h1 h2 h3 h4) (ref_var i)
theorem xint {i : Int} {j : Nat} {pos : Pos} : DE pm X W (.Constant (.int i) j pos) (eC (.int i)) := .mk' pe_int (ref_c fun _ => .int _)
theorem xbl {b : Bool} {j : Nat} {pos : Pos} : DE pm X W (.Constant (.bool b) j pos) (eC (.bl b)) := .mk' pe_bl (ref_c fun _ => .bl _)
theorem xnon {j : Nat} {pos : Pos} : DE pm X W (.Constant .none j pos) (eC .non) := .mk' pe_non (ref_c fun _ => .non)
theorem xstr {x : Str} {j : Nat} {pos : Pos} : DE pm X W (.Constant (.str x) j pos) (eC (.str x)) := .mk' pe_str (ref_c fun _ => .str _)
/-- a constant of a module -/
structure GV (pm : Pm) (K : PySem.W.Frag) (mg : Str → Option Value) (x : Str) (d : D) : Prop where
  ex : ∃ (v : V) (u : Value), mg x = some u ∧ RelV v u ∧ ∀ κ, Rep K pm κ v d
theorem xglob {x : Str} {d : D} {pos : Pos} (h : GV pm X.K X.mg x d) (hg : Gl X x := by rfl) (hd : (x == Str.ofString "__debug__") = false := by decide) : DE pm X W (.Name x pos) (eC d) := by
  obtain ⟨v, u, h1, h2, h3⟩ := h.ex
  exact .mk' (pe_glob hg h1 h2 hd) (ref_c h3)
theorem xop {a b : Expr} {ga gb : E D} {pos : Pos} {op : Operator} {r : R2} {f : Op2} (o : OpR X (binaryOp op) r) (of : Op2R X.K pm r f) (ha : DE pm X W a ga) (hb : DE pm X W b gb) : DE pm X W (.BinOp a op b pos) (eOp f ga gb) := .mk' (pe_op o ha.p hb.p) (ref_op of ha.r hb.r)
theorem xun {a : Expr} {ga : E D} {pos : Pos} {op : UnaryOp} {r : V → Hp → VK → Prop} {f : Op1} (o : UnR X (unaryOp op) r) (of : Op1R X.K pm r f) (ha : DE pm X W a ga) : DE pm X W (.UnaryOp op a pos) (eUn f ga) := .mk' (pe_un o ha.p) (ref_un of ha.r)
theorem xcmp {a b : Expr} {ga gb : E D} {pos : Pos} {op : CmpOp} {r : R2} {f : Op2} (o : OpR X (compareOp op) r) (of : Op2R X.K pm r f) (ha : DE pm X W a ga) (hb : DE pm X W b gb) (hm : behindInMarks op b = false := by first | exact nomark _ | rfl) : DE pm X W (.Compare a [op] [b] pos) (eOp f ga gb) := .mk' (pe_cmpR o ha.p hb.p hm) (ref_op of ha.r hb.r)
theorem xchain {a b c : Expr} {ga gb gc : E D} {pos : Pos} {op op' : CmpOp} {r r' : R2} {f f' : Op2} (o : OpR X (compareOp op) r) (o' : OpR X (compareOp op') r') (of : Op2R X.K pm r f) (of' : Op2R X.K pm r' f') (ha : DE pm X W a ga) (hb : DE pm X W b gb) (hc : DE pm X W c gc)
    (hm : lastMarks [op, op'] [b, c] = false := by rfl) : DE pm X W (.Compare a [op, op'] [b, c] pos) (eChain f f' ga gb gc) := .mk' (pe_chain o o' ha.p hb.p hc.p hm) (ref_chain of of' ha.r hb.r hc.r)
theorem xand {a b : Expr} {ga gb : E D} {pos : Pos} {rest : List Expr} (ha : DE pm X W a ga) (hb : DE pm X W (.BoolOp .And (b :: rest) pos) gb) : DE pm X W (.BoolOp .And (a :: b :: rest) pos) (eAndV ga gb) := .mk' (pe_and ha.p hb.p) (ref_andV ha.r hb.r)
theorem xor {a b : Expr} {ga gb : E D} {pos : Pos} {rest : List Expr} (ha : DE pm X W a ga) (hb : DE pm X W (.BoolOp .Or (b :: rest) pos) gb) : DE pm X W (.BoolOp .Or (a :: b :: rest) pos) (eOrV ga gb) := .mk' (pe_or ha.p hb.p) (ref_orV ha.r hb.r)
theorem xone {a : Expr} {ga : E D} {pos : Pos} {op : BoolOp} (ha : DE pm X W a ga) : DE pm X W (.BoolOp op [a] pos) ga := .mk' (pe_one ha.p) ha.r
theorem xnot {a : Expr} {ga : E D} {pos : Pos} (ha : DE pm X W a ga) : DE pm X W (.UnaryOp .Not a pos) (eNotV ga) := .mk' (pe_not ha.p) (ref_notV ha.r)
theorem xif {a b c : Expr} {ga gb : E D} {gc : E Bool} {pos : Pos} (hc : DT pm X W c gc) (ha : DE pm X W a ga) (hb : DE pm X W b gb) : DE pm X W (.IfExp c a b pos) (eIf gc ga gb) := .mk' (pe_ifExp hc.p ha.p hb.p) (ref_if hc.r ha.r hb.r)
theorem xix {a b : Expr} {ga gb : E D} {pos : Pos} (ha : DE pm X W a ga) (hb : DE pm X W b gb) (hp : PlainIx b := by exact fun _ _ => rfl) : DE pm X W (.Subscript a b pos) (eOp ixD ga gb) := .mk' (pe_ix ix_seq ha.p hb.p hp) (ref_op or_ix ha.r hb.r)
structure DO (pm : Pm) (X : Cx) (W : WX) (e : Option Expr) (g : E (Option Int)) : Prop where
  ex : ∃ t, PO X e t ∧ RefO X.K pm W t g
theorem xsome {e : Expr} {g : E D} (h : DE pm X W e g) : DO pm X W (some e) (ePart g) := ⟨_, po_some h.p, ref_part h.r⟩
theorem xnone : DO pm X W none eNoPart := ⟨_, po_none, ref_noPart⟩
theorem xsl {e : Expr} {lo hi : Option Expr} {g : E D} {gl gh : E (Option Int)} {pos p2 : Pos} (h : DE pm X W e g) (hl : DO pm X W lo gl) (hh : DO pm X W hi gh) : DE pm X W (.Subscript e (.Slice lo hi none p2) pos) (eSl g gl gh) := by
  obtain ⟨_, l1, l2⟩ := hl.ex
  obtain ⟨_, h1, h2⟩ := hh.ex
  exact .mk' (pe_slice slr_all h.p l1 h1) (ref_sl h.r l2 h2)
theorem xnil : DA pm X W [] eNil := .mk' pa_nil ref_nil len_nil
theorem xcons {e : Expr} {es : List Expr} {g : E D} {gs : E (List D)} (h : DE pm X W e g) (hs : DA pm X W es gs) (he : starEach (e :: es) X.env = (false, eval e X.env) :: starEach es X.env := by rfl) : DA pm X W (e :: es) (eCons g gs) := .mk' (pa_cons h.p hs.p he) (ref_cons h.r hs.r) (len_cons hs.len)
theorem xtup {es : List Expr} {g : E (List D)} {k : Nat} {pos : Pos} (h : DA pm X W es g) (hn : es.length ≤ 10000 := by decide) : DE pm X W (.Tuple es k pos) (eTup g) := .mk' (pe_tup h.p) (ref_tup h.r h.len hn)
theorem xlst {es : List Expr} {g : E (List D)} {pos : Pos} (h : DA pm X W es g) (hn : es.length ≤ 10000 := by decide) : DE pm X W (.List es pos) (eLst g) := .mk' (pe_lst h.p) (ref_lst h.r h.len hn)
theorem xnew {es : List Expr} {g : E (List D)} {pos : Pos} (h : DA pm X W es g) (hn : es.length ≤ 10000 := by decide) : DE pm X W (.List es pos) (eNew g) := .mk' (pe_lst h.p) (ref_new h.r h.len hn)
/-- a built-in function, a built-in type called -/
theorem xfn {x : Str} {p pos : Pos} {e : Expr} {es : List Expr} {g : E (List D)} {id : String} {r : List V → Hp → VK → Prop} {f : Store → List D → Option D} (c : CallR X (.builtin id) r) (fr : FnR X.K pm r f) (hv : bootBuiltins x = some (.builtin id)) (hm : X.mg x = none) (h : DA pm X W (e :: es) g)
    (hg : Gl X x := by rfl) (hn : x ≠ Str.ofString "__name__" := by decide) (hd : (x == Str.ofString "__debug__") = false := by decide) (he : starEach (e :: es) X.env = (false, eval e X.env) :: starEach es X.env := by rfl) (hp : ((backTo pos (starEach es X.env)).any fun x => x.fst) = false := by rfl) :
    DE pm X W (.Call (.Name x p) (e :: es) [] pos) (eFn f g) := .mk' (pe_callB c hg hm hv h.p hn hd he hp) (ref_fn fr h.r)
theorem xty {x : Str} {p pos : Pos} {e : Expr} {es : List Expr} {g : E (List D)} {T : String} {r : List V → Hp → VK → Prop} {f : Store → List D → Option D} (c : CallR X (.type T) r) (fr : FnR X.K pm r f) (hv : bootBuiltins x = some (.type T)) (hm : X.mg x = none) (h : DA pm X W (e :: es) g)
    (hg : Gl X x := by rfl) (hn : x ≠ Str.ofString "__name__" := by decide) (hd : (x == Str.ofString "__debug__") = false := by decide) (he : starEach (e :: es) X.env = (false, eval e X.env) :: starEach es X.env := by rfl) (hp : ((backTo pos (starEach es X.env)).any fun x => x.fst) = false := by rfl) :
    DE pm X W (.Call (.Name x p) (e :: es) [] pos) (eFn f g) := .mk' (pe_callTy c hg hm hv h.p hn hd he hp) (ref_fn fr h.r)
theorem xnewOf {x : Str} {p pos : Pos} {e : Expr} {g : E D} (hv : bootBuiltins x = some (.type "list")) (hm : X.mg x = none) (h : DE pm X W e g) (h1 : starEach [e] X.env = (false, eval e X.env) :: starEach [] X.env := by rfl)
    (hg : Gl X x := by rfl) (hn : x ≠ Str.ofString "__name__" := by decide) (hd : (x == Str.ofString "__debug__") = false := by decide) (hp : ((backTo pos (starEach [] X.env)).any fun x => x.fst) = false := by rfl) :
    DE pm X W (.Call (.Name x p) [e] [] pos) (eNewOf g) := .mk' (pe_callTy call_list_of hg hm hv (pa_cons h.p pa_nil h1) hn hd h1 hp) (ref_newOf h.r)
theorem xjoin {o e : Expr} {go ge : E D} {apos pos : Pos} (ho : DE pm X W o go) (h : DE pm X W e ge) (h1 : starEach [e] X.env = [(false, eval e X.env)] := by rfl) (h2 : attributeBase o (Str.ofString "join") X.env (eval o X.env) = eval o X.env := by rfl) (h3 : (apos.endLine == pos.line) = true := by rfl) :
    DE pm X W (.Call (.Attribute o (Str.ofString "join") apos) [e] [] pos) (eJoin go ge) := .mk' (pe_join ho.p h.p h1 h2 h3) (ref_join ho.r h.r)
theorem xsplit {o e : Expr} {go ge : E D} {apos pos : Pos} (ho : DE pm X W o go) (h : DE pm X W e ge) (h1 : starEach [e] X.env = [(false, eval e X.env)] := by rfl) (h2 : attributeBase o (Str.ofString "split") X.env (eval o X.env) = eval o X.env := by rfl) (h3 : (apos.endLine == pos.line) = true := by rfl) :
    DE pm X W (.Call (.Attribute o (Str.ofString "split") apos) [e] [] pos) (eSplit go ge) := .mk' (pe_split ho.p h.p h1 h2 h3) (ref_split ho.r h.r)
theorem xfld {c j : Nat} {o : Expr} {go : E D} {f : Str} {pos : Pos} (T : XfC X.K (pm.ca c)) (hno : PySem.W.findIn X.K (.ref (pm.ca c)) f = some none) (hj : ∀ (vs : List V) (v : V), vs[j]? = some v → ((pm.cf c).zip vs).lookup f = some v) (ho : DE pm X W o go)
    (hb : attributeBase o f X.env (eval o X.env) = eval o X.env := by rfl) : DE pm X W (.Attribute o f pos) (eUn (fldD c j) go) := .mk' (pe_fldX T hno ho.p hb) (ref_fldX hj ho.r)
/-! ### tests -/
theorem tval {e : Expr} {g : E D} (h : DE pm X W e g) (ht : ∀ whole : Sem Value, PySem.isTrue e X.env whole = (do
    let v ← whole
    standAt e.pos
    holding [v] (truthy v)) := by intros; rfl) : DT pm X W e (tV g) := .mk' (pt_val h.p ht) (ref_testB h.r)
theorem tcmp {a b : Expr} {ga gb : E D} {pos : Pos} {op : CmpOp} {r : R2} {f : Op2} (o : OpR X (compareOp op) r) (of : Op2R X.K pm r f) (ha : DE pm X W a ga) (hb : DE pm X W b gb) (hm : behindInMarks op b = false := by first | exact nomark _ | rfl) : DT pm X W (.Compare a [op] [b] pos) (tV (eOp f ga gb)) := .mk' (pt_cmpR o ha.p hb.p hm) (ref_test (ref_op of ha.r hb.r))
theorem tchain {a b c : Expr} {ga gb gc : E D} {pos : Pos} {op op' : CmpOp} {r r' : R2} {f f' : Op2} (o : OpR X (compareOp op) r) (o' : OpR X (compareOp op') r') (of : Op2R X.K pm r f) (of' : Op2R X.K pm r' f') (ha : DE pm X W a ga) (hb : DE pm X W b gb) (hc : DE pm X W c gc)
    (hm : lastMarks [op, op'] [b, c] = false := by rfl) : DT pm X W (.Compare a [op, op'] [b, c] pos) (tV (eChain f f' ga gb gc)) := .mk' (pt_chain o o' ha.p hb.p hc.p hm) (ref_test (ref_chain of of' ha.r hb.r hc.r))
theorem tnot {a : Expr} {g : E Bool} {pos : Pos} (h : DT pm X W a g) : DT pm X W (.UnaryOp .Not a pos) (tNot g) := .mk' (pt_not h.p) (ref_not h.r)
theorem tw {e : Expr} {g : E Bool} (h : DW pm X W e g) : DT pm X W e g := .mk' h.p.pt h.r
theorem wand {a b : Expr} {g h : E Bool} {pos : Pos} {rest : List Expr} (ha : DT pm X W a g) (hb : DW pm X W (.BoolOp .And (b :: rest) pos) h) : DW pm X W (.BoolOp .And (a :: b :: rest) pos) (tAnd g h) := .mk' (pw_and ha.p hb.p) (ref_and ha.r hb.r)
theorem wand1 {a : Expr} {g : E Bool} {pos : Pos} (ha : DT pm X W a g) : DW pm X W (.BoolOp .And [a] pos) g := .mk' (pw_and1 ha.p) ha.r
theorem wor {a b : Expr} {g h : E Bool} {pos : Pos} {rest : List Expr} (ha : DT pm X W a g) (hb : DW pm X W (.BoolOp .Or (b :: rest) pos) h) : DW pm X W (.BoolOp .Or (a :: b :: rest) pos) (tOr g h) := .mk' (pw_or ha.p hb.p) (ref_or ha.r hb.r)
theorem wor1 {a : Expr} {g : E Bool} {pos : Pos} (ha : DT pm X W a g) : DW pm X W (.BoolOp .Or [a] pos) g := .mk' (pw_or1 ha.p) ha.r
/-! ### statements -/
theorem bnil : DB pm X W [] sPass := .mk' pss_nil ref_pass
theorem bone {st : Stmt} {g : S} (h : DS pm X W st g) : DB pm X W [st] g := .mk' (pss_one h.p) h.r
theorem bcons {st : Stmt} {rest : List Stmt} {g h : S} (a : DS pm X W st g) (b : DB pm X W rest h) : DB pm X W (st :: rest) (sSeq g h) := .mk' (pss_cons a.p b.p) (ref_seq a.r b.r)
theorem sset (i : Nat) {pos pos' : Pos} {x : Str} {e : Expr} {g : E D} (nd : X.N.Nodup) (h : DE pm X W e g) (hi : X.N[i]? = some x := by rfl) (hl : L2.Loc X.env.scope x := by first | exact Or.inl rfl | exact Or.inr rfl) (hs : swapsWith e (some (.Name x pos')) pos.line X.env = pure false := by rfl)
    (hf : X.fn x = true ∨ X.env.scope.names.lookup x = some .local := by first | exact Or.inl rfl | exact Or.inr rfl) : DS pm X W (.Assign [.Name x pos'] e pos) (sSet (gN i) g) := .mk' (ps_set nd hi hl h.p hs hf) (ref_set h.r (ref_gN i))
theorem sret {e : Expr} {g : E D} {pos : Pos} (h : DE pm X W e g) : DS pm X W (.Return (some e) pos) (sRet g) := .mk' (ps_ret h.p) (ref_ret h.r)
theorem sretN {pos : Pos} : DS pm X W (.Return none pos) sRetN := .mk' ps_retN ref_retN
theorem sif {c : Expr} {a b : List Stmt} {gc : E Bool} {ga gb : S} {pos : Pos} (hc : DT pm X W c gc) (ha : DB pm X W a ga) (hb : DB pm X W b gb) : DS pm X W (.If c a b pos) (sIf gc ga gb) := .mk' (ps_if hc.p ha.p hb.p) (ref_ifS hc.r ha.r hb.r)
theorem sexpr {e : Expr} {g : E D} {pos : Pos} (h : DE pm X W e g) (hs : swapsWith e none pos.line X.env = pure false := by rfl) : DS pm X W (.Expr e pos) (sDrop g) := .mk' (ps_expr h.p hs) (ref_drop h.r)
theorem sbreak {pos : Pos} : DS pm X W (.Break pos) sBreak := .mk' ps_break ref_break
theorem scont {pos : Pos} : DS pm X W (.Continue pos) sCont := .mk' ps_continue ref_cont
theorem spass {pos : Pos} : DS pm X W (.Pass pos) sPass := .mk' ps_pass ref_pass
/-- targets: a name, names in brackets -/
theorem gname (i : Nat) {x : Str} {pos : Pos} (nd : X.N.Nodup) (hi : X.N[i]? = some x := by rfl) (hl : L2.Loc X.env.scope x := by first | exact Or.inl rfl | exact Or.inr rfl) (hf : X.fn x = true ∨ X.env.scope.names.lookup x = some .local := by first | exact Or.inl rfl | exact Or.inr rfl) :
    PG X (.Name x pos) (gName i) := pg_name nd hi hl hf
theorem gsnil : PGs X [] (gTs []) := pgs_nil
theorem gscons (i : Nat) {is : List Nat} {x : Str} {pos : Pos} {es : List Expr} (nd : X.N.Nodup) (h : PGs X es (gTs is)) (hi : X.N[i]? = some x := by rfl) (hl : L2.Loc X.env.scope x := by first | exact Or.inl rfl | exact Or.inr rfl) (hf : X.fn x = true ∨ X.env.scope.names.lookup x = some .local := by first | exact Or.inl rfl | exact Or.inr rfl)
    (he : List.map (fun x => x.snd) (assignEach ((.Name x pos) :: es) X.env) = assign (.Name x pos) X.env :: List.map (fun x => x.snd) (assignEach es X.env) := by rfl) : PGs X (.Name x pos :: es) (gTs (i :: is)) := pgs_cons (gname i nd hi hl hf) h he
theorem gtup {is : List Nat} {es : List Expr} {k : Nat} {pos : Pos} (hc : X.calm = true) (h : PGs X es (gTs is)) (hl : (assignEach es X.env).length = is.length := by rfl) (hf : List.findIdx? (fun x => x.fst) (assignEach es X.env) = none := by rfl) : PG X (.Tuple es k pos) (gTup X.K is.length (gTs is)) := pg_tup hc h hl hf
theorem ssetT {is : List Nat} {tg e : Expr} {pos : Pos} {g : E D} (h : DE pm X W e g) (hg : PG X tg (gTup X.K is.length (gTs is))) (h1 : swapsWithSole [tg] e pos.line X.env = pure false := by rfl) (h2 : swappedStores [tg] e X.env = pure none := by rfl) (h3 : List.map (fun x => x.snd) (assignEach [tg] X.env) = [assign tg X.env] := by rfl) :
    DS pm X W (.Assign [tg] e pos) (sSet (gTd is) g) := .mk' (ps_asg h.p hg h1 h2 h3) (ref_set h.r (ref_gTd is rfl))
theorem spar (i j : Nat) {pos : Pos} {x y : Str} {a b : Expr} {g : E (List D)} {px py pt : Pos} {kt k2 : Nat} {pt2 : Pos} (hc : X.calm = true) (nd : X.N.Nodup) (h : DA pm X W [a, b] g) (hij : i ≠ j := by decide) (hi : X.N[i]? = some x := by rfl) (hj : X.N[j]? = some y := by rfl)
    (hx : X.env.scope.names.lookup x = some .local := by rfl) (hy : X.env.scope.names.lookup y = some .local := by rfl)
    (h2 : swappedStores [.Tuple [.Name x px, .Name y py] kt pt] (.Tuple [a, b] k2 pt2) X.env = pure (some [x, y]) := by rfl) (h3 : swapsWithSole [.Tuple [.Name x px, .Name y py] kt pt] (.Tuple [a, b] k2 pt2) pos.line X.env = pure false := by rfl) :
    DS pm X W (.Assign [.Tuple [.Name x px, .Name y py] kt pt] (.Tuple [a, b] k2 pt2) pos) (sPar i j g) := .mk' (ps_par hc nd hi hj hij hx hy h.p h2 h3) (ref_par h.r)
theorem sput {o i e : Expr} {go gi ge : E D} {pos p2 : Pos} (he : DE pm X W e ge) (ho : DE pm X W o go) (hi : DE pm X W i gi)
    (h0 : ∀ (v : Value), assign (.Subscript o i p2) X.env v = (do
        let ov ← holding [v] (eval o X.env)
        let iv ← holding [v, ov] (eval i X.env)
        standAt p2
        holding [v, ov, iv] (setItem ov iv v)
        release [v, ov, iv] []) := by intros; rfl)
    (h1 : swapsWithSole [.Subscript o i p2] e pos.line X.env = pure false := by rfl) (h2 : swappedStores [.Subscript o i p2] e X.env = pure none := by rfl) (h3 : List.map (fun x => x.snd) (assignEach [.Subscript o i p2] X.env) = [assign (.Subscript o i p2) X.env] := by rfl) :
    DS pm X W (.Assign [.Subscript o i p2] e pos) (sPut go gi ge) := .mk' (ps_asg he.p (pg_sub ho.p hi.p set_list h0) h1 h2 h3) (ref_put he.r ho.r hi.r)
theorem spush {o e : Expr} {go ge : E D} {apos cpos pos : Pos} (ho : DE pm X W o go) (he : DE pm X W e ge) (h0 : starEach [e] X.env = (false, eval e X.env) :: starEach [] X.env := by rfl)
    (h1 : attributeBase o (Str.ofString "append") X.env (eval o X.env) = eval o X.env := by rfl)
    (h2 : (((backTo cpos (starEach [e] X.env)).all fun x => !x.fst) && ((backToKw cpos (keywordEach [] X.env)).all fun x => x.fst.isSome) && decide (([e].length + ([] : List Keyword).length + if ([] : List Keyword).isEmpty = true then 0 else 1) < 30)) = true := by rfl)
    (h3 : (apos.endLine == cpos.line) = true := by rfl) (h4 : ((backTo cpos (starEach [] X.env)).any fun x => x.fst) = false := by rfl)
    (hs : swapsWith (.Call (.Attribute o (Str.ofString "append") apos) [e] [] cpos) none pos.line X.env = pure false := by rfl) : DS pm X W (.Expr (.Call (.Attribute o (Str.ofString "append") apos) [e] [] cpos) pos) (sPush go ge) :=
  .mk' (ps_expr (pe_bm PySem.F.plainAttrs_list PySem.F.slot_list_append PySem.F.type_list_append mt_append ho.p (pa_cons he.p pa_nil h0) h1 h2 h3 h0 h4) hs) (ref_push ho.r he.r)
/-! ### loops -/
theorem ilist {tg l : Expr} {g : E D} (h : DE pm X W l g) : DI pm X W tg l (itSeq g) := .mk' (pi_list h.p) (ref_itL h.r)
theorem itup {tg l : Expr} {g : E D} (h : DE pm X W l g) : DI pm X W tg l (itTup g) := .mk' (pi_tup h.p) (ref_itT h.r)
theorem istr {tg l : Expr} {g : E D} (h : DE pm X W l g) : DI pm X W tg l (itStr g) := .mk' (pi_str h.p) (ref_itS h.r)
theorem irange1 {tg a : Expr} {g : E (List D)} {p pos : Pos} (hm : X.mg (Str.ofString "range") = none) (h : DA pm X W [a] g) (hg : Gl X (Str.ofString "range") := by rfl) (he : starEach [a] X.env = [(false, eval a X.env)] := by rfl) : DI pm X W tg (.Call (.Name (Str.ofString "range") p) [a] [] pos) (itR1 g) := .mk' (pi_range1 hg hm h.p he) (ref_itR1 h.r)
theorem irange2 {tg a b : Expr} {g : E (List D)} {p pos : Pos} (hm : X.mg (Str.ofString "range") = none) (h : DA pm X W [a, b] g) (hg : Gl X (Str.ofString "range") := by rfl) (he : starEach [a, b] X.env = [(false, eval a X.env), (false, eval b X.env)] := by rfl) (he2 : starEach [b] X.env = [(false, eval b X.env)] := by rfl) :
    DI pm X W tg (.Call (.Name (Str.ofString "range") p) [a, b] [] pos) (itR2 g) := .mk' (pi_range2 hg hm h.p he he2) (ref_itR2 h.r)
theorem sfor (i : Nat) {x : Str} {iter : Expr} {body : List Stmt} {gi : E Its} {g : S} {pos xp : Pos} (hp : PassesOwn (model X.prog X.w) X.A X.env X.xe) (hc : X.calm = true) (nd : X.N.Nodup) (hi : DI pm X W (.Name x xp) iter gi) (hb : DB pm X W body g)
    (h1 : X.N[i]? = some x := by rfl) (hl : L2.Loc X.env.scope x := by first | exact Or.inl rfl | exact Or.inr rfl) (hf : X.fn x = true ∨ X.env.scope.names.lookup x = some .local := by first | exact Or.inl rfl | exact Or.inr rfl) (hs : ∀ x : Value, foldedSetIterable iter X.env x = pure x := by intros; rfl) :
    DS pm X W (.For (.Name x xp) iter body [] pos) (sFor gi (gN i) g) := .mk' (ps_for hp hc hi.p (gname i nd h1 hl hf) hb.p hs) (ref_for hi.r (ref_gN i) hb.r)
theorem sforT (is : List Nat) {tg iter : Expr} {body : List Stmt} {gi : E Its} {g : S} {pos : Pos} (hp : PassesOwn (model X.prog X.w) X.A X.env X.xe) (hc : X.calm = true) (hg : PG X tg (gTup X.K is.length (gTs is))) (hi : DI pm X W tg iter gi) (hb : DB pm X W body g)
    (hs : ∀ x : Value, foldedSetIterable iter X.env x = pure x := by intros; rfl) : DS pm X W (.For tg iter body [] pos) (sFor gi (gTd is) g) := .mk' (ps_for hp hc hi.p hg hb.p hs) (ref_for hi.r (ref_gTd is rfl) hb.r)
theorem swhile (n : Nat) {c : Expr} {body : List Stmt} {gc : E Bool} {g : S} {pos : Pos} (hp : PassesOwn (model X.prog X.w) X.A X.env X.xe) (hc : DT pm X W c gc) (hb : DB pm X W body g) : DS pm X W (.While c body [] pos) (sWhile n gc g) := .mk' (ps_while hp hc.p hb.p) (ref_while n hc.r hb.r)
end
end Dn
/-! Dn10: the readings that the mirrors themselves give; comprehensions, raise, try; defs and calls; the law's end. -/
namespace Dn
open PySem PySem.Spec PyProof.Rows L2
section
variable {pm : Pm} {X : Cx} {W : WX}
/-- the weakest reading that a mirror meets -/
def cX {α β : Type} (K : PySem.W.Frag) (pm : Pm) (ρ : Kw → β → α → Prop) (W : WX) (g : E α) : TG' β := fun σ H Q => ∃ (κ : Kw) (v : Env) (s : Store), Wd K pm κ s H ∧ EnvOk K pm κ σ v ∧ Post K pm ρ W σ κ Q (g v s)
theorem cX_ref {α β : Type} {K : PySem.W.Frag} {ρ : Kw → β → α → Prop} {g : E α} (κ0 : Kw) : Ref K pm ρ W κ0 (cX K pm ρ W g) g := fun κ _ σ v s H Q w e p => ⟨κ, v, s, w, e, p⟩
def cS (K : PySem.W.Frag) (pm : Pm) (W : WX) (g : S) : TS := fun D σ H => ∃ (κ : Kw) (v : Env) (s : Store), Wd K pm κ s H ∧ EnvOk K pm κ σ v ∧ SPost K pm W D κ (g v s)
theorem cS_ref {K : PySem.W.Frag} {g : S} : RefS K pm W (cS K pm W g) g := fun κ0 κ _ σ v s H D w e p => ⟨κ, v, s, w, e, p⟩
theorem DE.c {e : Expr} {g : E D} (a : DE pm X W e g) : PE X e (cX X.K pm (Rep X.K pm) W g) := ⟨fun pins s σ H Q I ⟨κ, v, st, w, ev, p⟩ => a.p.run pins s σ H Q I (a.r κ κ (Le.refl κ) σ v st H Q w ev p)⟩
theorem DT.c {e : Expr} {g : E Bool} (a : DT pm X W e g) : PT X e (cX X.K pm RelB W g) := ⟨fun pins s σ H Q I ⟨κ, v, st, w, ev, p⟩ => a.p.run pins s σ H Q I (a.r κ κ (Le.refl κ) σ v st H Q w ev p)⟩
theorem DB.c {st : List Stmt} {g : S} (a : DB pm X W st g) : PSs X st (cS X.K pm W g) := ⟨fun pins s σ H Dd I ⟨κ, v, st, w, ev, p⟩ => a.p.run pins s σ H Dd I (a.r κ κ (Le.refl κ) σ v st H Dd w ev p)⟩
/-! ### comprehensions -/
/-- a target within a comprehension -/
structure GL (pm : Pm) (X : Cx) (own : List (Str × Nat)) (scope : Scope) (tg : Expr) (g : Tg) : Prop where
  ex : ∃ t : TG, RefGv X.K pm (own.map (·.2)) t g ∧ ∀ (s : Shared) (H : Hp) (C : Addr) (cl : List (Str × Addr)) (fp : List Addr), PG (X.blk s H scope (compEnvC scope cl C X.env) fp) tg t
abbrev W0 : WX := fun _ _ _ _ => False
structure QL (pm : Pm) (X : Cx) (scope : Scope) (ifs : List Expr) (g : E Bool) : Prop where
  ex : ∃ t : TT, RefT X.K pm W0 t g ∧ ∀ (s : Shared) (H : Hp) (C : Addr) (cl : List (Str × Addr)) (fp : List Addr), PTs (X.blk s H scope (compEnvC scope cl C X.env) fp) ifs t
theorem qnil {scope : Scope} : QL pm X scope [] tYes := ⟨_, ref_yes, fun _ _ _ _ _ => pts_nil⟩
theorem qone {scope : Scope} {c : Expr} {g : E Bool} (h : ∀ (s : Shared) (H : Hp) (C : Addr) (cl : List (Str × Addr)) (fp : List Addr), DT pm (X.blk s H scope (compEnvC scope cl C X.env) fp) W0 c g) : QL pm X scope [c] g :=
  ⟨cX X.K pm RelB W0 g, cX_ref, fun s H C cl fp => pts_one (h s H C cl fp).c⟩
theorem lname {own : List (Str × Nat)} {scope : Scope} {x : Str} {pos : Pos} (i : Nat) (nd : X.N.Nodup) (hm : i ∈ own.map (·.2) := by decide) (hi : X.N[i]? = some x := by rfl) (hl : ∀ (s : Shared) (H : Hp) (C : Addr) (cl : List (Str × Addr)) (fp : List Addr), Loc (X.blk s H scope (compEnvC scope cl C X.env) fp).env.scope x := by first | exact fun _ _ _ _ _ => Or.inl rfl | exact fun _ _ _ _ _ => Or.inr rfl)
    (hf : ∀ (s : Shared) (H : Hp) (C : Addr) (cl : List (Str × Addr)) (fp : List Addr), (X.blk s H scope (compEnvC scope cl C X.env) fp).fn x = true ∨ (X.blk s H scope (compEnvC scope cl C X.env) fp).env.scope.names.lookup x = some .local := by first | exact fun _ _ _ _ _ => Or.inl rfl | exact fun _ _ _ _ _ => Or.inr rfl) :
    GL pm X own scope (.Name x pos) (gN i) := ⟨gName i, ref_gNv i hm, fun s H C cl fp => pg_name nd hi (hl s H C cl fp) (hf s H C cl fp)⟩
theorem ltup {own : List (Str × Nat)} {scope : Scope} {is : List Nat} {es : List Expr} {k : Nat} {pos : Pos} (h : ∀ (s : Shared) (H : Hp) (C : Addr) (cl : List (Str × Addr)) (fp : List Addr), PG (X.blk s H scope (compEnvC scope cl C X.env) fp) (.Tuple es k pos) (gTup X.K is.length (gTs is))) (hm : ∀ i ∈ is, i ∈ own.map (·.2) := by decide) :
    GL pm X own scope (.Tuple es k pos) (gTd is) := ⟨_, ref_gTv is rfl hm, h⟩
theorem xlc (own : List (Str × Nat)) {elt tg iter : Expr} {ifs : List Expr} {scope : Scope} {pos : Pos} {gi : E Its} {gg : Tg} {gt : E Bool} {ge : E D} (hc : X.calm = true) (nd : X.N.Nodup) (hi : DI pm X W tg iter gi) (hb : BlkOk X.N X.env.scope scope own) (hg : GL pm X own scope tg gg) (ht : QL pm X scope ifs gt)
    (he : ∀ (s : Shared) (H : Hp) (C : Addr) (cl : List (Str × Addr)) (fp : List Addr), DE pm (X.blk s H scope (compEnvC scope cl C X.env) fp) W0 elt ge) (hs : ∀ x : Value, foldedSetIterable iter X.env x = pure x := by intros; rfl) :
    DE pm X W (.ListComp elt [{ target := tg, iter := iter, ifs := ifs, is_async := 0 }] scope pos) (eLc gi gg gt ge (own.map (·.2))) := by
  obtain ⟨t1, r1, p1⟩ := hg.ex
  obtain ⟨t2, r2, p2⟩ := ht.ex
  exact .mk' (pe_lc (te := cX X.K pm (Rep X.K pm) W0 ge) hc nd hi.p hb p1 p2 (fun s H C cl fp => (he s H C cl fp).c) hs) (ref_lc hi.r r1 r2 cX_ref)
/-- y = [.. for .. in ..] -/
theorem ssetLc (i : Nat) (own : List (Str × Nat)) {y : Str} {py : Pos} {elt tg iter : Expr} {ifs : List Expr} {scope : Scope} {pos spos : Pos} {gi : E Its} {gg : Tg} {gt : E Bool} {ge : E D} (hc : X.calm = true) (nd : X.N.Nodup) (hi : DI pm X W tg iter gi) (hb : BlkOk X.N X.env.scope scope own) (hg : GL pm X own scope tg gg) (ht : QL pm X scope ifs gt)
    (he : ∀ (s : Shared) (H : Hp) (C : Addr) (cl : List (Str × Addr)) (fp : List Addr), DE pm (X.blk s H scope (compEnvC scope cl C X.env) fp) W0 elt ge)
    (hsw : swapsWith (elt.ListComp [{ target := tg, iter := iter, ifs := ifs, is_async := 0 }] scope pos) (some (.Name y py)) spos.line X.env = pure true)
    (h1 : X.N[i]? = some y := by rfl) (h2 : X.env.scope.names.lookup y = some .local := by rfl) (hs : ∀ x : Value, foldedSetIterable iter X.env x = pure x := by intros; rfl) :
    DS pm X W (.Assign [.Name y py] (.ListComp elt [{ target := tg, iter := iter, ifs := ifs, is_async := 0 }] scope pos) spos) (sSet (gN i) (eLc gi gg gt ge (own.map (·.2)))) := by
  obtain ⟨t1, r1, p1⟩ := hg.ex
  obtain ⟨t2, r2, p2⟩ := ht.ex
  exact .mk' (ps_setLc (te := cX X.K pm (Rep X.K pm) W0 ge) hc nd h1 h2 hsw hi.p hb p1 p2 (fun s H C cl fp => (he s H C cl fp).c) hs) (ref_set (ref_lc hi.r r1 r2 cX_ref) (ref_gN i))
/-! ### exceptions -/
theorem sraise0 (c : Nat) {e : Expr} {pos : Pos} (hc : X.calm = true) (tk : Takes X W) (hp : PMk X e fun _ H Q => Q (.ref (pm.ca c)) none H) : DS pm X W (.Raise (some e) none pos) (sRaise0 c) := .mk' (ps_raise hc tk hp) (ref_raise0 c)
theorem sraiseW (c : Nat) {k : Nat} {fI : Addr} {a : Expr} {ga : E (List D)} {p pos rpos : Pos} {file : Str} {P : PySem.WordX.WPos} (T : PySem.WordX.WTxt X.K X.mg file (pm.ca c) fI P) (hsh : PySem.WordX.WShape P) (hfile : (X.prog.main.file == file) = true) (htop : (X.prog.main.scope.names.lookup ("super" : Str)).isSome = false) (hf : pm.cf c = [("place" : Str)])
    (hr : Room k X.A) (hc : X.calm = true) (tk : Takes X W) (ha : DA pm X W [a] ga) (hg : Gl X "InvalidWords" := by rfl)
    (he : starEach (a :: []) X.env = (false, eval a X.env) :: starEach [] X.env := by rfl) (hpl : (backTo pos (starEach [] X.env)).any (·.1) = false := by rfl) : DS pm X W (.Raise (some (.Call (.Name "InvalidWords" p) [a] [] pos)) none rpos) (sRaise1 c ga) :=
  .mk' (ps_raise hc tk (pmk_words T hsh hfile htop hr ha.p hg he hpl)) (ref_raiseW hf ha.r)
theorem stry (m i : Nat) {sub : Nat → Bool} {x n mn : Str} {c : Value} {body : List Stmt} {np pos pos' q1 q2 q3 : Pos} {g : S} (nd : X.N.Nodup) (hc : Names X x c) (tk : Takes X W) (hsub : ∀ k, PySem.W.exmOne X.K (.ref (pm.ca k)) c = some (sub k))
    (hb : ∀ (W : WX) (pn : List (Addr × Obj)) (xe : Value → Shared → Prop), Takes (X.tr pn xe) W → PassesOwn (model X.prog X.w) X.A X.env xe → DB pm (X.tr pn xe) W body g)
    (hs : X.stack = X.env :: X.outer := by rfl) (hf : X.env.frame = some X.env.locals := by rfl) (hex : X.ex = [] := by rfl) (hi : X.N[i]? = some n := by rfl) (hm : X.N[m]? = some mn := by rfl) (hln : X.env.kindOf n = some .local := by rfl) (hlm : Loc X.env.scope mn := by first | exact Or.inl rfl | exact Or.inr rfl) (hfm : X.fn mn = true ∨ X.env.scope.names.lookup mn = some .local := by first | exact Or.inl rfl | exact Or.inr rfl)
    (him : i ≠ m := by decide) (hlen : i < X.N.length := by exact Nat.le_of_ble_eq_true rfl) (hd1 : (n == ("__debug__" : Str)) = false := by decide) (hd2 : (n == ("__classdict__" : Str)) = false := by decide) (hsw : ∀ e : PySem.Env, swapsWith (.Name n q2) (some (.Name mn q1)) q3.line e = pure false := by intro _; rfl) :
    DS pm X W (.Try body [.ExceptHandler (some (.Name x np)) (some n) [.Assign [.Name mn q1] (.Name n q2) q3] pos'] [] [] pos) (sTry sub m i g) :=
  .mk' (ps_try_keep (tb := fun W => cS X.K pm W g) hs hf hex nd hi hm hln hlm hfm him hlen hc tk hd1 hd2 (fun W pn xe tk hp => (hb W pn xe tk hp).c) hsw) (ref_try hsub fun W => cS_ref)
end
/-! ### defs and calls -/
structure FnG (P : Program) (w : World) (K : PySem.W.Frag) (mg : Str → Option Value) (base : Heap) (k : Nat) (f : Addr) (fd : FuncData) (ps : List Str) (sp : Sp) : Prop where
  len : ∀ vs H Q E, sp vs H Q E → vs.length = ps.length
  go : ∀ (A : Around) (outer : List PySem.Env) (s : Shared) (H : Hp) (ar : Args) (us : List Value) (vs : List V) (Q : VK) (E : XK), A.guards = some [] → Room k A → Env0 P w K mg base A outer s H → BindsTo s fd ar (ps.zip us) → Vals vs us →
    sp vs H Q E → codeAny (model P w) A (.call (.ref f) ar) (CR (L2.CX P w) outer P w H s Q E) s
section
variable {P : Program} {w : World} {K : PySem.W.Frag} {mg : Str → Option Value} {base : Heap} {k : Nat} {f : Addr} {fd : FuncData} {ps : List Str} {sp : Sp} {pm : Pm}
theorem FnG.of (F : FnOk P w K mg base (L2.CX P w) k f fd ps sp) : FnG P w K mg base k f fd ps sp := ⟨F.len, fun A outer s H ar us vs Q E _ => F.run A outer s H ar us vs Q E⟩
theorem FnG.mono {j : Nat} (F : FnG P w K mg base j f fd ps sp) (h : j ≤ k) : FnG P w K mg base k f fd ps sp := ⟨F.len, fun A outer s H ar us vs Q E g r => F.go A outer s H ar us vs Q E g (r.mono h)⟩
/-- a def of the module from its body's mirror -/
theorem fnD {x qual : Str} {params : Arguments} {body : List Stmt} {scope : Scope} {dvs : List V} {kws : List (Str × V)} {N : List Str} {g : S} (F : FunD K x qual params body scope dvs kws f fd) (S : FnScope N ps scope)
    (hb : ∀ (cdv : Value) (A : Around) (outer : List PySem.Env) (s : Shared) (H : Hp) (E : XK), A.guards = some [] → Room k (A.deeper (envOfC qual scope s.heap.objs.size f cdv)) →
      DB pm (cxOf (L2.CX P w) P w K mg base N qual scope f cdv A outer s H E) (fun cls d _ H => E cls d H) body g) : FnG P w K mg base (k + 1) f fd ps (spD K pm (Dn.body N.length ps.length g)) := by
  obtain ⟨oc, od, dV, kV, doc, pmm, an, cdv, ct, osl, rfl, lk, hcd, _, _⟩ := F.ex
  refine ⟨fun vs H Q E h => spD_len h, fun A outer s H ar us vs Q E hg hr e0 hbd r hsp => ?_⟩
  have hl := spD_len hsp
  have KX : K.In s.heap := e0.mod.kin.keeps fun b o e => (e0.bs b o e).1
  have lim := e0.mod.nolimit.keeps fun b o e => (e0.bs b o e).1
  refine codeAny_call_function hr.depth (KX _ _ lk) rfl S.co S.gen rfl
    (PySem.W.codeRec_of KX hcd) (hbd _ _ _ _ ?_)
  refine wpAny_newFunctionEnv_cells S.kind
    (fun ⟨n, v⟩ hy => (S.par n (List.of_mem_zip hy).1).imp id fun q => ⟨q, PySem.W.cellsFrom_some _ _ _ (.inl q)⟩)
    fun env he s1 x => ?_
  subst he
  refine ⟨lim.keeps x.toInCall.keep, codeAny_func ?_⟩
  have B := hb cdv A outer s H E hg (hr.deeper _)
  have I : Inv (cxOf (L2.CX P w) P w K mg base N qual scope f cdv A outer s H E) [] (start N vs) H s1 :=
    inv_start S hr.hd e0 hl r x
  have hq := body_spD (N := N) (t := B.t) B.r hsp
  refine wpAny_mono (B.p.run [] s1 (start N vs) H _ I hq) (fun fl s' hs => ?_) fun e s' hs => hs
  cases fl with
  | ret u => exact hs.elim fun v ⟨σ', H', J, rv, q⟩ => ⟨v, H', J.os, J.bare, J.base, J.hok, rv, q⟩
  | next => exact hs.elim fun σ' ⟨H', J, q⟩ => ⟨.non, H', J.os, J.bare, J.base, J.hok, rfl, q⟩
  | brk => exact hs.elim fun _ ⟨_, _, q⟩ => q.elim
  | cont => exact hs.elim fun _ ⟨_, _, q⟩ => q.elim
end
section
variable {pm : Pm} {X : Cx} {W : WX}
theorem xcall {k : Nat} {f : Addr} {fd : FuncData} {ps : List Str} {h : Fn} {x : Str} {p pos : Pos} {e : Expr} {es : List Expr} {g : E (List D)} (G : FnG X.prog X.w X.K X.mg X.base k f fd ps (spD X.K pm h)) (hr : Room k X.A) (hgd : X.A.guards = some []) (hm : X.mg x = some (.ref f)) (hk : PySem.W.keepIn X.K (.ref f) = true) (hb : Binds X.K fd ps []) (tk : Takes X W)
    (ha : DA pm X W (e :: es) g) (hg : Gl X x := by rfl) (hdb : (x == ("__debug__" : Str)) = false := by decide) (he : starEach (e :: es) X.env = (false, eval e X.env) :: starEach es X.env := by rfl) (hpl : (backTo pos (starEach es X.env)).any (·.1) = false := by rfl) :
    DE pm X W (.Call (.Name x p) (e :: es) [] pos) (eCall h g) := by
  refine .mk' (t := tCallS (spD X.K pm h) (WE W) ha.t) ⟨fun pins s σ H Q I q => ?_⟩ (ref_call ha.r)
  refine wpAny_Call_Name_kw (ld_glob I hg hm ?_ hdb)
  refine PySem.W.callWith_K (h₀ := X.base) I.ok.mod.kin hk (thn (ha.p.run pos pins s σ H _ I q) ?_) he hpl
  rintro us s1 ⟨vs, H1, I1, r, q1⟩
  refine ⟨I1.kIn, ?_⟩
  have hl : (us ++ []).length = ps.length := by
    rw [List.append_nil, ← r.length]
    exact G.len _ _ _ _ q1
  have b := hb s1 us I1.kIn hl
  rw [List.append_nil] at b
  refine wpAny_call (codeAny_mono (G.go X.A X.stack s1 H1 ⟨us, []⟩ us vs Q (WE W σ) hgd hr I1.env0 b r q1) ?_)
  intro o s' hq
  cases o with
  | error u => exact passAt tk σ pins H1 s1 u s' I1 hq
  | ok fl =>
    cases fl with
    | ret u => exact I1.after hq
    | _ => exact False.elim hq
end
end Dn
/-! Dn11: a law's end over the mirrors. -/
namespace Dn
open PySem PySem.Spec PyProof.Rows L2
section
variable {P : Program} {w : World} {K : PySem.W.Frag} {mg mb : Str → Option Value} {k : Nat} {fa a : Addr} {fd : FuncData} {x : Str} {pm : Pm} {g : Fn} {s₁ : Shared} {vs : List Value} {ns : List Int}
/-- the script alone: what the law starts from -/
theorem start_spD {H : Hp} (hS : SqL K H a (ns.map V.int)) (hg : ∃ s, g [.fro (ns.map D.int)] [] = .ok (.bl true) s) : spD K pm g [.ref a] H (fun v _ => v = .bl true) fun _ _ _ => False := by
  obtain ⟨s, e⟩ := hg
  refine ⟨⟨H, [], fun _ => none⟩, [], [.fro (ns.map D.int)], ⟨fun _ _ e => e, fun _ _ e => (nomatch e), rfl, .nil, fun i b m e => ?_, fun i b e => ?_⟩, .one (.fro hS (RepAll.ofInts ns)), ?_⟩
  · simp at e
  · simp at e
  · rw [e]
    intro y κ' H' _ _ r
    cases r
    rfl
theorem law_callG (KX : K.In s₁.heap) (hns : s₁.heap.Ns mainGlobals mg) (hb : s₁.heap.Ns builtinsNs mb) (hbb : ∀ x : Str, x ≠ "__name__" → mb x = bootBuiltins x) (hlim : s₁.heap.NoLimit) (hg : s₁.gens = #[])
    (ha : s₁.heap.get? a = some { cls := .type "list", data := .seq vs.toArray }) (hi : IntsAre vs ns) (hl : ns.length ≤ sizeLine) (hr : Room k callerA) (hbind : ∀ (s : Shared) (u : Value), BindsTo s fd ⟨[u], []⟩ [(x, u)])
    (F : ∀ base : Heap, K.In base → base.Ns mainGlobals mg → FnG P w K mg base k fa fd [x] (spD K pm g)) (hgo : ∃ s, g [.fro (ns.map D.int)] [] = .ok (.bl true) s) :
    codeAny (model P w) callerA (.call (.ref fa) ⟨[.ref a], []⟩) (fun r s' => r = .ok (.ret (.bool true)) ∧ OldK s₁.heap s'.heap ∧ s'.os = s₁.os ∧ AllBare s'.gens) s₁ := by
  have lenV := hi.length
  have rv := vals_ints hi
  -- H tracks the script at most
  have main : ∀ H : Hp, (∀ b, H b = none ∨ (b = a ∧ K.lookup a = none ∧ ∃ ob xs, H b = some (.frz ob xs))) → SqL K H a (ns.map V.int) → HOk P w H s₁.heap → codeAny (model P w) callerA (.call (.ref fa) ⟨[.ref a], []⟩)
      (fun r s' => r = .ok (.ret (.bool true)) ∧ OldK s₁.heap s'.heap ∧ s'.os = s₁.os ∧ AllBare s'.gens) s₁ := fun H hO hS hok => by
    have get : ∀ {b : Addr} {o : Obj}, s₁.heap.get? b = some o → H b = none → (hidT s₁.heap H).get? b = some o := fun q n => hidT_get q n
    have dicts : ∀ {b : Addr} {o : Obj} {es : Array DictEntry} {ep : Nat}, s₁.heap.get? b = some o → o.data = .dict es ep → H b = none := fun {b o es ep} q d => (hO b).elim id fun z => by
      rw [z.1, ha] at q
      cases q
      cases d
    have nss : ∀ {b : Addr} {m : Str → Option Value}, s₁.heap.Ns b m → (hidT s₁.heap H).Ns b m := fun z =>
      z.elim fun o ⟨es, ep, q, d, r⟩ => ⟨o, es, ep, get q (dicts q d), d, r⟩
    have kin : K.In (hidT s₁.heap H) := fun b o q => get (KX b o q) ((hO b).elim id fun z => by
      rw [z.1, z.2.1] at q
      cases q)
    have M : Mod K mg (hidT s₁.heap H) := ⟨kin, nss hns, ⟨mb, nss hb, hbb⟩, hlim.elim fun mc q => ⟨mc, nss q.1, q.2⟩⟩
    have e0 : Env0 P w K mg (hidT s₁.heap H) callerA [] s₁ H :=
      ⟨rfl, M, fun b o q => of_hidT q, Nat.le_of_eq (hidT_size _ _), trivial, fun b z => (List.not_mem_nil z).elim, hok, .of_eq hg⟩
    refine codeAny_mono ((F _ kin (nss hns)).go callerA [] s₁ H ⟨[.ref a], []⟩ [.ref a] [.ref a] _ _ rfl hr e0 (hbind s₁ (.ref a)) (.cons rfl .nil) (start_spD hS hgo)) fun r s' h => ?_
    cases r with
    | error e =>
      obtain ⟨_, _, _, _, _, _, _, _, _, _, _, _, z⟩ := h
      exact z.elim
    | ok fl =>
      cases fl with
      | ret u =>
        obtain ⟨v, H', os, bare, un, hok', ru, q⟩ := h
        have q : v = .bl true := q
        subst q
        cases (show u = Value.bool true from ru)
        refine ⟨rfl, OldK.of_keep fun b o eb => ?_, os, bare⟩
        rcases hO b with z | ⟨_, _, ob, xs, z⟩
        · exact un.keep b o eb z List.not_mem_nil List.not_mem_nil
        · have e1 := (hok b _ z).1
          rw [eb] at e1
          cases e1
          exact (hok' b _ (un.frzs b _ _ z)).1
      | _ => exact False.elim h
  cases hk : K.lookup a with
  | some o =>
    have q := KX a o hk
    rw [ha] at q
    cases q
    exact main (fun _ => none) (fun _ => .inl rfl) (.inr ⟨_, vs.toArray, _, hk, rfl, rfl, rfl, by rw [List.size_toArray, lenV]; exact hl, by simpa using rv⟩) fun b u z => nomatch z
  | none =>
    let o : Obj := { cls := .type "list", data := .seq vs.toArray }
    refine main (fun b => if b = a then some (.frz o (.lst (ns.map V.int))) else none) (fun b => ?_) (.inl (.inr ⟨o, if_pos rfl⟩)) fun b u z => ?_
    · by_cases h : b = a
      · exact .inr ⟨h, hk, o, _, if_pos h⟩
      · exact .inl (if_neg h)
    · by_cases h : b = a
      · have z := (if_pos h).symm.trans z
        cases z
        subst h
        exact ⟨ha, by rw [List.length_map]; exact hl, vs, _, rv, ha⟩
      · have z := (if_neg h).symm.trans z
        cases z
end
theorem walk_ofG {l : PySem.W.OpenLaw} {n k : Nat} {q : Program} {loose : List Str} {XP : (Str → Option Value) → Heap → Prop} {YP : World → Heap → Prop} {d : DefRec} {x : Str} {g : Fn} (hn : l.most = some n) (hn2 : n ≤ sizeLine) (hdf : d.params.defaults = []) (hr : Room k callerA)
    (F : ∀ (w : World) (mg : Str → Option Value) (fa : Addr) (h : Heap), YP w h → h.Ns mainGlobals mg → mg d.name = some (.ref fa) → ∃ (K : PySem.W.Frag) (pm : Pm) (fd : FuncData), K.In h ∧ (∀ (s : Shared) (u : Value), BindsTo s fd ⟨[u], []⟩ [(x, u)]) ∧
        ∀ base : Heap, K.In base → base.Ns mainGlobals mg → FnG l.prog w K mg base k fa fd [x] (spD K pm g))
    (hgo : ∀ ns : List Int, ns.length ≤ n → ∃ s, g [.fro (ns.map D.int)] [] = .ok (.bl true) s) : PySem.W.WalkO q loose XP YP l.row.toRowW d [] (fun f vs => PySem.call f vs) :=
  Att.attach_call hn hdf fun w s₀ s₁ mg mb fa o pmd cd doc a vs ns G Y ho hd hcd hmg hobj hints hlen hg => by
    obtain ⟨K, pm, fd, KX, hb, hF⟩ := F w mg fa _ Y G.T.g hmg
    exact law_callG KX G.T.g G.T.b G.T.builtins G.T.nolimit hg hobj hints (Nat.le_trans hlen hn2) hr hb hF (hgo ns hlen)
end Dn
/-! Dn12: what a head tells: own checks beside the defs, the class InvalidWords, constants. -/
namespace Dn
open PySem PySem.Spec PyProof.Rows L2
/-! ### constants of the module -/
mutual
def repB (K : PySem.W.Frag) : D → Value → Bool
  | .non, .none => true
  | .bl b, .bool c => b == c
  | .int i, .int j _ => decide (i = j)
  | .str x, .str y _ => decide (x = y)
  | .tup l, .ref a => (match K.lookup a with
    | some ⟨.type c, _, .seq its _, _⟩ => decide (c = "tuple") && (decide (its.size ≤ sizeLine) && repBs K l its.toList)
    | _ => false)
  | .fro l, .ref a => (match K.lookup a with
    | some ⟨.type c, none, .seq its _, _⟩ => decide (c = "list") && (decide (its.size ≤ sizeLine) && repBs K l its.toList)
    | _ => false)
  | _, _ => false
def repBs (K : PySem.W.Frag) : List D → List Value → Bool
  | [], [] => true
  | d :: l, u :: us => repB K d u && repBs K l us
  | _, _ => false
end
mutual
theorem repB_ok {K : PySem.W.Frag} {pm : Pm} : ∀ {d : D} {u : Value}, repB K d u = true → ∃ v, RelV v u ∧ ∀ κ, Rep K pm κ v d
  | .non, u, h => by
    cases u with
    | none => exact ⟨.non, rfl, fun _ => .non⟩
    | _ => simp [repB] at h
  | .bl b, u, h => by
    cases u with
    | bool c =>
      have e : b = c := by simpa [repB] using h
      subst e
      exact ⟨.bl b, rfl, fun _ => .bl b⟩
    | _ => simp [repB] at h
  | .int i, u, h => by
    cases u with
    | int j t =>
      have e : i = j := by simpa [repB] using h
      subst e
      exact ⟨.int i, ⟨t, rfl⟩, fun _ => .int i⟩
    | _ => simp [repB] at h
  | .str x, u, h => by
    cases u with
    | str y t =>
      have e : x = y := by simpa [repB] using h
      subst e
      exact ⟨.str x, ⟨t, rfl⟩, fun _ => .str x⟩
    | _ => simp [repB] at h
  | .tup l, u, h => by
    cases u with
    | ref a =>
      simp only [repB] at h
      split at h
      · rename_i c dd its n sl q
        simp only [Bool.and_eq_true, decide_eq_true_eq] at h
        obtain ⟨h1, h2, h3⟩ := h
        obtain ⟨vs, r1, r2⟩ := repBs_ok h3
        exact ⟨.ref a, rfl, fun κ => .tup (.inr ⟨_, its, n, q, congrArg Value.type h1, rfl, h2, r1⟩) (r2 κ)⟩
      · cases h
    | _ => simp [repB] at h
  | .fro l, u, h => by
    cases u with
    | ref a =>
      simp only [repB] at h
      split at h
      · rename_i c its n sl q
        simp only [Bool.and_eq_true, decide_eq_true_eq] at h
        obtain ⟨h1, h2, h3⟩ := h
        obtain ⟨vs, r1, r2⟩ := repBs_ok h3
        exact ⟨.ref a, rfl, fun κ => .fro (.inr ⟨_, its, n, q, congrArg Value.type h1, rfl, rfl, h2, r1⟩) (r2 κ)⟩
      · cases h
    | _ => simp [repB] at h
  | .lst _, u, h => by simp [repB] at h
  | .hnd _, u, h => by simp [repB] at h
  | .exc _ _, u, h => by simp [repB] at h
  | .cls _, u, h => by simp [repB] at h
theorem repBs_ok {K : PySem.W.Frag} {pm : Pm} : ∀ {l : List D} {us : List Value}, repBs K l us = true → ∃ vs, Vals vs us ∧ ∀ κ, RepAll K pm κ vs l
  | [], us, h => by
    cases us with
    | nil => exact ⟨[], .nil, fun _ => .nil⟩
    | cons u us => simp [repBs] at h
  | d :: l, us, h => by
    cases us with
    | nil => simp [repBs] at h
    | cons u us =>
      simp only [repBs, Bool.and_eq_true] at h
      obtain ⟨v, a, b⟩ := repB_ok h.1
      obtain ⟨vs, a2, b2⟩ := repBs_ok h.2
      exact ⟨v :: vs, .cons a a2, fun κ => .cons (b κ) (b2 κ)⟩
end
def gvB (x : Str) (d : D) (K : PySem.W.Frag) : Bool := match PySem.W.nsIn K mainGlobals x with
  | some (some u) => repB K d u
  | _ => false
theorem gvB_ok {K : PySem.W.Frag} {pm : Pm} {h : Heap} {mg : Str → Option Value} (X : K.In h) (G : h.Ns mainGlobals mg) {x : Str} {d : D} (c : gvB x d K = true) : GV pm K mg x d := by
  unfold gvB at c
  split at c
  · rename_i u q
    obtain ⟨v, a, b⟩ := repB_ok (pm := pm) c
    exact ⟨v, u, PySem.W.mg_of X G q, a, b⟩
  · cases c
/-! ### InvalidWords -/
open PySem.W PySem.HandSPX PySem.Calls in
def wClsB (K : PySem.W.Frag) (C : Addr) : Bool := match K.lookup C with
  | some ⟨.type "type", _, .cls cd, sl⟩ => (match cd.mro, sl.toList with
    | .ref C' :: bm, [_, _, _, _, some (.builtin n), _] => decide (C' = C) && (decide (n = "ValueError.__new__") && (!cd.hasDel && (cd.hasDict && refsVE bm)))
    | _, _ => false)
  | _ => false
open PySem.W PySem.HandSPX PySem.Calls in
theorem wClsB_ok {K : PySem.W.Frag} {C : Addr} (q : wClsB K C = true) :
    ∃ nm q N bs bm sn sub ab col dd k0 k1 k2 k3 k5, K.lookup C = some (excClassObj nm q C N bs bm true sn sub ab col dd k0 k1 k2 k3 k5 "ValueError.__new__") ∧ refsVE bm = true := by
  unfold wClsB at q
  split at q
  · rename_i dd cd sl ho
    split at q
    · rename_i C' bm k0 k1 k2 k3 n k5 hm hs
      simp only [Bool.and_eq_true, decide_eq_true_eq, Bool.not_eq_true'] at q
      obtain ⟨rfl, rfl, hdel, hdct, ht⟩ := q
      obtain ⟨nm, bs, mro, ns, qn, hd, sn, sub, ab, col, del⟩ := cd
      dsimp only at hm hdel hdct
      subst hm hdel hdct
      obtain ⟨l⟩ := sl
      simp only at hs
      subst hs
      exact ⟨nm, qn, ns, bs, bm, sn, sub, ab, col, dd, k0, k1, k2, k3, k5, ho, ht⟩
    · cases q
  · cases q
abbrev IniW : Type := Option (Str × Str × Arguments × FuncBody × Scope × Addr × List Str × Value × Value × Addr)
/-- the __init__ of a module's class -/
def iniW (K : PySem.W.Frag) (x : Str) : IniW := match K.lookup (He.ma K (He.ga K x) "__init__") with
  | some ⟨_, _, .func fd, _⟩ => some (fd.name, fd.qualname, fd.params, fd.body, fd.scope, fd.globals, fd.closure.map (·.1), fd.defaults, fd.kwdefaults, fd.builtins)
  | _ => none
def wIni (P : PySem.WordX.WPos) : IniW := some ("__init__", "InvalidWords.__init__", PySem.WordX.wA P.p1 P.p2, .stmts (PySem.WordX.wB P.msg P.a1 P.a2 P.a3 P.a4 P.a5 P.a6 P.b1 P.b2 P.b3 P.b4), PySem.WordX.wS, mainGlobals, ["__class__"], .none, .none, builtinsNs)
def wFnB (file : Str) (K : PySem.W.Frag) : Bool := match K.lookup (He.ma K (He.ga K "InvalidWords") "__init__") with
  | some ⟨_, _, .func fd, _⟩ => PySem.W.codeIn K fd.code "InvalidWords.__init__" && (match fd.closure, fd.code with
    | [(_, cc)], .ref cda => (match K.lookup cc with
      | some ⟨_, _, .cell (some (.ref C')), _⟩ => decide (C' = He.ga K "InvalidWords")
      | _ => false) && (match K.lookup cda with
      | some ⟨_, _, .fields vs, _⟩ => (match (vs[2]? : Option Value) with
        | some (.str f _) => decide (f = file)
        | _ => false)
      | _ => false)
    | _, _ => false)
  | _ => false
def wordsB (file : Str) (K : PySem.W.Frag) : Bool :=
  let C := He.ga K "InvalidWords"
  let fI := He.ma K C "__init__"
  He.eqO (PySem.W.nsIn K mainGlobals "InvalidWords") (some (some (.ref C))) && (He.eqO (PySem.W.nsIn K mainGlobals "super") (some none) && (wClsB K C && (He.eqO (PySem.W.findIn K (.ref C) "__setattr__") (some (some (.builtin "object.__setattr__"))) &&
  (He.eqO (PySem.W.findIn K (.ref C) "place") (some none) && (He.eqO (PySem.W.findIn K (.ref C) "__init__") (some (some (.ref fI))) && (decide (PySem.W.typeIn K (.ref fI) = some (.type "function")) && (PySem.W.keepIn K (.ref C) &&
  (decide (PySem.W.subIn K (.ref C) (.type "BaseException") = some true) && (decide (PySem.W.subIn K (.ref C) (.type "ValueError") = some true) && (decide (PySem.W.typeIn K (.ref C) = some (.type "type")) &&
  (He.eqO (PySem.W.ks_superIn K C C "__init__") (some (some (.builtin "ValueError.__init__"))) && (decide (PySem.W.mroIn K C (.ref C) = some true) && (He.eqO (PySem.W.nsIn K cStatics "thirdparty.any") (some none) && (wFnB file K && xfB K C))))))))))))))
theorem wFn_ok {K : PySem.W.Frag} {file : Str} {P : PySem.WordX.WPos} (h : wFnB file K = true) (hi : iniW K "InvalidWords" = wIni P) :
    ∃ (oc : Value) (od : Option Addr) (doc pm : Value) (an : Option Addr) (cda : Addr) (ct : Value) (cc : Addr) (osl : Array (Option Value)),
    K.lookup (He.ma K (He.ga K "InvalidWords") "__init__") = some ⟨oc, od, .func (PySem.W.ksFn "__init__" "InvalidWords.__init__" (PySem.WordX.wA P.p1 P.p2) (PySem.WordX.wB P.msg P.a1 P.a2 P.a3 P.a4 P.a5 P.a6 P.b1 P.b2 P.b3 P.b4) PySem.WordX.wS .none .none doc pm an (.ref cda) ct cc), osl⟩ ∧ PySem.W.codeIn K (.ref cda) "InvalidWords.__init__" = true ∧
      (∃ cl cld csl, K.lookup cc = some ⟨cl, cld, .cell (some (.ref (He.ga K "InvalidWords"))), csl⟩) ∧ ∃ ccl cdd vs ccs tf, K.lookup cda = some ⟨ccl, cdd, .fields vs, ccs⟩ ∧ vs[2]? = some (.str file tf) := by
  unfold wFnB at h
  unfold iniW wIni at hi
  split at h
  · rename_i oc od fd osl q
    rw [q] at hi
    obtain ⟨n1, n2, n3, n4, n5, n6, n7, n8, n9, n10, n11, n12, n13, n14, n15⟩ := fd
    simp only [Option.some.injEq, Prod.mk.injEq] at hi
    obtain ⟨rfl, rfl, rfl, rfl, rfl, rfl, h7, rfl, rfl, rfl⟩ := hi
    obtain ⟨h1, h2⟩ := Bool.and_eq_true_iff.mp h
    split at h2
    · rename_i x cc cda hc hd
      dsimp only at hc hd h1
      subst hc hd
      obtain ⟨h3, h4⟩ := Bool.and_eq_true_iff.mp h2
      have hx : x = "__class__" := by simpa using h7
      subst hx
      refine ⟨oc, od, n10, n11, n12, cda, n14, cc, osl, q, h1, ?_, ?_⟩
      · split at h3
        · rename_i a b C' c q3
          have e := of_decide_eq_true h3
          subst e
          exact ⟨_, _, _, q3⟩
        · cases h3
      · split at h4
        · rename_i a b vs c q4
          split at h4
          · rename_i f t q5
            have e := of_decide_eq_true h4
            subst e
            exact ⟨_, _, vs, _, t, q4, q5⟩
          · cases h4
        · cases h4
    · cases h2
  · cases h
theorem words_ok {K : PySem.W.Frag} {file : Str} {P : PySem.WordX.WPos} {h : Heap} {mg : Str → Option Value} (X : K.In h) (G : h.Ns mainGlobals mg) (c : wordsB file K = true) (hi : iniW K "InvalidWords" = wIni P) :
    PySem.WordX.WTxt K mg file (He.ga K "InvalidWords") (He.ma K (He.ga K "InvalidWords") "__init__") P ∧ XfC K (He.ga K "InvalidWords") := by
  unfold wordsB at c
  simp only [Bool.and_eq_true, decide_eq_true_eq] at c
  obtain ⟨c1, c2, c3, c4, c5, c6, c7, c8, c9, c10, c11, c12, c13, c14, c15, c16⟩ := c
  exact ⟨⟨PySem.W.mg_of X G (He.eqO_ok c1), PySem.W.mg_none_of X G (He.eqO_ok c2), wClsB_ok c3, He.eqO_ok c4, He.eqO_ok c5, He.eqO_ok c6, c7, c8, c9, c10, c11, He.eqO_ok c12, c13, He.eqO_ok c14, wFn_ok c15 hi⟩, xfB_ok c16⟩
/-! ### the hook -/
def as2 (g : Addr → Option Obj) (n : Nat) : List Addr := He.asD g n ++ [cStatics]
abbrev Al : Type := Bool × List He.FnW × List IniW
/-- what is looked at: checks, defs, the classes with an __init__ of their own -/
structure HB where
  cs : List (PySem.W.Frag → Bool)
  fn : List He.DefD
  ws : List (Str × IniW)
def HB.see (b : HB) (K : PySem.W.Frag) : Al := ((b.cs.all fun f => f K) && b.fn.all fun d => d.ok K, b.fn.map fun d => He.fnW K d.at_, b.ws.map fun w => iniW K w.1)
def HB.due (b : HB) : Al := (true, b.fn.map He.DefD.val, b.ws.map (·.2))
def HB.says (b : HB) (K : PySem.W.Frag) : Prop := b.see K = b.due
def HB.ob (b : HB) (n : Nat) (g : Addr → Option Obj) : Al := b.see (He.frG g (as2 g n))
def HB.hook (b : HB) (n : Nat) : PySem.W.Hook where
  α := Al
  obs := fun s => b.ob n s.heap.get?
  val := fun _ => b.due
  says := fun _ h => ∃ K : PySem.W.Frag, K.In h ∧ b.says K
  of := fun _ _ e => ⟨_, He.frG_in, e⟩
  keeps := fun _ _ _ ⟨K, hK, c⟩ k => ⟨K, PySem.W.Frag.In.keeps hK k, c⟩
theorem HB.ob_eq {b : HB} {n : Nat} {g : Addr → Option Obj} {s : Shared} (h : ∀ a, g a = s.heap.get? a) : b.ob n g = (b.hook n).obs s := by
  have e : g = s.heap.get? := funext h
  rw [e] <;> rfl
section
variable {b : HB} {K : PySem.W.Frag}
theorem HB.says.fact (c : b.says K) (i : Nat) {f : PySem.W.Frag → Bool} (h : b.cs[i]? = some f := by rfl) : f K = true :=
  List.all_eq_true.mp (He.ba (show ((b.cs.all fun f => f K) && b.fn.all fun d => d.ok K) = true from congrArg (fun z : Al => z.1) c)).1 f (List.mem_of_getElem? h)
theorem HB.says.def_ (c : b.says K) (i : Nat) {d : He.DefD} (h : b.fn[i]? = some d := by rfl) : ∃ fd, FunD K d.name d.qual d.params d.body d.scope (d.dvs K) (d.kws K) (He.fAd K d.at_) fd := by
  have c2 := (He.ba (show ((b.cs.all fun f => f K) && b.fn.all fun d => d.ok K) = true from congrArg (fun z : Al => z.1) c)).2
  have e : b.fn.map (fun d => He.fnW K d.at_) = b.fn.map He.DefD.val := congrArg (fun z : Al => z.2.1) c
  have e2 : (b.fn.map fun d => He.fnW K d.at_)[i]? = (b.fn.map He.DefD.val)[i]? := by rw [e]
  rw [List.getElem?_map, List.getElem?_map, h] at e2
  exact He.DefD.funD (Option.some.inj e2) (List.all_eq_true.mp c2 d (List.mem_of_getElem? h))
theorem HB.says.ini (c : b.says K) (i : Nat) {w : Str × IniW} (h : b.ws[i]? = some w := by rfl) : iniW K w.1 = w.2 := by
  have e : b.ws.map (fun w => iniW K w.1) = b.ws.map (·.2) := congrArg (fun z : Al => z.2.2) c
  have e2 : (b.ws.map fun w => iniW K w.1)[i]? = (b.ws.map (·.2))[i]? := by rw [e]
  rw [List.getElem?_map, List.getElem?_map, h] at e2
  exact Option.some.inj e2
end
/-! ### classes by number -/
/-- classes: a name, the fields of its exceptions; the last one stands for all further numbers -/
def pmOf (K : PySem.W.Frag) (l : List (Str × List Str)) (z : Str) : Pm := ⟨fun n => He.ga K ((l[n]?.map (·.1)).getD z), fun n => (l[n]?.map (·.2)).getD []⟩
/-- which of them the clause except y takes; b: whether it takes z -/
def subB (l : List (Str × List Str)) (z y : Str) (t : List Bool) (b : Bool) (K : PySem.W.Frag) : Bool := decide (l.length = t.length) && (decide (PySem.W.exmOne K (.ref (He.ga K z)) (.ref (He.ga K y)) = some b) && (l.zip t).all fun q => decide (PySem.W.exmOne K (.ref (He.ga K q.1.1)) (.ref (He.ga K y)) = some q.2))
theorem subB_ok {K : PySem.W.Frag} {l : List (Str × List Str)} {z y : Str} {t : List Bool} {b : Bool} (h : subB l z y t b K = true) (k : Nat) : PySem.W.exmOne K (.ref ((pmOf K l z).ca k)) (.ref (He.ga K y)) = some ((t[k]?).getD b) := by
  unfold subB at h
  simp only [Bool.and_eq_true, decide_eq_true_eq] at h
  obtain ⟨h1, h2, h3⟩ := h
  show PySem.W.exmOne K (.ref (He.ga K ((l[k]?.map (·.1)).getD z))) _ = _
  by_cases hk : k < l.length
  · have hk2 : k < t.length := by omega
    have m : (l[k], t[k]) ∈ l.zip t := by
      refine List.mem_iff_getElem.mpr ⟨k, by simp; omega, by simp⟩
    have q := List.all_eq_true.mp h3 _ m
    rw [List.getElem?_eq_getElem hk, List.getElem?_eq_getElem hk2]
    exact of_decide_eq_true q
  · rw [List.getElem?_eq_none (by omega), List.getElem?_eq_none (by omega)]
    exact h2
end Dn
/-! Dn13: what is walked, by its kind; defs as data. -/
namespace Dn
open PySem PySem.Spec PyProof.Rows L2
section
variable {pm : Pm} {X : Cx} {W : WX}
def tOrI (t u : TI) : TI := fun σ H R => t σ H R ∨ u σ H R
theorem pi_either {tg iter : Expr} {t u : TI} (a : PI X tg iter t) (b : PI X tg iter u) : PI X tg iter (tOrI t u) := ⟨fun pins s σ H R I h => h.elim (a.run pins s σ H R I) (b.run pins s σ H R I)⟩
/-- list, tuple, text -/
def itAny (a : E D) : E Its := eThen a fun d => retS fun s => match d with
  | .lst l => some ⟨l, fun _ => true⟩
  | .fro l => some ⟨l, fun _ => true⟩
  | .tup l => some ⟨l, fun _ => true⟩
  | .str z => some ⟨z.cps.toList.map fun c => .str ⟨#[c]⟩, fun _ => true⟩
  | _ => none
theorem ref_any {K : PySem.W.Frag} {t1 t2 t3 : TI} {ga : E D} (h1 : RefI K pm W t1 (itSeq ga)) (h2 : RefI K pm W t2 (itTup ga)) (h3 : RefI K pm W t3 (itStr ga)) : RefI K pm W (tOrI t1 (tOrI t2 t3)) (itAny ga) := fun κ0 κ l σ v s H Q w e p => by
  unfold itAny eThen at p
  cases q : ga v s with
  | no =>
    rw [q] at p
    exact p.elim
  | ex x s1 =>
    refine .inl (h1 κ0 κ l σ v s H Q w e ?_)
    unfold itSeq eThen
    rw [q] at p ⊢
    exact p
  | ok d s1 =>
    rw [q] at p
    cases d with
    | lst xs =>
      refine .inl (h1 κ0 κ l σ v s H Q w e ?_)
      unfold itSeq eThen
      rw [q]
      exact p
    | fro xs =>
      refine .inl (h1 κ0 κ l σ v s H Q w e ?_)
      unfold itSeq eThen
      rw [q]
      exact p
    | tup xs =>
      refine .inr (.inl (h2 κ0 κ l σ v s H Q w e ?_))
      unfold itTup eThen
      rw [q]
      exact p
    | str z =>
      refine .inr (.inr (h3 κ0 κ l σ v s H Q w e ?_))
      unfold itStr eThen
      rw [q]
      exact p
    | _ => exact p.elim
theorem iany {tg l : Expr} {g : E D} (h : DE pm X W l g) : DI pm X W tg l (itAny g) := .mk' (pi_either (pi_list h.p) (pi_either (pi_tup h.p) (pi_str h.p))) (ref_any (ref_itL h.r) (ref_itT h.r) (ref_itS h.r))
end
/-! ### defs as data -/
structure DF (P : Program) (w : World) (K : PySem.W.Frag) (mg : Str → Option Value) (base : Heap) (pm : Pm) (k : Nat) (x : Str) (ps : List Str) (g : Fn) : Prop where
  ex : ∃ (f : Addr) (fd : FuncData), FnG P w K mg base k f fd ps (spD K pm g) ∧ mg x = some (.ref f) ∧ PySem.W.keepIn K (.ref f) = true ∧ Binds K fd ps []
section
variable {P : Program} {w : World} {K : PySem.W.Frag} {mg : Str → Option Value} {base : Heap} {k : Nat} {f : Addr} {fd : FuncData} {ps : List Str} {pm : Pm}
theorem DF.of {x : Str} {params : Arguments} {body : List Stmt} {scope : Scope} {kws : List (Str × V)} {N : List Str} {g : S} (F : FunD K x x params body scope [] kws f fd) (S : FnScope N ps scope) (hm : mg x = some (.ref f)) (b : Binds K fd ps [])
    (hb : ∀ (cdv : Value) (A : Around) (outer : List PySem.Env) (s : Shared) (H : Hp) (E : XK), A.guards = some [] → Room k (A.deeper (envOfC x scope s.heap.objs.size f cdv)) →
      DB pm (cxOf (L2.CX P w) P w K mg base N x scope f cdv A outer s H E) (fun cls d _ H => E cls d H) body g) : DF P w K mg base pm (k + 1) x ps (Dn.body N.length ps.length g) :=
  ⟨f, fd, fnD F S hb, hm, F.kp, b⟩
end
section
variable {pm : Pm} {X : Cx} {W : WX}
theorem xdef {j k : Nat} {ps : List Str} {h : Fn} {x : Str} {p pos : Pos} {e : Expr} {es : List Expr} {g : E (List D)} (F : DF X.prog X.w X.K X.mg X.base pm j x ps h) (hr : Room k X.A) (hgd : X.A.guards = some []) (tk : Takes X W)
    (ha : DA pm X W (e :: es) g) (hjk : j ≤ k := by decide) (hg : Gl X x := by rfl) (hdb : (x == ("__debug__" : Str)) = false := by decide) (he : starEach (e :: es) X.env = (false, eval e X.env) :: starEach es X.env := by rfl) (hpl : (backTo pos (starEach es X.env)).any (·.1) = false := by rfl) :
    DE pm X W (.Call (.Name x p) (e :: es) [] pos) (eCall h g) := by
  obtain ⟨f, fd, G, hm, hk, hb⟩ := F.ex
  exact xcall G (hr.mono hjk) hgd hm hk hb tk ha hg hdb he hpl
end
end Dn
/-! Dn14: xs[::-1]; room. -/
namespace Dn
open PySem PySem.Spec PyProof.Rows L2
theorem hu_of64 {A : Around} {k : Nat} (hr : Room k A) : A.units + 64 < cLine := by
  have := hr.un
  omega
theorem hu_of68 {A : Around} {k : Nat} (hr : Room k A) : A.units + 68 < cLine := by
  have := hr.un
  omega
section
variable {pm : Pm} {X : Cx} {W : WX} {K : PySem.W.Frag}
def eRev (a : E D) : E D := eThen a fun x => retS fun _ => match x with
  | .lst l => some (.lst l.reverse)
  | .fro l => some (.lst l.reverse)
  | _ => none
theorem ref_rev {ta : TE} {ga : E D} (ha : RefE K pm W ta ga) : RefE K pm W (tRevL K ta) (eRev ga) := fun κ0 => by
  refine Ref.bind (k := fun (x : V) (_ : L2.St) (H : Hp) (Q : VK) => ∃ a xs, x = V.ref a ∧ SqL K H a xs ∧ ∀ p, H p = none → Q (.ref p) (upd H p (.lst xs.reverse))) (ha κ0) ?_
  intro x d κ1 l1 r1
  refine Ref.retS fun d' κ l σ s H Q w hd k => ?_
  have fin : ∀ {a : Addr} {xs : List V} {its : List D}, SqL K H a xs → RepAll K pm κ1 xs its → d' = .lst its.reverse → ∃ b ys, V.ref a = .ref b ∧ SqL K H b ys ∧ ∀ p, H p = none → Q (.ref p) (upd H p (.lst ys.reverse)) := fun {a xs its} hs hr e => by
    subst e
    exact ⟨a, xs, rfl, hs, fun p hp => k _ (κ.add p (.lst xs.reverse)) _ (w.add_le hp _) (w.add hp _) (.lst upd_same ((hr.mono l).reverse.mono (w.add_le hp _)))⟩
  cases r1 with
  | lst h1 h2 =>
    rename_i a xs its
    cases hd
    exact fin (.inl (.inl (w.f _ _ (l.f _ _ h1)))) h2 rfl
  | fro h1 h2 =>
    rename_i a xs its
    cases hd
    exact fin (sqL_mono w.f (sqL_mono l.f h1)) h2 rfl
  | _ => cases hd
theorem xrev {e : Expr} {g : E D} {k : Nat} {p1 p2 p3 pos : Pos} (h : DE pm X W e g) : DE pm X W (.Subscript e (.Slice none none (some (.UnaryOp .USub (.Constant (.int 1) k p1) p2)) p3) pos) (eRev g) := .mk' (pe_revL h.p) (ref_rev h.r)
end
end Dn
/-! Dn15: what a mirror does, by what holds behind it. -/
namespace Dn
open PySem (Str)
def Wp {α : Type} (r : R α) (Q : α → Store → Prop) (X : D → Store → Prop) : Prop := match r with
  | .ok a s => Q a s
  | .ex e s => X e s
  | .no => False
def Ws (r : SR) (nx : Env → Store → Prop) (rt : D → Store → Prop) (bk ct : Env → Store → Prop) (ex : D → Env → Store → Prop) : Prop := match r with
  | .nx v s => nx v s
  | .rt d s => rt d s
  | .bk v s => bk v s
  | .ct v s => ct v s
  | .ex e v s => ex e v s
  | .no => False
/-- a reckoning that gives something -/
def Op {α : Type} (o : Option α) (Q : α → Prop) : Prop := match o with
  | some d => Q d
  | none => False
theorem op_some {α : Type} {a : α} {Q : α → Prop} : Op (some a) Q = Q a := rfl
theorem op_none {α : Type} {Q : α → Prop} : Op none Q = False := rfl
theorem op_map {α β : Type} {f : α → β} {o : Option α} {Q : β → Prop} : Op (o.map f) Q = Op o fun x => Q (f x) := by cases o <;> rfl
theorem op_req {α : Type} {c : Prop} [Decidable c] {a : α} {Q : α → Prop} : Op (if c then some a else none) Q = (c ∧ Q a) := by
  by_cases h : c <;> simp [h, Op]
theorem op_by {α : Type} {o : Option α} {d : α} {Q : α → Prop} (h : o = some d) (q : Q d) : Op o Q := by
  rw [h]
  exact q
def asI : D → Option Int
  | .int i => some i
  | _ => none
def asS : D → Option Str
  | .str z => some z
  | _ => none
def asX : D → Option (Nat × List D)
  | .exc c l => some (c, l)
  | _ => none
def two : List D → Option (D × D)
  | [x, y] => some (x, y)
  | _ => none
def one : List D → Option D
  | [x] => some x
  | _ => none
def revD : D → Option D
  | .lst l => some (.lst l.reverse)
  | .fro l => some (.lst l.reverse)
  | _ => none
def itsOf : D → Option Its
  | .lst l => some ⟨l, fun _ => true⟩
  | .fro l => some ⟨l, fun _ => true⟩
  | .tup l => some ⟨l, fun _ => true⟩
  | .str z => some ⟨z.cps.toList.map fun c => .str ⟨#[c]⟩, fun _ => true⟩
  | _ => none
def rng1 : List D → Option Its
  | [.int j] => if j ≤ 1000000 ∧ -1000000 ≤ j then some ⟨upto 0 j.toNat, fun _ => true⟩ else none
  | _ => none
def rng2 : List D → Option Its
  | [.int i, .int j] => if -1000000000000000 ≤ i ∧ i ≤ 1000000000000000 ∧ -1000000000000000 ≤ j ∧ j ≤ 1000000000000000 then some ⟨upto i (j - i).toNat, fun _ => true⟩ else none
  | _ => none
theorem if_t {c : Bool} {A B : Prop} (h : c = true) (a : A) : if c = true then A else B := by
  rw [if_pos h]
  exact a
theorem if_f {c : Bool} {A B : Prop} (h : c = false) (b : B) : if c = true then A else B := by
  rw [if_neg (by rw [h]; exact Bool.false_ne_true)]
  exact b
/-- both ways of a test -/
theorem if_2 {c : Prop} [Decidable c] {A B : Prop} (a : c → A) (b : ¬c → B) : if decide c = true then A else B := by
  by_cases h : c
  · rw [if_pos (decide_eq_true h)]
    exact a h
  · rw [if_neg (by simpa using h)]
    exact b h
theorem if_2n {c : Prop} [Decidable c] {A B : Prop} (a : ¬c → A) (b : c → B) : if (!decide c) = true then A else B := by
  by_cases h : c
  · rw [if_neg (by simpa using h)]
    exact b h
  · rw [if_pos (by simpa using h)]
    exact a h
section
variable {α β : Type} {Q : α → Store → Prop} {X : D → Store → Prop} {v : Env} {s : Store}
theorem Wp.mono {r : R α} {Q' : α → Store → Prop} {X' : D → Store → Prop} (h : Wp r Q X) (hq : ∀ a s, Q a s → Q' a s) (hx : ∀ e s, X e s → X' e s) : Wp r Q' X' := by
  cases r with
  | ok a s => exact hq a s h
  | ex e s => exact hx e s h
  | no => exact h
theorem Ws.mono {r : SR} {nx nx' : Env → Store → Prop} {rt rt' : D → Store → Prop} {bk ct bk' ct' : Env → Store → Prop} {ex ex' : D → Env → Store → Prop} (h : Ws r nx rt bk ct ex) (h1 : ∀ v s, nx v s → nx' v s) (h2 : ∀ d s, rt d s → rt' d s)
    (h3 : ∀ v s, bk v s → bk' v s) (h4 : ∀ v s, ct v s → ct' v s) (h5 : ∀ e v s, ex e v s → ex' e v s) : Ws r nx' rt' bk' ct' ex' := by
  cases r with
  | nx v s => exact h1 v s h
  | rt d s => exact h2 d s h
  | bk v s => exact h3 v s h
  | ct v s => exact h4 v s h
  | ex e v s => exact h5 e v s h
  | no => exact h
/-- ways out -/
abbrev NX : D → Store → Prop := fun _ _ => False
theorem Wp.ok {r : R α} {P : α → Store → Prop} (h : Wp r P NX) : ∃ a s, r = .ok a s ∧ P a s := by
  cases r with
  | ok a s => exact ⟨a, s, rfl, h⟩
  | ex _ _ => exact h.elim
  | no => exact h.elim
theorem wp_ok {a : α} {s : Store} : Wp (.ok a s) Q X = Q a s := rfl
theorem wp_ex {e : D} {s : Store} : Wp (.ex e s : R α) Q X = X e s := rfl
theorem wp_then {a : E β} {k : β → E α} : Wp (eThen a k v s) Q X = Wp (a v s) (fun x s1 => Wp (k x v s1) Q X) X := by
  unfold eThen
  cases a v s <;> rfl
theorem wp_ret {o : Option α} : Wp (ret o v s) Q X = Op o fun d => Q d s := by
  unfold ret
  cases o <;> rfl
theorem wp_retS {f : Store → Option α} : Wp (retS f v s) Q X = Op (f s) fun d => Q d s := by
  unfold retS
  cases f s <;> rfl
theorem wp_if {t : E Bool} {a b : E α} : Wp (eIf t a b v s) Q X = Wp (t v s) (fun c s1 => if c = true then Wp (a v s1) Q X else Wp (b v s1) Q X) X := by
  unfold eIf
  rw [wp_then]
  congr 1
  funext c s1
  cases c <;> rfl
end
section
variable {Q : D → Store → Prop} {X : D → Store → Prop} {v : Env} {s : Store}
theorem wp_var {i : Nat} {d : D} (h : v[i]? = some (some d)) (q : Q d s) : Wp (eVar i v s) Q X := by
  unfold eVar
  rw [h]
  exact q
theorem wp_c {d : D} : Wp (eC d v s) Q X = Q d s := rfl
theorem wp_op {f : Op2} {a b : E D} : Wp (eOp f a b v s) Q X = Wp (a v s) (fun x s1 => Wp (b v s1) (fun y s2 => Op (f s2 x y) fun d => Q d s2) X) X := by
  unfold eOp
  rw [wp_then]
  congr 1
  funext x s1
  rw [wp_then]
  congr 1
  funext y s2
  rw [wp_retS]
theorem wp_un {f : Op1} {a : E D} : Wp (eUn f a v s) Q X = Wp (a v s) (fun x s1 => Op (f s1 x) fun d => Q d s1) X := by
  unfold eUn
  rw [wp_then]
  congr 1
  funext x s1
  rw [wp_retS]
theorem wp_tup {a : E (List D)} : Wp (eTup a v s) Q X = Wp (a v s) (fun l s1 => Q (.tup l) s1) X := by
  unfold eTup
  rw [wp_then]
  rfl
theorem wp_lst {a : E (List D)} : Wp (eLst a v s) Q X = Wp (a v s) (fun l s1 => Q (.lst l) s1) X := by
  unfold eLst
  rw [wp_then]
  rfl
theorem wp_new {a : E (List D)} : Wp (eNew a v s) Q X = Wp (a v s) (fun l s1 => Q (.hnd s1.length) (s1 ++ [.lst l])) X := by
  unfold eNew
  rw [wp_then]
  rfl
theorem wp_call {f : Fn} {a : E (List D)} : Wp (eCall f a v s) Q X = Wp (a v s) (fun l s1 => Wp (f l s1) Q X) X := by
  unfold eCall
  rw [wp_then]
theorem wp_fn {f : Store → List D → Option D} {a : E (List D)} : Wp (eFn f a v s) Q X = Wp (a v s) (fun l s1 => Op (f s1 l) fun d => Q d s1) X := by
  unfold eFn
  rw [wp_then]
  congr 1
  funext x s1
  rw [wp_retS]
theorem wp_b {a : E Bool} : Wp (eB a v s) Q X = Wp (a v s) (fun c s1 => Q (.bl c) s1) X := by
  unfold eB
  rw [wp_then]
  rfl
theorem wp_sl {a : E D} {lo hi : E (Option Int)} : Wp (eSl a lo hi v s) Q X = Wp (a v s) (fun x s1 => Wp (lo v s1) (fun l s2 => Wp (hi v s2) (fun h s3 => Op (slD s3 x l h) fun d => Q d s3) X) X) X := by
  unfold eSl
  rw [wp_then]
  congr 1
  funext x s1
  rw [wp_then]
  congr 1
  funext l s2
  rw [wp_then]
  congr 1
  funext h s3
  rw [wp_retS]
theorem wp_rev {a : E D} : Wp (eRev a v s) Q X = Wp (a v s) (fun x s1 => Op (revD x) fun d => Q d s1) X := by
  unfold eRev
  rw [wp_then]
  congr 1
  funext x s1
  rw [wp_retS]
  cases x <;> rfl
theorem wp_join {a b : E D} : Wp (eJoin a b v s) Q X = Wp (a v s) (fun x s1 => Op (asS x) fun z => Wp (b v s1) (fun y s2 => Op (joinD s2 (.str z) y) fun d => Q d s2) X) X := by
  unfold eJoin
  rw [wp_then]
  congr 1
  funext x s1
  cases x with
  | str z =>
    simp only [wp_then]
    show _ = Wp (b v s1) _ X
    congr 1
    funext y s2
    rw [wp_retS]
  | _ => rfl
theorem wp_split {a b : E D} : Wp (eSplit a b v s) Q X = Wp (a v s) (fun x s1 => Op (asS x) fun z => Wp (b v s1) (fun y s2 => Op (splitD (.str z) y) fun d => Q d s2) X) X := by
  unfold eSplit
  rw [wp_then]
  congr 1
  funext x s1
  cases x with
  | str z =>
    simp only [wp_then]
    show _ = Wp (b v s1) _ X
    congr 1
    funext y s2
    rw [wp_retS]
  | _ => rfl
theorem wp_andV {a b : E D} : Wp (eAndV a b v s) Q X = Wp (a v s) (fun x s1 => Op (asB x) fun c => if c = true then Wp (b v s1) Q X else Q (.bl false) s1) X := by
  unfold eAndV
  rw [wp_then]
  congr 1
  funext x s1
  cases x with
  | bl c => cases c <;> rfl
  | _ => rfl
theorem wp_orV {a b : E D} : Wp (eOrV a b v s) Q X = Wp (a v s) (fun x s1 => Op (asB x) fun c => if c = true then Q (.bl true) s1 else Wp (b v s1) Q X) X := by
  unfold eOrV
  rw [wp_then]
  congr 1
  funext x s1
  cases x with
  | bl c => cases c <;> rfl
  | _ => rfl
theorem wp_notV {a : E D} : Wp (eNotV a v s) Q X = Wp (a v s) (fun x s1 => Op (asB x) fun c => Q (.bl (!c)) s1) X := by
  unfold eNotV
  rw [wp_then]
  congr 1
  funext x s1
  cases x <;> rfl
theorem wp_chain {f g : Op2} {a b c : E D} : Wp (eChain f g a b c v s) Q X = Wp (a v s) (fun x s1 => Wp (b v s1) (fun y s2 => Op (f s2 x y) fun d => Op (asB d) fun k => if k = true then Wp (c v s2) (fun z s3 => Op (g s3 y z) fun d => Q d s3) X else Q (.bl false) s2) X) X := by
  unfold eChain
  rw [wp_then]
  congr 1
  funext x s1
  rw [wp_then]
  congr 1
  funext y s2
  cases f s2 x y with
  | none => rfl
  | some d =>
    cases d with
    | bl k =>
      cases k with
      | false => rfl
      | true =>
        show Wp (eThen c _ v s2) Q X = Wp (c v s2) _ X
        rw [wp_then]
        congr 1
        funext z s3
        rw [wp_retS]
    | _ => rfl
end
section
variable {Q : List D → Store → Prop} {X : D → Store → Prop} {v : Env} {s : Store}
theorem wp_nil : Wp (eNil v s) Q X = Q [] s := rfl
theorem wp_cons {a : E D} {r : E (List D)} : Wp (eCons a r v s) Q X = Wp (a v s) (fun x s1 => Wp (r v s1) (fun l s2 => Q (x :: l) s2) X) X := by
  unfold eCons
  rw [wp_then]
  congr 1
  funext x s1
  rw [wp_then]
  rfl
end
section
variable {Q : Bool → Store → Prop} {X : D → Store → Prop} {v : Env} {s : Store}
theorem wp_tv {a : E D} : Wp (tV a v s) Q X = Wp (a v s) (fun x s1 => Op (asB x) fun b => Q b s1) X := by
  unfold tV
  rw [wp_then]
  congr 1
  funext x s1
  rw [wp_ret]
theorem wp_and {a b : E Bool} : Wp (tAnd a b v s) Q X = Wp (a v s) (fun c s1 => if c = true then Wp (b v s1) Q X else Q false s1) X := by
  unfold tAnd
  rw [wp_then]
  congr 1
  funext c s1
  cases c <;> rfl
theorem wp_or {a b : E Bool} : Wp (tOr a b v s) Q X = Wp (a v s) (fun c s1 => if c = true then Q true s1 else Wp (b v s1) Q X) X := by
  unfold tOr
  rw [wp_then]
  congr 1
  funext c s1
  cases c <;> rfl
theorem wp_not {a : E Bool} : Wp (tNot a v s) Q X = Wp (a v s) (fun c s1 => Q (!c) s1) X := by
  unfold tNot
  rw [wp_then]
  rfl
theorem wp_yes : Wp (tYes v s) Q X = Q true s := rfl
end
section
variable {Q : Option Int → Store → Prop} {X : D → Store → Prop} {v : Env} {s : Store}
theorem wp_noPart : Wp (eNoPart v s) Q X = Q none s := rfl
theorem wp_part {a : E D} : Wp (ePart a v s) Q X = Wp (a v s) (fun x s1 => Op (asI x) fun i => Q (some i) s1) X := by
  unfold ePart
  rw [wp_then]
  congr 1
  funext x s1
  rw [wp_ret]
  cases x <;> rfl
end
section
variable {Q : Its → Store → Prop} {X : D → Store → Prop} {v : Env} {s : Store}
theorem wp_any {a : E D} : Wp (itAny a v s) Q X = Wp (a v s) (fun d s1 => Op (itsOf d) fun J => Q J s1) X := by
  unfold itAny
  rw [wp_then]
  congr 1
  funext d s1
  rw [wp_retS]
  cases d <;> rfl
theorem wp_r1 {a : E (List D)} : Wp (itR1 a v s) Q X = Wp (a v s) (fun d s1 => Op (rng1 d) fun J => Q J s1) X := by
  unfold itR1
  rw [wp_then]
  congr 1
  funext d s1
  rw [wp_retS]
  rfl
theorem wp_r2 {a : E (List D)} : Wp (itR2 a v s) Q X = Wp (a v s) (fun d s1 => Op (rng2 d) fun J => Q J s1) X := by
  unfold itR2
  rw [wp_then]
  congr 1
  funext d s1
  rw [wp_retS]
  rfl
end
section
variable {nx : Env → Store → Prop} {rt : D → Store → Prop} {bk ct : Env → Store → Prop} {ex : D → Env → Store → Prop} {v : Env} {s : Store}
theorem ws_pass : Ws (sPass v s) nx rt bk ct ex = nx v s := rfl
theorem ws_break : Ws (sBreak v s) nx rt bk ct ex = bk v s := rfl
theorem ws_cont : Ws (sCont v s) nx rt bk ct ex = ct v s := rfl
theorem ws_seq {a b : S} : Ws (sSeq a b v s) nx rt bk ct ex = Ws (a v s) (fun v1 s1 => Ws (b v1 s1) nx rt bk ct ex) rt bk ct ex := by
  unfold sSeq
  cases a v s <;> rfl
theorem ws_then {α : Type} {a : E α} {k : α → S} : Ws (sThen a k v s) nx rt bk ct ex = Wp (a v s) (fun x s1 => Ws (k x v s1) nx rt bk ct ex) fun e s1 => ex e v s1 := by
  unfold sThen
  cases a v s <;> rfl
theorem ws_set {g : Tg} {a : E D} : Ws (sSet g a v s) nx rt bk ct ex = Wp (a v s) (fun x s1 => Op (g x v s1) fun o => nx o.1 o.2) fun e s1 => ex e v s1 := by
  unfold sSet
  rw [ws_then]
  congr 1
  funext x s1
  cases g x v s1 <;> rfl
theorem ws_setN {i : Nat} {a : E D} : Ws (sSet (gN i) a v s) nx rt bk ct ex = Wp (a v s) (fun x s1 => nx (v.set i (some x)) s1) fun e s1 => ex e v s1 := by
  rw [ws_set]
  rfl
theorem op_gN {i : Nat} {x : D} {Q : Env × Store → Prop} : Op (gN i x v s) Q = Q (v.set i (some x), s) := rfl
theorem ws_if {t : E Bool} {a b : S} : Ws (sIf t a b v s) nx rt bk ct ex = Wp (t v s) (fun c s1 => if c = true then Ws (a v s1) nx rt bk ct ex else Ws (b v s1) nx rt bk ct ex) fun e s1 => ex e v s1 := by
  unfold sIf
  rw [ws_then]
  congr 1
  funext c s1
  cases c <;> rfl
theorem ws_ret {a : E D} : Ws (sRet a v s) nx rt bk ct ex = Wp (a v s) rt fun e s1 => ex e v s1 := by
  unfold sRet
  rw [ws_then]
  rfl
theorem ws_retN : Ws (sRetN v s) nx rt bk ct ex = rt .non s := rfl
theorem ws_drop {a : E D} : Ws (sDrop a v s) nx rt bk ct ex = Wp (a v s) (fun _ s1 => nx v s1) fun e s1 => ex e v s1 := by
  unfold sDrop
  rw [ws_then]
  rfl
theorem ws_put {o i e : E D} : Ws (sPut o i e v s) nx rt bk ct ex = Wp (e v s) (fun x s1 => Wp (o v s1) (fun a s2 => Wp (i v s2) (fun k s3 => Op (putAt s3 a k x) fun s4 => nx v s4) fun e s1 => ex e v s1) fun e s1 => ex e v s1) fun e s1 => ex e v s1 := by
  unfold sPut
  rw [ws_then]
  congr 1
  funext x s1
  rw [ws_then]
  congr 1
  funext a s2
  rw [ws_then]
  congr 1
  funext k s3
  cases putAt s3 a k x <;> rfl
theorem ws_push {o e : E D} : Ws (sPush o e v s) nx rt bk ct ex = Wp (o v s) (fun a s1 => isL s1 a = true ∧ Wp (e v s1) (fun x s2 => Op (pushAt s2 a x) fun s3 => nx v s3) fun e s1 => ex e v s1) fun e s1 => ex e v s1 := by
  unfold sPush
  rw [ws_then]
  congr 1
  funext a s1
  by_cases h : isL s1 a = true
  · rw [if_pos h, ws_then]
    simp only [h, true_and]
    congr 1
    funext x s2
    cases pushAt s2 a x <;> rfl
  · rw [if_neg h]
    simp [h, Ws]
theorem ws_par {i j : Nat} {a : E (List D)} : Ws (sPar i j a v s) nx rt bk ct ex = Wp (a v s) (fun l s1 => Op (two l) fun p => nx ((v.set i (some p.1)).set j (some p.2)) s1) fun e s1 => ex e v s1 := by
  unfold sPar
  rw [ws_then]
  congr 1
  funext l s1
  split
  · rfl
  · rename_i h
    unfold two
    split
    · rename_i x y
      exact (h x y rfl).elim
    · rfl
theorem ws_raise1 {c : Nat} {a : E (List D)} : Ws (sRaise1 c a v s) nx rt bk ct ex = Wp (a v s) (fun l s1 => Op (one l) fun x => ex (.exc c [x]) v s1) fun e s1 => ex e v s1 := by
  unfold sRaise1
  rw [ws_then]
  congr 1
  funext l s1
  split
  · rfl
  · rename_i h
    unfold one
    split
    · rename_i x
      exact (h x rfl).elim
    · rfl
theorem ws_raise0 {c : Nat} : Ws (sRaise0 c v s) nx rt bk ct ex = ex (.exc c []) v s := rfl
theorem ws_try {sub : Nat → Bool} {m i : Nat} {b : S} : Ws (sTry sub m i b v s) nx rt bk ct ex = Ws (b v s) nx rt bk ct fun e v1 s1 => Op (asX e) fun q => if sub q.1 = true then nx ((v1.set m (some (.exc q.1 q.2))).set i none) s1 else ex (.exc q.1 q.2) v1 s1 := by
  unfold sTry
  cases b v s with
  | ex e v1 s1 =>
    cases e with
    | exc c l =>
      by_cases h : sub c = true
      · simp only [h, if_true]
        simp [Ws, h, asX, Op]
      · simp only [h]
        simp [Ws, h, asX, Op]
    | _ => rfl
  | _ => rfl
theorem ws_for {it : E Its} {g : Tg} {b : S} : Ws (sFor it g b v s) nx rt bk ct ex = Wp (it v s) (fun J s1 => Ws (loop g b J.ok J.l v s1) nx rt bk ct ex) fun e s1 => ex e v s1 := by
  unfold sFor
  rw [ws_then]
/-- a loop by what holds ahead of each turn -/
theorem ws_loop {g : Tg} {b : S} (I : List D → Env → Store → Prop) : ∀ (l : List D) {v : Env} {s : Store}, I l v s → (∀ v s, I [] v s → nx v s) →
    (∀ x r v s, I (x :: r) v s → Op (g x v s) fun o => Ws (b o.1 o.2) (I r) rt nx (I r) ex) → Ws (loop g b (fun _ => true) l v s) nx rt bk ct ex
  | [], v, s, h, h0, hs => by
    unfold loop
    exact h0 v s h
  | x :: r, v, s, h, h0, hs => by
    unfold loop
    simp only [if_true]
    have q := hs x r v s h
    cases e : g x v s with
    | none =>
      rw [e] at q
      exact q.elim
    | some o =>
      rw [e] at q
      have q' : Ws (b o.1 o.2) (I r) rt nx (I r) ex := q
      dsimp only
      cases e2 : b o.1 o.2 with
      | nx v2 s2 =>
        rw [e2] at q'
        exact ws_loop I r q' h0 hs
      | ct v2 s2 =>
        rw [e2] at q'
        exact ws_loop I r q' h0 hs
      | bk v2 s2 =>
        rw [e2] at q'
        exact q'
      | rt d s2 =>
        rw [e2] at q'
        exact q'
      | ex x v2 s2 =>
        rw [e2] at q'
        exact q'
      | no =>
        rw [e2] at q'
        exact q'.elim
end
section
variable {Q : D → Store → Prop} {X : D → Store → Prop} {s : Store}
theorem wp_body {n p : Nat} {b : S} {l : List D} (h : l.length = p) : Wp (body n p b l s) Q X = Ws (b (env0 n l) s) (fun _ s1 => Q .non s1) Q (fun _ _ => False) (fun _ _ => False) fun e _ s1 => X e s1 := by
  unfold body
  rw [if_pos h]
  cases b (env0 n l) s <;> rfl
theorem wp_eLc {it : E Its} {g : Tg} {t : E Bool} {e : E D} {vs : List Nat} {v : Env} : Wp (eLc it g t e vs v s) Q X = Wp (it v s) (fun J s1 => Wp (lcs g t e vs J.ok J.l [] v s1) (fun l s2 => Q (.lst l) s2) X) X := by
  unfold eLc
  rw [wp_then]
  congr 1
  funext J s1
  rw [wp_then]
  rfl
end
/-- a comprehension by what holds ahead of each turn: items left, list so far -/
theorem wp_lcs {Q : List D → Store → Prop} {X : D → Store → Prop} {g : Tg} {t : E Bool} {e : E D} {vs : List Nat} {v : Env} (I : List D → List D → Store → Prop) : ∀ (l acc : List D) {s : Store}, I l acc s → (∀ acc s, I [] acc s → Q acc s) →
    (∀ x r acc s, I (x :: r) acc s → acc.length < 100000 ∧ Op (g x (wipe v vs) s) fun o => Wp (t o.1 o.2) (fun b s2 => if b = true then Wp (e o.1 s2) (fun y s3 => I r (acc ++ [y]) s3) NX else I r acc s2) NX) → Wp (lcs g t e vs (fun _ => true) l acc v s) Q X
  | [], acc, s, h, h0, hs => by
    unfold lcs
    exact h0 acc s h
  | x :: r, acc, s, h, h0, hs => by
    unfold lcs
    obtain ⟨hz, q⟩ := hs x r acc s h
    simp only [Bool.true_and, decide_eq_true hz, if_true]
    cases e1 : g x (wipe v vs) s with
    | none =>
      rw [e1] at q
      exact q.elim
    | some o =>
      rw [e1] at q
      have q' : Wp (t o.1 o.2) (fun b s2 => if b = true then Wp (e o.1 s2) (fun y s3 => I r (acc ++ [y]) s3) NX else I r acc s2) NX := q
      dsimp only
      cases e2 : t o.1 o.2 with
      | no =>
        rw [e2] at q'
        exact q'.elim
      | ex _ _ =>
        rw [e2] at q'
        exact q'.elim
      | ok b s2 =>
        rw [e2] at q'
        cases b with
        | false => exact wp_lcs I r acc (show I r acc s2 from q') h0 hs
        | true =>
          have q2 : Wp (e o.1 s2) (fun y s3 => I r (acc ++ [y]) s3) NX := q'
          dsimp only
          cases e3 : e o.1 s2 with
          | no =>
            rw [e3] at q2
            exact q2.elim
          | ex _ _ =>
            rw [e3] at q2
            exact q2.elim
          | ok y s3 =>
            rw [e3] at q2
            exact wp_lcs I r (acc ++ [y]) (show I r (acc ++ [y]) s3 from q2) h0 hs
/-! ### what the operations give -/
section
variable {Q : D → Prop} {s : Store}
theorem op_asB {b : Bool} {Q : Bool → Prop} : Op (asB (.bl b)) Q = Q b := rfl
variable {i j : Int} {a b : Str}
theorem op_add {Q : D → Prop} : Op (addD s (.int i) (.int j)) Q = Q (.int (i + j)) := rfl
theorem op_addS {Q : D → Prop} : Op (addD s (.str a) (.str b)) Q = (a.length + b.length ≤ 1000000 ∧ Q (.str (a ++ b))) := by
  show Op (if a.length + b.length ≤ 1000000 then some (D.str (a ++ b)) else none) Q = _
  rw [op_req]
theorem op_addL {l m : List D} : Op (addD s (.lst l) (.lst m)) Q = (l.length + m.length ≤ 100000 ∧ Q (.lst (l ++ m))) := by
  show Op (if l.length + m.length ≤ 100000 then some (D.lst (l ++ m)) else none) Q = _
  rw [op_req]
theorem op_addT {l m : List D} : Op (addD s (.tup l) (.tup m)) Q = (l.length + m.length ≤ 100000 ∧ Q (.tup (l ++ m))) := by
  show Op (if l.length + m.length ≤ 100000 then some (D.tup (l ++ m)) else none) Q = _
  rw [op_req]
theorem op_sub : Op (subD s (.int i) (.int j)) Q = Q (.int (i - j)) := rfl
theorem op_mul : Op (mulD s (.int i) (.int j)) Q = ((-(2 ^ 64) < i ∧ i < 2 ^ 64 ∨ -(2 ^ 64) < j ∧ j < 2 ^ 64) ∧ Q (.int (i * j))) := by
  show Op (if -(2 ^ 64) < i ∧ i < 2 ^ 64 ∨ -(2 ^ 64) < j ∧ j < 2 ^ 64 then some (D.int (i * j)) else none) Q = _
  rw [op_req]
theorem op_fdiv : Op (fdivD s (.int i) (.int j)) Q = ((j ≠ 0 ∧ j.natAbs < 1073741824) ∧ Q (.int (i.fdiv j))) := by
  show Op (if j ≠ 0 ∧ j.natAbs < 1073741824 then some (D.int (i.fdiv j)) else none) Q = _
  rw [op_req]
theorem op_mod : Op (modD s (.int i) (.int j)) Q = (j ≠ 0 ∧ Q (.int (i.fmod j))) := by
  show Op (if j ≠ 0 then some (D.int (i.fmod j)) else none) Q = _
  rw [op_req]
theorem op_pow : Op (powD s (.int i) (.int j)) Q = ((0 ≤ j ∧ j ≤ 1000000 ∧ i.natAbs < 2 ^ 64) ∧ Q (.int (i ^ j.toNat))) := by
  show Op (if 0 ≤ j ∧ j ≤ 1000000 ∧ i.natAbs < 2 ^ 64 then some (D.int (i ^ j.toNat)) else none) Q = _
  rw [op_req]
theorem op_lt : Op (ltD s (.int i) (.int j)) Q = Q (.bl (decide (i < j))) := rfl
theorem op_le : Op (leD s (.int i) (.int j)) Q = Q (.bl (decide (i ≤ j))) := rfl
theorem op_gt : Op (gtD s (.int i) (.int j)) Q = Q (.bl (decide (j < i))) := rfl
theorem op_ge : Op (geD s (.int i) (.int j)) Q = Q (.bl (decide (j ≤ i))) := rfl
theorem op_neg : Op (negD s (.int i)) Q = Q (.int (-i)) := rfl
theorem op_eqI : Op (eqD s (.int i) (.int j)) Q = Q (.bl (decide (i = j))) := rfl
theorem op_eqS : Op (eqD s (.str a) (.str b)) Q = Q (.bl (decide (a = b))) := rfl
theorem op_neI : Op (neD s (.int i) (.int j)) Q = Q (.bl (!decide (i = j))) := rfl
theorem op_neS : Op (neD s (.str a) (.str b)) Q = Q (.bl (!decide (a = b))) := rfl
theorem op_eqB {p q : Bool} : Op (eqD s (.bl p) (.bl q)) Q = Q (.bl (decide (p = q))) := rfl
theorem op_isNi : Op (isND s (.int i) .non) Q = Q (.bl false) := rfl
theorem op_isNn : Op (isND s .non .non) Q = Q (.bl true) := rfl
theorem op_isNx {c : Nat} {l : List D} : Op (isND s (.exc c l) .non) Q = Q (.bl false) := rfl
theorem op_notNi : Op (notND s (.int i) .non) Q = Q (.bl true) := rfl
theorem op_notNn : Op (notND s .non .non) Q = Q (.bl false) := rfl
theorem op_notNx {c : Nat} {l : List D} : Op (notND s (.exc c l) .non) Q = Q (.bl true) := rfl
theorem op_intI : Op (intD s [.int i]) Q = Q (.int i) := rfl
theorem op_intB {p : Bool} : Op (intD s [.bl p]) Q = Q (.int (if p then 1 else 0)) := rfl
theorem op_lenL {l : List D} : Op (lenD s [.lst l]) Q = Q (.int l.length) := rfl
theorem op_lenF {l : List D} : Op (lenD s [.fro l]) Q = Q (.int l.length) := rfl
theorem op_lenT {l : List D} : Op (lenD s [.tup l]) Q = Q (.int l.length) := rfl
theorem op_lenS : Op (lenD s [.str a]) Q = (a.length ≤ 1000000 ∧ Q (.int a.length)) := by
  show Op (if a.length ≤ 1000000 then some (D.int a.length) else none) Q = _
  rw [op_req]
theorem op_str : Op (strD s [.int i]) Q = (i.natAbs < 2 ^ 1000 ∧ Q (.str ((toString i : String) : Str))) := by
  show Op (if i.natAbs < 2 ^ 1000 then some (D.str ((toString i : String) : Str)) else none) Q = _
  rw [op_req]
theorem op_tupL {l : List D} : Op (tupleD s [.lst l]) Q = Q (.tup l) := rfl
theorem op_tupT {l : List D} : Op (tupleD s [.tup l]) Q = Q (.tup l) := rfl
theorem op_listL {l : List D} : Op (listD s [.lst l]) Q = Q (.lst l) := rfl
theorem op_listT {l : List D} : Op (listD s [.tup l]) Q = Q (.lst l) := rfl
theorem op_slL {l : List D} {lo hi : Option Int} : Op (slD s (.lst l) lo hi) Q = Q (.lst (cutD l lo hi)) := rfl
theorem op_slF {l : List D} {lo hi : Option Int} : Op (slD s (.fro l) lo hi) Q = Q (.lst (cutD l lo hi)) := rfl
theorem op_slT {l : List D} {lo hi : Option Int} : Op (slD s (.tup l) lo hi) Q = Q (.tup (cutD l lo hi)) := rfl
theorem op_ixL {l : List D} : Op (ixD s (.lst l) (.int i)) Q = Op (atD l i) Q := rfl
theorem op_ixT {l : List D} : Op (ixD s (.tup l) (.int i)) Q = Op (atD l i) Q := rfl
theorem op_ixS : Op (ixD s (.str a) (.int i)) Q = (a.length ≤ 1000000 ∧ Op (atD a.cps.toList i) fun c => Q (.str ⟨#[c]⟩)) := by
  show Op (if a.length ≤ 1000000 then (atD a.cps.toList i).map fun c => D.str ⟨#[c]⟩ else none) Q = _
  by_cases h : a.length ≤ 1000000
  · rw [if_pos h, op_map]
    simp [h]
  · rw [if_neg h]
    simp [h, Op]
end
end Dn
/-! Dn16: steps, rows of words, the bag. -/
namespace Dn
open PySem (Str)
theorem wp_in {n p : Nat} {b : S} {l : List D} {s : Store} {Q : D → Store → Prop} {X : D → Store → Prop} (h : l.length = p) (q : Ws (b (env0 n l) s) (fun _ s1 => Q .non s1) Q (fun _ _ => False) (fun _ _ => False) fun e _ s1 => X e s1) : Wp (body n p b l s) Q X := (wp_body h).mpr q
theorem Wp.go {α : Type} {r : R α} {P Q : α → Store → Prop} {X : D → Store → Prop} (h : Wp r P NX) (hq : ∀ a s, P a s → Q a s) : Wp r Q X := h.mono hq fun _ _ z => z.elim
section
variable {s : Store} {h : Nat} {l : List D} {i : Int}
theorem op_ixH {Q : D → Prop} (hs : s[h]? = some (.lst l)) : Op (ixD s (.hnd h) (.int i)) Q = Op (atD l i) Q := by
  have e : ixD s (.hnd h) (.int i) = atD l i := by
    simp only [ixD, seqOf, hs]
  rw [e]
theorem ixN_nat {n : Nat} {i : Int} (h0 : 0 ≤ i) (h1 : i < n) : ixN n i = some i.toNat := by
  unfold ixN
  rw [if_pos h0, if_pos h1]
theorem atD_nat {α : Type} {l : List α} {i : Int} (h0 : 0 ≤ i) (h1 : i < l.length) : atD l i = l[i.toNat]? := by
  unfold atD
  rw [ixN_nat h0 h1]
  rfl
/-- an item of a list, whichever -/
theorem op_at_all {α : Type} {l : List α} {i : Int} {Q : α → Prop} (h0 : 0 ≤ i) (h1 : i < l.length) (h : ∀ x ∈ l, Q x) : Op (atD l i) Q := by
  rw [atD_nat h0 h1, List.getElem?_eq_getElem (by omega)]
  exact h _ (List.getElem_mem _)
theorem op_put {Q : Store → Prop} {x : D} (hs : s[h]? = some (.lst l)) (h0 : 0 ≤ i) (h1 : i < l.length) (q : Q (s.set h (.lst (l.set i.toNat x)))) : Op (putAt s (.hnd h) (.int i) x) Q := by
  have e : putAt s (.hnd h) (.int i) x = some (s.set h (.lst (l.set i.toNat x))) := by
    simp only [putAt, hs, ixN_nat h0 h1]
    rfl
  rw [e]
  exact q
theorem set_at {m : MO} (hs : s[h]? = some m) (m' : MO) : (s.set h m')[h]? = some m' := by
  obtain ⟨hl, _⟩ := List.getElem?_eq_some_iff.mp hs
  rw [List.getElem?_set_self hl]
theorem mem_cutD {α : Type} {l : List α} {lo hi : Option Int} {x : α} (hx : x ∈ cutD l lo hi) : x ∈ l := List.mem_of_mem_drop (List.mem_of_mem_take hx)
theorem len_cutD {α : Type} {l : List α} {lo hi : Option Int} : (cutD l lo hi).length ≤ l.length := by
  unfold cutD
  rw [List.length_take, List.length_drop]
  omega
end
theorem at0 {α : Type} {x0 : α} {l : List α} {Q : α → Prop} : Op (atD (x0 :: l) 0) Q = Q x0 := by
  rw [atD_nat (by decide) (by simp only [List.length_cons]; omega)]
  rfl
theorem at1 {α : Type} {x0 x1 : α} {l : List α} {Q : α → Prop} : Op (atD (x0 :: x1 :: l) 1) Q = Q x1 := by
  rw [atD_nat (by decide) (by simp only [List.length_cons]; omega)]
  rfl
theorem at2 {α : Type} {x0 x1 x2 : α} {l : List α} {Q : α → Prop} : Op (atD (x0 :: x1 :: x2 :: l) 2) Q = Q x2 := by
  rw [atD_nat (by decide) (by simp only [List.length_cons]; omega)]
  rfl
theorem at3 {α : Type} {x0 x1 x2 x3 : α} {l : List α} {Q : α → Prop} : Op (atD (x0 :: x1 :: x2 :: x3 :: l) 3) Q = Q x3 := by
  rw [atD_nat (by decide) (by simp only [List.length_cons]; omega)]
  rfl
theorem at4 {α : Type} {x0 x1 x2 x3 x4 : α} {l : List α} {Q : α → Prop} : Op (atD (x0 :: x1 :: x2 :: x3 :: x4 :: l) 4) Q = Q x4 := by
  rw [atD_nat (by decide) (by simp only [List.length_cons]; omega)]
  rfl
theorem at5 {α : Type} {x0 x1 x2 x3 x4 x5 : α} {l : List α} {Q : α → Prop} : Op (atD (x0 :: x1 :: x2 :: x3 :: x4 :: x5 :: l) 5) Q = Q x5 := by
  rw [atD_nat (by decide) (by simp only [List.length_cons]; omega)]
  rfl
theorem at6 {α : Type} {x0 x1 x2 x3 x4 x5 x6 : α} {l : List α} {Q : α → Prop} : Op (atD (x0 :: x1 :: x2 :: x3 :: x4 :: x5 :: x6 :: l) 6) Q = Q x6 := by
  rw [atD_nat (by decide) (by simp only [List.length_cons]; omega)]
  rfl
theorem at7 {α : Type} {x0 x1 x2 x3 x4 x5 x6 x7 : α} {l : List α} {Q : α → Prop} : Op (atD (x0 :: x1 :: x2 :: x3 :: x4 :: x5 :: x6 :: x7 :: l) 7) Q = Q x7 := by
  rw [atD_nat (by decide) (by simp only [List.length_cons]; omega)]
  rfl
theorem at8 {α : Type} {x0 x1 x2 x3 x4 x5 x6 x7 x8 : α} {l : List α} {Q : α → Prop} : Op (atD (x0 :: x1 :: x2 :: x3 :: x4 :: x5 :: x6 :: x7 :: x8 :: l) 8) Q = Q x8 := by
  rw [atD_nat (by decide) (by simp only [List.length_cons]; omega)]
  rfl
theorem at9 {α : Type} {x0 x1 x2 x3 x4 x5 x6 x7 x8 x9 : α} {l : List α} {Q : α → Prop} : Op (atD (x0 :: x1 :: x2 :: x3 :: x4 :: x5 :: x6 :: x7 :: x8 :: x9 :: l) 9) Q = Q x9 := by
  rw [atD_nat (by decide) (by simp only [List.length_cons]; omega)]
  rfl
theorem at10 {α : Type} {x0 x1 x2 x3 x4 x5 x6 x7 x8 x9 x10 : α} {l : List α} {Q : α → Prop} : Op (atD (x0 :: x1 :: x2 :: x3 :: x4 :: x5 :: x6 :: x7 :: x8 :: x9 :: x10 :: l) 10) Q = Q x10 := by
  rw [atD_nat (by decide) (by simp only [List.length_cons]; omega)]
  rfl
theorem at11 {α : Type} {x0 x1 x2 x3 x4 x5 x6 x7 x8 x9 x10 x11 : α} {l : List α} {Q : α → Prop} : Op (atD (x0 :: x1 :: x2 :: x3 :: x4 :: x5 :: x6 :: x7 :: x8 :: x9 :: x10 :: x11 :: l) 11) Q = Q x11 := by
  rw [atD_nat (by decide) (by simp only [List.length_cons]; omega)]
  rfl
section
variable {α : Type} {l m : List α} {a b : Nat}
theorem l_add (h : l.length ≤ a) (k : m.length ≤ b) : l.length + m.length ≤ a + b := Nat.add_le_add h k
theorem l_app (h : l.length ≤ a) (k : m.length ≤ b) : (l ++ m).length ≤ a + b := by
  rw [List.length_append]
  exact Nat.add_le_add h k
theorem l_cut {lo hi : Option Int} (h : l.length ≤ a) : (cutD l lo hi).length ≤ a := Nat.le_trans len_cutD h
theorem l_rev (h : l.length ≤ a) : l.reverse.length ≤ a := by
  rw [List.length_reverse]
  exact h
theorem l_nil : ([] : List α).length ≤ 0 := Nat.le_refl 0
theorem l_cons {x : α} (h : l.length ≤ a) : (x :: l).length ≤ a + 1 := Nat.succ_le_succ h
end
/-! ### rows of words -/
def Asc (w : Str) : Prop := ∀ c ∈ w.cps.toList, c < 128
/-- words of at most b signs -/
def Row (b : Nat) (l : List D) : Prop := ∀ d ∈ l, ∃ w : Str, d = .str w ∧ w.length ≤ b ∧ Asc w
theorem Row.mono {b c : Nat} {l : List D} (h : Row b l) (hc : b ≤ c) : Row c l := fun d hd => (h d hd).elim fun w q => ⟨w, q.1, Nat.le_trans q.2.1 hc, q.2.2⟩
theorem Row.append {b : Nat} {l m : List D} (h : Row b l) (k : Row b m) : Row b (l ++ m) := fun d hd => (List.mem_append.mp hd).elim (h d) (k d)
theorem Row.cut {b : Nat} {l : List D} (h : Row b l) (lo hi : Option Int) : Row b (cutD l lo hi) := fun d hd => h d (mem_cutD hd)
theorem Row.rev {b : Nat} {l : List D} (h : Row b l) : Row b l.reverse := fun d hd => h d (List.mem_reverse.mp hd)
theorem Row.nil {b : Nat} : Row b [] := fun d hd => (nomatch hd)
theorem Row.cons {b : Nat} {l : List D} {w : Str} (h1 : w.length ≤ b) (h2 : Asc w) (h : Row b l) : Row b (.str w :: l) := fun d hd => by
  rcases List.mem_cons.mp hd with rfl | hd
  · exact ⟨w, rfl, h1, h2⟩
  · exact h d hd
theorem Row.one {b : Nat} {w : Str} (h1 : w.length ≤ b) (h2 : Asc w) : Row b [.str w] := Row.cons h1 h2 Row.nil
theorem Row.words {b : Nat} : ∀ {l : List D}, Row b l → ∃ ws : List Str, l = ws.map D.str ∧ ∀ w ∈ ws, w.length ≤ b ∧ Asc w
  | [], _ => ⟨[], rfl, fun _ h => (nomatch h)⟩
  | d :: l, h => by
    obtain ⟨w, rfl, h1, h2⟩ := h d List.mem_cons_self
    obtain ⟨ws, rfl, h3⟩ := Row.words (l := l) fun d hd => h d (List.mem_cons_of_mem _ hd)
    exact ⟨w :: ws, rfl, fun x hx => by
      rcases List.mem_cons.mp hx with rfl | hx
      · exact ⟨h1, h2⟩
      · exact h3 x hx⟩
theorem Row.of {b : Nat} {ws : List Str} (h : ∀ w ∈ ws, w.length ≤ b ∧ Asc w) : Row b (ws.map D.str) := fun d hd => by
  obtain ⟨w, hw, rfl⟩ := List.mem_map.mp hd
  exact ⟨w, rfl, h w hw⟩
/-- written words, told by counting -/
def rowB (b : Nat) (l : List D) : Bool := l.all fun d => match d with
  | .str w => decide (w.length ≤ b) && w.cps.toList.all fun c => decide (c < 128)
  | _ => false
theorem rowB_ok {b : Nat} {l : List D} (h : rowB b l = true) : Row b l := fun d hd => by
  have q := List.all_eq_true.mp h d hd
  cases d with
  | str w =>
    obtain ⟨q1, q2⟩ := Bool.and_eq_true_iff.mp q
    exact ⟨w, rfl, of_decide_eq_true q1, fun c hc => of_decide_eq_true (List.all_eq_true.mp q2 c hc)⟩
  | _ => cases q
theorem Asc.append {a b : Str} (h : Asc a) (k : Asc b) : Asc (a ++ b) := fun c hc => by
  have e : (a ++ b).cps.toList = a.cps.toList ++ b.cps.toList := TL.tl_append a b
  rw [e] at hc
  exact (List.mem_append.mp hc).elim (h c) (k c)
theorem cutS_len (z : Str) (lo hi : Option Int) : (L2.cutS z lo hi).length ≤ z.length := by
  rw [TL.len_tl, TL.len_tl z]
  show (List.take _ (List.drop _ z.cps.toList)).length ≤ z.cps.toList.length
  rw [List.length_take, List.length_drop]
  omega
theorem Asc.cut {z : Str} (h : Asc z) (lo hi : Option Int) : Asc (L2.cutS z lo hi) := fun c hc => h c (List.mem_of_mem_drop (List.mem_of_mem_take (show c ∈ List.take _ (List.drop _ z.cps.toList) from hc)))
theorem op_slS {s : Store} {z : Str} {lo hi : Option Int} {Q : D → Prop} : Op (slD s (.str z) lo hi) Q = (z.length ≤ 1000000 ∧ Q (.str (L2.cutS z lo hi))) := by
  show Op (if z.length ≤ 1000000 then some (D.str (L2.cutS z lo hi)) else none) Q = _
  rw [op_req]
theorem len_app (a b : Str) : (a ++ b).length = a.length + b.length := by
  rw [TL.len_tl, TL.len_tl a, TL.len_tl b, TL.tl_append, List.length_append]
theorem s_app {a b : Str} {x y : Nat} (h : a.length ≤ x) (k : b.length ≤ y) : (a ++ b).length ≤ x + y := by
  rw [len_app]
  exact Nat.add_le_add h k
theorem s_cut {z : Str} {x : Nat} {lo hi : Option Int} (h : z.length ≤ x) : (L2.cutS z lo hi).length ≤ x := Nat.le_trans (cutS_len z lo hi) h
/-! ### steps: what is asked, then on -/
section
variable {Q : D → Prop} {s : Store} {i j : Int} {a b : Str}
theorem q_addS (h : a.length + b.length ≤ 1000000) (q : Q (.str (a ++ b))) : Op (addD s (.str a) (.str b)) Q := op_addS.mpr ⟨h, q⟩
theorem q_addL {l m : List D} (h : l.length + m.length ≤ 100000) (q : Q (.lst (l ++ m))) : Op (addD s (.lst l) (.lst m)) Q := op_addL.mpr ⟨h, q⟩
theorem q_addT {l m : List D} (h : l.length + m.length ≤ 100000) (q : Q (.tup (l ++ m))) : Op (addD s (.tup l) (.tup m)) Q := op_addT.mpr ⟨h, q⟩
theorem q_mul (h : -(2 ^ 64) < i ∧ i < 2 ^ 64 ∨ -(2 ^ 64) < j ∧ j < 2 ^ 64) (q : Q (.int (i * j))) : Op (mulD s (.int i) (.int j)) Q := op_mul.mpr ⟨h, q⟩
theorem q_fdiv (h : j ≠ 0 ∧ j.natAbs < 1073741824) (q : Q (.int (i.fdiv j))) : Op (fdivD s (.int i) (.int j)) Q := op_fdiv.mpr ⟨h, q⟩
theorem q_mod (h : j ≠ 0) (q : Q (.int (i.fmod j))) : Op (modD s (.int i) (.int j)) Q := op_mod.mpr ⟨h, q⟩
theorem q_lenS (h : a.length ≤ 1000000) (q : Q (.int a.length)) : Op (lenD s [.str a]) Q := op_lenS.mpr ⟨h, q⟩
theorem q_ixS (h : a.length ≤ 1000000) (q : Op (atD a.cps.toList i) fun c => Q (.str ⟨#[c]⟩)) : Op (ixD s (.str a) (.int i)) Q := op_ixS.mpr ⟨h, q⟩
theorem q_slS {lo hi : Option Int} (h : a.length ≤ 1000000) (q : Q (.str (L2.cutS a lo hi))) : Op (slD s (.str a) lo hi) Q := op_slS.mpr ⟨h, q⟩
theorem q_str (h : i.natAbs < 2 ^ 1000) (q : Q (.str ((toString i : String) : Str))) : Op (strD s [.int i]) Q := op_str.mpr ⟨h, q⟩
end
theorem op_ixF {s : Store} {l : List D} {i : Int} {Q : D → Prop} : Op (ixD s (.fro l) (.int i)) Q = Op (atD l i) Q := rfl
theorem q_rng1 {j : Int} {Q : Its → Prop} (h : j ≤ 1000000 ∧ -1000000 ≤ j) (q : Q ⟨upto 0 j.toNat, fun _ => true⟩) : Op (rng1 [.int j]) Q := by
  show Op (if j ≤ 1000000 ∧ -1000000 ≤ j then some _ else none) Q
  rw [if_pos h]
  exact q
theorem upto_len {lo : Int} {n : Nat} : (upto lo n).length = n := by simp [upto]
theorem if_b {c : Bool} {A B : Prop} (a : c = true → A) (b : c = false → B) : if c = true then A else B := by
  cases c with
  | true => exact a rfl
  | false => exact b rfl
/-! ### the bag of numbers -/
def Bag (s : Store) (h : Nat) (t : Int) : Prop := ∃ a m k : Int, s[h]? = some (.lst [.int a, .int m, .int k]) ∧ 0 ≤ m ∧ m < 10 ^ 18 ∧ 0 ≤ k ∧ k ≤ t
theorem Bag.mono {s : Store} {h : Nat} {t u : Int} (b : Bag s h t) (hu : t ≤ u) : Bag s h u := by
  obtain ⟨a, m, k, q⟩ := b
  exact ⟨a, m, k, q.1, q.2.1, q.2.2.1, q.2.2.2.1, by have := q.2.2.2.2; omega⟩
theorem fmod_lo {i j : Int} (h : 0 < j) : 0 ≤ i.fmod j := Int.fmod_nonneg_of_pos i h
theorem fmod_hi {i j : Int} (h : 0 < j) : i.fmod j < j := Int.fmod_lt_of_pos i h
theorem fdiv_lo {i j : Int} (h0 : 0 ≤ i) (h : 0 < j) : 0 ≤ i.fdiv j := by
  rw [Int.fdiv_eq_ediv_of_nonneg _ (by omega)]
  exact Int.ediv_nonneg h0 (by omega)
theorem fdiv_hi {i j n : Int} (h : 0 < j) (hn : i < n * j) : i.fdiv j < n := by
  rw [Int.fdiv_eq_ediv_of_nonneg _ (by omega)]
  exact Int.ediv_lt_of_lt_mul h hn
end Dn
/-! Dn17: words split and joined, numbers in words, lists of words compared, what is shown. -/
namespace Dn
open PySem (Str PyData)
/-! ### split and join -/
def Asl (l : List Nat) : Prop := ∀ c ∈ l, c < 128
theorem spl_mem : ∀ (l acc : List Nat), TL.spl [32] 0 acc l ≠ [] ∧ ∀ p ∈ TL.spl [32] 0 acc l, p.length ≤ acc.length + l.length ∧ (Asl acc → Asl l → Asl p)
  | [], acc => by
    rw [TL.spl_nil]
    refine ⟨by simp, fun p hp => ?_⟩
    cases List.mem_singleton.mp hp
    exact ⟨by simp, fun a _ => a⟩
  | c :: r, acc => by
    by_cases h : TL.pre [32] (c :: r) = true
    · rw [TL.spl_hit h]
      show (acc :: TL.spl [32] 0 [] r) ≠ [] ∧ ∀ p ∈ acc :: TL.spl [32] 0 [] r, _
      obtain ⟨h1, h2⟩ := spl_mem r []
      refine ⟨by simp, fun p hp => ?_⟩
      rcases List.mem_cons.mp hp with rfl | hp
      · exact ⟨by omega, fun a _ => a⟩
      · obtain ⟨h3, h4⟩ := h2 p hp
        simp only [List.length_nil, List.length_cons] at h3 ⊢
        exact ⟨by omega, fun _ b => h4 (fun _ z => (nomatch z)) fun x hx => b x (List.mem_cons_of_mem _ hx)⟩
    · have h' : TL.pre [32] (c :: r) = false := by simpa using h
      rw [TL.spl_miss h']
      obtain ⟨h1, h2⟩ := spl_mem r (acc ++ [c])
      refine ⟨h1, fun p hp => ?_⟩
      obtain ⟨h3, h4⟩ := h2 p hp
      simp only [List.length_append, List.length_cons, List.length_nil] at h3 ⊢
      refine ⟨by omega, fun a b => h4 (fun x hx => ?_) fun x hx => b x (List.mem_cons_of_mem _ hx)⟩
      rcases List.mem_append.mp hx with hx | hx
      · exact a x hx
      · cases List.mem_singleton.mp hx
        exact b _ List.mem_cons_self
abbrev gap : Str := (" " : Str)
theorem tl_gap : TL.tl gap = [32] := by decide +kernel
theorem split_tl (z : Str) : (PySem.Txt.split z gap).map TL.tl = TL.spl [32] 0 [] (TL.tl z) := by
  have e := TL.split_spl z gap (by rw [tl_gap]; simp) (TL.kind_ok (by decide +kernel))
  rw [tl_gap] at e
  exact e
theorem split_ne (z : Str) : PySem.Txt.split z gap ≠ [] := fun e => by
  have h := (spl_mem (TL.tl z) []).1
  rw [← split_tl, e] at h
  exact h rfl
theorem split_mem {z w : Str} (h : w ∈ PySem.Txt.split z gap) : w.length ≤ z.length ∧ (Asc z → Asc w) := by
  have m : TL.tl w ∈ TL.spl [32] 0 [] (TL.tl z) := by
    rw [← split_tl]
    exact List.mem_map_of_mem h
  obtain ⟨h1, h2⟩ := (spl_mem (TL.tl z) []).2 _ m
  rw [TL.len_tl, TL.len_tl z]
  simp only [List.length_nil, Nat.zero_add] at h1
  exact ⟨h1, fun a => h2 (fun _ q => (nomatch q)) a⟩
theorem joinL_mem : ∀ (ps : List (List Nat)), (TL.joinL [32] ps).length ≤ (ps.map List.length).sum + ps.length ∧ ((∀ p ∈ ps, Asl p) → Asl (TL.joinL [32] ps))
  | [] => ⟨by simp [TL.joinL], fun _ c h => (nomatch h)⟩
  | [p] => ⟨by simp [TL.joinL], fun h => h p (List.mem_singleton.mpr rfl)⟩
  | p :: q :: r => by
    obtain ⟨h1, h2⟩ := joinL_mem (q :: r)
    show (p ++ ([32] ++ TL.joinL [32] (q :: r))).length ≤ _ ∧ (_ → Asl (p ++ ([32] ++ TL.joinL [32] (q :: r))))
    refine ⟨?_, fun h c hc => ?_⟩
    · simp only [List.length_append, List.length_cons, List.length_nil, List.map_cons, List.sum_cons] at h1 ⊢
      omega
    · rcases List.mem_append.mp hc with hc | hc
      · exact h p List.mem_cons_self c hc
      · rcases List.mem_append.mp hc with hc | hc
        · cases List.mem_singleton.mp hc
          decide
        · exact h2 (fun x hx => h x (List.mem_cons_of_mem _ hx)) c hc
theorem sum_le {b : Nat} : ∀ (ws : List Str), (∀ w ∈ ws, w.length ≤ b) → (ws.map (·.length)).sum ≤ ws.length * b
  | [], _ => by simp
  | w :: r, h => by
    have h1 := h w List.mem_cons_self
    have h2 := sum_le r fun x hx => h x (List.mem_cons_of_mem _ hx)
    simp only [List.map_cons, List.sum_cons, List.length_cons, Nat.succ_mul]
    omega
theorem join_len (ws : List Str) : (PySem.Txt.join gap ws).length ≤ (ws.map (·.length)).sum + ws.length := by
  rw [TL.join_eq, TL.len_tl, TL.tl_join, tl_gap]
  have h := (joinL_mem (ws.map TL.tl)).1
  rw [List.map_map, List.length_map] at h
  have e : ws.map (List.length ∘ TL.tl) = ws.map (·.length) := List.map_congr_left fun w _ => (TL.len_tl w).symm
  rw [e] at h
  exact h
theorem join_asc {ws : List Str} (h : ∀ w ∈ ws, Asc w) : Asc (PySem.Txt.join gap ws) := fun c hc => by
  have e : (PySem.Txt.join gap ws).cps.toList = TL.joinL [32] (ws.map TL.tl) := by
    rw [TL.join_eq]
    show TL.tl _ = _
    rw [TL.tl_join, tl_gap]
  rw [e] at hc
  refine (joinL_mem (ws.map TL.tl)).2 (fun p hp => ?_) c hc
  obtain ⟨w, hw, rfl⟩ := List.mem_map.mp hp
  exact h w hw
theorem strsOf_map : ∀ ws : List Str, strsOf (ws.map D.str) = some ws
  | [] => rfl
  | w :: r => by
    show (strsOf (r.map D.str)).map (w :: ·) = _
    rw [strsOf_map r]
    rfl
theorem op_joinL {s : Store} {ws : List Str} {Q : D → Prop} (h : (ws.map (·.length)).sum + ws.length ≤ 1000000) (q : Q (.str (PySem.Txt.join gap ws))) : Op (joinD s (.str gap) (.lst (ws.map D.str))) Q := by
  have e : joinD s (.str gap) (.lst (ws.map D.str)) = some (.str (PySem.Txt.join gap ws)) := by
    unfold joinD
    simp only [seqOf, strsOf_map]
    have g : gap.length = 1 := by decide +kernel
    rw [g, Nat.mul_one, if_pos h]
  rw [e]
  exact q
theorem op_split {z : Str} {Q : D → Prop} (h : z.length ≤ 1000000) (q : Q (.lst ((PySem.Txt.split z gap).map D.str))) : Op (splitD (.str z) (.str gap)) Q := by
  have g : gap.length = 1 := by decide +kernel
  have e : splitD (.str z) (.str gap) = some (.lst ((PySem.Txt.split z gap).map D.str)) := by
    show (if 0 < gap.length ∧ z.length ≤ 1000000 then _ else _) = _
    rw [if_pos ⟨by rw [g]; decide, h⟩]
  rw [e]
  exact q
/-! ### numbers in words -/
abbrev D9 (l : List Nat) : Prop := ∀ c ∈ l, 48 ≤ c ∧ c ≤ 57
theorem digits_lt : ∀ (l : List Nat) (a : Nat), D9 l → l.foldl (fun acc c => acc * 10 + (c - 48)) a < (a + 1) * 10 ^ l.length
  | [], a, _ => by simp
  | c :: r, a, h => by
    have h1 := h c List.mem_cons_self
    have h2 := digits_lt r (a * 10 + (c - 48)) fun x hx => h x (List.mem_cons_of_mem _ hx)
    rw [List.foldl_cons, List.length_cons, Nat.pow_succ]
    refine Nat.lt_of_lt_of_le h2 ?_
    rw [Nat.mul_comm (10 ^ r.length) 10, ← Nat.mul_assoc]
    exact Nat.mul_le_mul_right _ (by omega)
theorem int_digits {w : Str} (h : D9 w.cps.toList) (h1 : w.cps.toList ≠ []) (h2 : w.length ≤ 640) : PySem.intText? w = some ((PySem.NumText.digitsVal w.cps.toList : Nat) : Int) := PySem.intText_digits h h1 (by omega)
theorem op_intS {s : Store} {w : Str} {Q : D → Prop} (h : D9 w.cps.toList) (h1 : w.cps.toList ≠ []) (h2 : w.length ≤ 640) (q : Q (.int ((PySem.NumText.digitsVal w.cps.toList : Nat) : Int))) : Op (intD s [.str w]) Q := by
  have e : intD s [.str w] = some (.int ((PySem.NumText.digitsVal w.cps.toList : Nat) : Int)) := by
    show (if w.length ≤ 640 then (PySem.intText? w).map D.int else none) = _
    rw [if_pos h2, int_digits h h1 h2]
    rfl
  rw [e]
  exact q
theorem num_text {i : Int} {k : Nat} (h0 : 0 ≤ i) (hk : 0 < k) (h1 : i < 10 ^ k) : (((toString i : String) : Str)).length ≤ k ∧ Asc ((toString i : String) : Str) := by
  obtain ⟨n, rfl⟩ := Int.eq_ofNat_of_zero_le h0
  have e := TL.tl_num n
  have h2 : n < 10 ^ k := by exact_mod_cast h1
  refine ⟨?_, fun c hc => ?_⟩
  · rw [TL.len_tl]
    show (TL.tl (PySem.Str.ofString (toString ((n : Nat) : Int)))).length ≤ k
    rw [e]
    exact TL.numL_len hk h2
  · have hc : c ∈ TL.tl (PySem.Str.ofString (toString ((n : Nat) : Int))) := hc
    rw [e] at hc
    have := TL.numL_digits n c hc
    omega
/-! ### lists of words compared -/
theorem toPyL_strs : ∀ ws : List Str, toPyL0 (ws.map D.str) = some (ws.map PyData.str)
  | [] => rfl
  | w :: r => by
    show (match some (PyData.str w), toPyL0 (r.map D.str) with
      | some p, some q => some (p :: q)
      | _, _ => none) = _
    rw [toPyL_strs r]
    rfl
theorem asc_ok {w : Str} (h : Asc w) : PyData.strOk w = true := by
  unfold PyData.strOk
  rw [← Array.all_toList]
  refine List.all_eq_true.mpr fun c hc => ?_
  have := h c hc
  exact decide_eq_true (by omega)
theorem lay_strs : ∀ ws : List Str, (∀ w ∈ ws, Asc w) → PyData.canLayAll0 (ws.map PyData.str) = true ∧ PyData.depthAll (ws.map PyData.str) = 0
  | [], _ => ⟨rfl, rfl⟩
  | w :: r, h => by
    obtain ⟨h1, h2⟩ := lay_strs r fun x hx => h x (List.mem_cons_of_mem _ hx)
    refine ⟨?_, ?_⟩
    · show (PyData.canLay0 (.str w) && PyData.canLayAll0 (r.map PyData.str)) = true
      rw [h1, Bool.and_true]
      exact asc_ok (h w List.mem_cons_self)
    · show max (PyData.depth (.str w)) (PyData.depthAll (r.map PyData.str)) = 0
      rw [h2]
      rfl
theorem shaped_strs {ws : List Str} (h : ∀ w ∈ ws, Asc w) : PySem.SeqAt.shaped (.list (ws.map PyData.str)) = true := by
  obtain ⟨h1, h2⟩ := lay_strs ws h
  unfold PySem.SeqAt.shaped
  refine Bool.and_eq_true_iff.mpr ⟨h1, decide_eq_true ?_⟩
  show PyData.depthAll (ws.map PyData.str) + 1 ≤ 64
  rw [h2]
  decide
theorem eqv_strs : ∀ (a b : List Str), PyData.eqvAll (a.map PyData.str) (b.map PyData.str) = decide (a = b)
  | [], [] => rfl
  | [], _ :: _ => rfl
  | _ :: _, [] => rfl
  | x :: a, y :: b => by
    show (PyData.eqv (.str x) (.str y) && PyData.eqvAll (a.map PyData.str) (b.map PyData.str)) = _
    rw [eqv_strs a b]
    have e : PyData.eqv (.str x) (.str y) = decide (x = y) := by
      show (x == y) = _
      by_cases h : x = y
      · subst h
        simp
      · rw [decide_eq_false h]
        simpa using h
    rw [e]
    by_cases h : x = y <;> by_cases k : a = b <;> simp [h, k]
theorem eqC_strs {s : Store} {a b : List Str} (ha : ∀ w ∈ a, Asc w) (hb : ∀ w ∈ b, Asc w) : eqC s (.lst (a.map D.str)) (.lst (b.map D.str)) = some (decide (a = b)) := by
  show (match toPy s (.lst (a.map D.str)), toPy s (.lst (b.map D.str)) with
    | some p, some q => if PySem.SeqAt.shaped p = true ∧ PySem.SeqAt.shaped q = true then some (PyData.eqv p q) else none
    | _, _ => none) = _
  have e : ∀ ws : List Str, toPy s (.lst (ws.map D.str)) = some (.list (ws.map PyData.str)) := fun ws => by
    show (toPyL0 (ws.map D.str)).map PyData.list = _
    rw [toPyL_strs]
    rfl
  rw [e, e]
  show (if _ ∧ _ then some (PyData.eqvAll (a.map PyData.str) (b.map PyData.str)) else none) = _
  rw [if_pos ⟨shaped_strs ha, shaped_strs hb⟩, eqv_strs]
theorem op_neStrs {s : Store} {a b : List Str} {Q : D → Prop} (ha : ∀ w ∈ a, Asc w) (hb : ∀ w ∈ b, Asc w) (q : Q (.bl (!decide (a = b)))) : Op (neD s (.lst (a.map D.str)) (.lst (b.map D.str))) Q := by
  unfold neD
  rw [eqC_strs ha hb]
  exact q
theorem op_eqStrs {s : Store} {a b : List Str} {Q : D → Prop} (ha : ∀ w ∈ a, Asc w) (hb : ∀ w ∈ b, Asc w) (q : Q (.bl (decide (a = b)))) : Op (eqD s (.lst (a.map D.str)) (.lst (b.map D.str))) Q := by
  unfold eqD
  rw [eqC_strs ha hb]
  exact q
/-! ### a word among words -/
theorem flats_strs : ∀ ws : List Str, flats (ws.map D.str) = some (ws.map L2.V.str)
  | [] => rfl
  | w :: r => by
    show (match flat (.str w), flats (r.map D.str) with
      | some p, some q => some (p :: q)
      | _, _ => none) = _
    rw [flats_strs r]
    rfl
/-! ### what is shown -/
/-- d's writing, the same in all stores -/
def Shows (d : D) : Prop := ∃ x : Str, ∀ s, reprD s [d] = some (.str x)
theorem shows_of {d : D} {p : PyData} (h : toPy0 d = some p) (hd : ∀ h, d ≠ .hnd h) (n : nice p = true) (hp : p.depth ≤ 64) (hw : p.weight ≤ 2 ^ 20) : Shows d := by
  refine ⟨p.shown, fun s => ?_⟩
  have e : toPy s d = some p := by
    cases d with
    | hnd k => exact (hd k rfl).elim
    | _ => exact h
  show (match toPy s d with
    | some p => if p.showable = true ∧ p.hasDict = false ∧ p.shown.length ≤ 15728653 ∧ p.depth ≤ 64 then some (D.str p.shown) else none
    | none => none) = _
  rw [e]
  dsimp only
  rw [if_pos (nice_repr n hp hw)]
theorem int_weight {i : Int} (h : i.natAbs < 10 ^ 12) : (PyData.int i).weight ≤ 41 := by
  show (if (i == 0) = true then 0 else i.natAbs.log2 + 1) ≤ 41
  by_cases h0 : (i == 0) = true
  · rw [if_pos h0]
    decide
  · rw [if_neg h0]
    have hz : i.natAbs ≠ 0 := by simpa using h0
    have : i.natAbs.log2 < 40 := (Nat.log2_lt hz).mpr (Nat.lt_of_lt_of_le h (by decide))
    omega
end Dn
namespace Dn
/-! ### mirrors -/
def c_MOST_DIGITS : D := .int 9
def c_DIGITS : D := .str ("0123456789" : PySem.Str)
def c_NUMBERED_EVENTS : D := .tup [.str ("fetch" : PySem.Str), .str ("forget" : PySem.Str), .str ("store" : PySem.Str), .str ("give" : PySem.Str), .str ("get" : PySem.Str), .str ("write" : PySem.Str), .str ("read" : PySem.Str)]
def c_BARE_EVENTS : D := .tup [.str ("post" : PySem.Str), .str ("reap" : PySem.Str)]
def tab_InvalidWords : List Bool := [false, true]
def sub_InvalidWords (k : Nat) : Bool := (tab_InvalidWords[k]?).getD false
/-- read_number: 0 word, 1 char -/
def m_read_number : S := (sSeq (sIf (tOr (tV (eOp eqD (eVar 0) (eC (.str ("" : PySem.Str))))) (tV (eOp gtD (eFn lenD (eCons (eVar 0) eNil)) (eC c_MOST_DIGITS)))) (sRet (eC (.non))) sPass)
  (sSeq (sFor (itAny (eVar 0)) (gN 1) (sIf (tV (eOp ninD (eVar 1) (eC c_DIGITS))) (sRet (eC (.non))) sPass))
  (sSeq (sIf (tAnd (tV (eOp eqD (eOp ixD (eVar 0) (eC (.int 0))) (eC (.str ("0" : PySem.Str))))) (tV (eOp gtD (eFn lenD (eCons (eVar 0) eNil)) (eC (.int 1))))) (sRet (eC (.non))) sPass)
  (sRet (eFn intD (eCons (eVar 0) eNil))))))
def f_read_number : Fn := Dn.body 2 1 m_read_number
/-- read_event: 0 words, 1 parts, 2 event, 3 number -/
def m_read_event : S := (sSeq (sSet (gN 1) (eSplit (eVar 0) (eC (.str (" " : PySem.Str)))))
  (sSeq (sSet (gN 2) (eTup (eCons (eOp ixD (eVar 1) (eC (.int 0))) eNil)))
  (sSeq (sIf (tV (eOp inD (eOp ixD (eVar 1) (eC (.int 0))) (eC c_NUMBERED_EVENTS))) (sSeq (sSet (gN 3) (eIf (tV (eOp gtD (eFn lenD (eCons (eVar 1) eNil)) (eC (.int 1)))) (eCall f_read_number (eCons (eOp ixD (eVar 1) (eC (.int 1))) eNil)) (eC (.non))))
  (sSeq (sIf (tV (eOp isND (eVar 3) (eC (.non)))) (sRaise1 1 (eCons (eC (.int 1)) eNil)) sPass)
  (sSet (gN 2) (eTup (eCons (eOp ixD (eVar 1) (eC (.int 0))) (eCons (eVar 3) eNil)))))) (sIf (tV (eOp ninD (eOp ixD (eVar 1) (eC (.int 0))) (eC c_BARE_EVENTS))) (sRaise1 1 (eCons (eC (.int 0)) eNil)) sPass))
  (sSeq (sIf (tV (eOp gtD (eFn lenD (eCons (eVar 1) eNil)) (eFn lenD (eCons (eVar 2) eNil)))) (sRaise1 1 (eCons (eFn lenD (eCons (eVar 2) eNil)) eNil)) sPass)
  (sRet (eVar 2))))))
def f_read_event : Fn := Dn.body 4 1 m_read_event
/-- _law_bag: 0 cell, 1 spare -/
def m__law_bag : S := (sSeq (sSet (gN 1) (eC (.int 0)))
  (sSeq (sIf (tV (eOp geD (eVar 0) (eOp powD (eC (.int 10)) (eC (.int 18))))) (sSet (gN 1) (eOp subD (eVar 0) (eOp powD (eC (.int 10)) (eC (.int 18))))) sPass)
  (sRet (eNew (eCons (eVar 1) (eCons (eOp modD (eFn intD (eCons (eVar 0) eNil)) (eC (.int 999999999999999877))) (eCons (eC (.int 0)) eNil)))))))
def f__law_bag : Fn := Dn.body 2 1 m__law_bag
/-- _law_draw: 0 bag, 1 many, 2 turn, 3 mixed, 4 found -/
def m__law_draw : S := (sSeq (sIf (tV (eOp gtD (eOp ixD (eVar 0) (eC (.int 0))) (eC (.int 0)))) (sSeq (sSet (gN 4) (eOp modD (eFn intD (eCons (eOp ixD (eVar 0) (eC (.int 0))) eNil)) (eVar 1)))
  (sSeq (sPut (eVar 0) (eC (.int 0)) (eOp fdivD (eOp ixD (eVar 0) (eC (.int 0))) (eVar 1)))
  (sRet (eVar 4)))) sPass)
  (sSeq (sPut (eVar 0) (eC (.int 2)) (eOp addD (eOp ixD (eVar 0) (eC (.int 2))) (eC (.int 1))))
  (sSeq (sSet (gN 2) (eOp ixD (eVar 0) (eC (.int 2))))
  (sSeq (sSet (gN 3) (eOp addD (eOp addD (eOp ixD (eVar 0) (eC (.int 1))) (eOp mulD (eOp mulD (eC (.int 6700417)) (eVar 2)) (eVar 2))) (eOp mulD (eC (.int 7368787)) (eVar 2))))
  (sSeq (sSet (gN 3) (eOp fdivD (eOp modD (eFn intD (eCons (eOp addD (eOp mulD (eVar 3) (eVar 3)) (eOp mulD (eC (.int 1299709)) (eVar 2))) eNil)) (eC (.int 2305843009213693951))) (eC (.int 8191))))
  (sRet (eOp modD (eOp fdivD (eOp modD (eFn intD (eCons (eOp addD (eOp mulD (eVar 3) (eVar 3)) (eC (.int 15485863))) eNil)) (eC (.int 1152921504606846883))) (eC (.int 4096))) (eVar 1))))))))
def f__law_draw : Fn := Dn.body 5 2 m__law_draw
/-- _law_act: 0 bag, 1 word -/
def m__law_act : S := (sSeq (sSet (gN 1) (eOp ixD (eLst (eCons (eC (.str ("post" : PySem.Str))) (eCons (eC (.str ("reap" : PySem.Str))) (eCons (eC (.str ("fetch" : PySem.Str))) (eCons (eC (.str ("forget" : PySem.Str))) (eCons (eC (.str ("store" : PySem.Str))) (eCons (eC (.str ("give" : PySem.Str))) (eCons (eC (.str ("get" : PySem.Str))) (eCons (eC (.str ("write" : PySem.Str))) (eCons (eC (.str ("read" : PySem.Str))) eNil)))))))))) (eCall f__law_draw (eCons (eVar 0) (eCons (eC (.int 9)) eNil)))))
  (sSeq (sIf (tV (eOp inD (eVar 1) (eLst (eCons (eC (.str ("post" : PySem.Str))) (eCons (eC (.str ("reap" : PySem.Str))) eNil))))) (sRet (eTup (eCons (eVar 1) eNil))) sPass)
  (sRet (eTup (eCons (eVar 1) (eCons (eOp ixD (eLst (eCons (eC (.int 0)) (eCons (eC (.int 999999999)) (eCons (eCall f__law_draw (eCons (eVar 0) (eCons (eC (.int 300)) eNil))) (eCons (eCall f__law_draw (eCons (eVar 0) (eCons (eC (.int 1000000000)) eNil))) eNil))))) (eCall f__law_draw (eCons (eVar 0) (eCons (eC (.int 4)) eNil)))) eNil))))))
def f__law_act : Fn := Dn.body 2 1 m__law_act
/-- _law_number: 0 word, 1 sign -/
def m__law_number : S := (sSeq (sIf (tOr (tV (eOp eqD (eVar 0) (eC (.str ("" : PySem.Str))))) (tOr (tV (eOp gtD (eFn lenD (eCons (eVar 0) eNil)) (eC (.int 9)))) (tV (eOp neD (eLc (itAny (eVar 0)) (gN 1) (tV (eOp ninD (eVar 1) (eC (.str ("0123456789" : PySem.Str))))) (eVar 1) [1]) (eLst eNil))))) (sRet (eUn negD (eC (.int 1)))) sPass)
  (sSeq (sIf (tAnd (tV (eOp eqD (eOp ixD (eVar 0) (eC (.int 0))) (eC (.str ("0" : PySem.Str))))) (tV (eOp neD (eVar 0) (eC (.str ("0" : PySem.Str)))))) (sRet (eUn negD (eC (.int 1)))) sPass)
  (sRet (eFn intD (eCons (eVar 0) eNil)))))
def f__law_number : Fn := Dn.body 2 1 m__law_number
/-- _law_changed: 0 bag, 1 row, 2 menu, 3 put, 4 choice, 5 at, 6 spot, 7 sign, 8 one -/
def m__law_changed : S := (sSeq (sSet (gN 3) (eOp ixD (eVar 2) (eCall f__law_draw (eCons (eVar 0) (eCons (eFn lenD (eCons (eVar 2) eNil)) eNil)))))
  (sSeq (sPar 4 5 (eCons (eCall f__law_draw (eCons (eVar 0) (eCons (eC (.int 11)) eNil))) (eCons (eCall f__law_draw (eCons (eVar 0) (eCons (eOp addD (eFn lenD (eCons (eVar 1) eNil)) (eC (.int 1))) eNil))) eNil)))
  (sSeq (sIf (tV (eOp ltD (eVar 4) (eC (.int 2)))) (sRet (eOp addD (eOp addD (eSl (eVar 1) eNoPart (ePart (eVar 5))) (eLst (eCons (eVar 3) eNil))) (eSl (eVar 1) (ePart (eOp addD (eVar 5) (eVar 4))) eNoPart))) sPass)
  (sSeq (sIf (tV (eOp eqD (eVar 4) (eC (.int 2)))) (sRet (eOp addD (eSl (eVar 1) eNoPart (ePart (eVar 5))) (eSl (eVar 1) (ePart (eOp addD (eVar 5) (eC (.int 1)))) eNoPart))) sPass)
  (sSeq (sIf (tV (eOp eqD (eVar 4) (eC (.int 3)))) (sRet (eOp addD (eOp addD (eSl (eVar 1) eNoPart (ePart (eVar 5))) (eSl (eVar 1) (ePart (eVar 5)) (ePart (eOp addD (eVar 5) (eC (.int 1)))))) (eSl (eVar 1) (ePart (eVar 5)) eNoPart))) sPass)
  (sSeq (sIf (tV (eOp eqD (eVar 4) (eC (.int 4)))) (sRet (eSl (eVar 1) eNoPart (ePart (eVar 5)))) sPass)
  (sSeq (sIf (tV (eOp eqD (eVar 4) (eC (.int 5)))) (sRet (eOp addD (eOp addD (eSl (eVar 1) eNoPart (ePart (eVar 5))) (eRev (eSl (eVar 1) (ePart (eVar 5)) (ePart (eOp addD (eVar 5) (eC (.int 2))))))) (eSl (eVar 1) (ePart (eOp addD (eVar 5) (eC (.int 2)))) eNoPart))) sPass)
  (sSeq (sIf (tAnd (tV (eOp eqD (eVar 4) (eC (.int 6)))) (tV (eOp ltD (eVar 5) (eFn lenD (eCons (eVar 1) eNil))))) (sSeq (sPar 7 8 (eCons (eOp ixD (eLst (eCons (eC (.str ("0" : PySem.Str))) (eCons (eC (.str ("1" : PySem.Str))) (eCons (eC (.str (" " : PySem.Str))) (eCons (eC (.str ("\n" : PySem.Str))) (eCons (eC (.str ("-" : PySem.Str))) (eCons (eC (.str ("a" : PySem.Str))) (eCons (eC (.str ("E" : PySem.Str))) (eCons (eC (.str ("9" : PySem.Str))) (eCons (eC (.str ("." : PySem.Str))) eNil)))))))))) (eCall f__law_draw (eCons (eVar 0) (eCons (eC (.int 9)) eNil)))) (eCons (eOp ixD (eVar 1) (eVar 5)) eNil)))
  (sSeq (sSet (gN 6) (eCall f__law_draw (eCons (eVar 0) (eCons (eOp addD (eFn lenD (eCons (eVar 8) eNil)) (eC (.int 1))) eNil))))
  (sRet (eOp addD (eOp addD (eSl (eVar 1) eNoPart (ePart (eVar 5))) (eLst (eCons (eOp addD (eOp addD (eSl (eVar 8) eNoPart (ePart (eVar 6))) (eVar 7)) (eSl (eVar 8) (ePart (eVar 6)) eNoPart)) eNil))) (eSl (eVar 1) (ePart (eOp addD (eVar 5) (eC (.int 1)))) eNoPart))))) sPass)
  (sSeq (sIf (tAnd (tV (eOp eqD (eVar 4) (eC (.int 9)))) (tV (eOp ltD (eVar 5) (eFn lenD (eCons (eVar 1) eNil))))) (sSeq (sPar 8 6 (eCons (eOp ixD (eVar 1) (eVar 5)) (eCons (eCall f__law_draw (eCons (eVar 0) (eCons (eOp addD (eFn lenD (eCons (eOp ixD (eVar 1) (eVar 5)) eNil)) (eC (.int 1))) eNil))) eNil)))
  (sRet (eOp addD (eOp addD (eSl (eVar 1) eNoPart (ePart (eVar 5))) (eLst (eCons (eOp addD (eSl (eVar 8) eNoPart (ePart (eVar 6))) (eSl (eVar 8) (ePart (eOp addD (eVar 6) (eC (.int 1)))) eNoPart)) eNil))) (eSl (eVar 1) (ePart (eOp addD (eVar 5) (eC (.int 1)))) eNoPart)))) sPass)
  (sSeq (sIf (tV (eOp eqD (eVar 4) (eC (.int 7)))) (sRet (eOp addD (eOp addD (eSl (eVar 1) eNoPart (ePart (eVar 5))) (eSl (eVar 1) (ePart (eOp addD (eVar 5) (eC (.int 1)))) eNoPart)) (eSl (eVar 1) (ePart (eVar 5)) (ePart (eOp addD (eVar 5) (eC (.int 1))))))) sPass)
  (sSeq (sIf (tV (eOp eqD (eVar 4) (eC (.int 8)))) (sRet (eOp addD (eVar 1) (eLst (eCons (eVar 3) eNil)))) sPass)
  (sRet (eVar 1)))))))))))))
def f__law_changed : Fn := Dn.body 9 3 m__law_changed
/-- _law_parts: 0 bag, 1 act, 2 parts, 3 near, 4 menu, 5 k, 6 number -/
def m__law_parts : S := (sSeq (sSet (gN 1) (eCall f__law_act (eCons (eVar 0) eNil)))
  (sSeq (sSet (gN 2) (eOp addD (eLst (eCons (eOp ixD (eVar 1) (eC (.int 0))) eNil)) (eLc (itAny (eSl (eVar 1) (ePart (eC (.int 1))) eNoPart)) (gN 6) tYes (eFn strD (eCons (eVar 6) eNil)) [6])))
  (sSeq (sSet (gN 3) (eLst (eCons (eC (.str ("0" : PySem.Str))) (eCons (eC (.str ("00" : PySem.Str))) (eCons (eC (.str ("01" : PySem.Str))) (eCons (eC (.str ("-1" : PySem.Str))) (eCons (eC (.str ("+1" : PySem.Str))) (eCons (eC (.str ("999999999" : PySem.Str))) (eCons (eC (.str ("1000000000" : PySem.Str))) (eCons (eC (.str ("" : PySem.Str))) (eCons (eOp mulSD (eC (.str ("0" : PySem.Str))) (eC (.int 9))) (eCons (eOp mulSD (eC (.str ("9" : PySem.Str))) (eC (.int 10))) eNil))))))))))))
  (sSeq (sSet (gN 3) (eOp addD (eVar 3) (eLst (eCons (eC (.str ("1.0" : PySem.Str))) (eCons (eC (.str ("-0" : PySem.Str))) (eCons (eC (.str ("0x1" : PySem.Str))) (eCons (eC (.str ("7" : PySem.Str))) (eCons (eC (.str ("1_" : PySem.Str))) eNil))))))))
  (sSeq (sIf (tV (eOp eqD (eCall f__law_draw (eCons (eVar 0) (eCons (eC (.int 3)) eNil))) (eC (.int 0)))) (sSet (gN 2) (eOp addD (eSl (eVar 2) eNoPart (ePart (eC (.int 1)))) (eLst (eCons (eOp ixD (eVar 3) (eCall f__law_draw (eCons (eVar 0) (eCons (eC (.int 15)) eNil)))) eNil)))) sPass)
  (sSeq (sSet (gN 4) (eLst (eCons (eC (.str ("post" : PySem.Str))) (eCons (eC (.str ("reap" : PySem.Str))) (eCons (eC (.str ("fetch" : PySem.Str))) (eCons (eC (.str ("forget" : PySem.Str))) (eCons (eC (.str ("store" : PySem.Str))) (eCons (eC (.str ("give" : PySem.Str))) (eCons (eC (.str ("get" : PySem.Str))) (eCons (eC (.str ("write" : PySem.Str))) (eCons (eC (.str ("read" : PySem.Str))) eNil)))))))))))
  (sSeq (sSet (gN 4) (eOp addD (eVar 4) (eLst (eCons (eC (.str ("" : PySem.Str))) (eCons (eC (.str ("0" : PySem.Str))) (eCons (eC (.str ("7" : PySem.Str))) (eCons (eC (.str ("Post" : PySem.Str))) (eCons (eC (.str ("stain" : PySem.Str))) (eCons (eC (.str ("try" : PySem.Str))) eNil)))))))))
  (sSeq (sFor (itR1 (eCons (eOp ixD (eLst (eCons (eC (.int 0)) (eCons (eC (.int 1)) (eCons (eC (.int 1)) (eCons (eC (.int 2)) eNil))))) (eCall f__law_draw (eCons (eVar 0) (eCons (eC (.int 4)) eNil)))) eNil)) (gN 5) (sSet (gN 2) (eCall f__law_changed (eCons (eVar 0) (eCons (eVar 2) (eCons (eOp addD (eVar 4) (eLst (eCons (eC (.str ("peek" : PySem.Str))) (eCons (eC (.str ("lend" : PySem.Str))) (eCons (eC (.str ("fill" : PySem.Str))) (eCons (eC (.str ("post\n" : PySem.Str))) eNil)))))) eNil))))))
  (sRet (eVar 2))))))))))
def f__law_parts : Fn := Dn.body 7 1 m__law_parts
/-- _law_told: 0 text, 1 e, 2 caught, 3 found -/
def m__law_told : S := (sSeq (sSet (gTd [2, 3]) (eTup (eCons (eC (.non)) (eCons (eC (.non)) eNil))))
  (sSeq (sTry sub_InvalidWords 2 1 (sSet (gN 3) (eCall f_read_event (eCons (eVar 0) eNil))))
  (sSeq (sIf (tV (eOp isND (eVar 2) (eC (.non)))) (sRet (eLst (eCons (eC (.str ("read" : PySem.Str))) (eCons (eVar 3) eNil)))) sPass)
  (sRet (eLst (eCons (eC (.str ("place" : PySem.Str))) (eCons (eUn (fldD 1 0) (eVar 2)) eNil)))))))
def f__law_told : Fn := Dn.body 4 1 m__law_told
/-- _law_due: 0 parts -/
def m__law_due : S := (sSeq (sIf (tV (eOp inD (eOp ixD (eVar 0) (eC (.int 0))) (eLst (eCons (eC (.str ("post" : PySem.Str))) (eCons (eC (.str ("reap" : PySem.Str))) eNil))))) (sRet (eIf (tV (eOp eqD (eFn lenD (eCons (eVar 0) eNil)) (eC (.int 1)))) (eLst (eCons (eC (.str ("read" : PySem.Str))) (eCons (eTup (eCons (eOp ixD (eVar 0) (eC (.int 0))) eNil)) eNil))) (eLst (eCons (eC (.str ("place" : PySem.Str))) (eCons (eC (.int 1)) eNil))))) sPass)
  (sSeq (sIf (tV (eOp ninD (eOp ixD (eVar 0) (eC (.int 0))) (eLst (eCons (eC (.str ("fetch" : PySem.Str))) (eCons (eC (.str ("forget" : PySem.Str))) (eCons (eC (.str ("store" : PySem.Str))) (eCons (eC (.str ("give" : PySem.Str))) (eCons (eC (.str ("get" : PySem.Str))) (eCons (eC (.str ("write" : PySem.Str))) (eCons (eC (.str ("read" : PySem.Str))) eNil)))))))))) (sRet (eLst (eCons (eC (.str ("place" : PySem.Str))) (eCons (eC (.int 0)) eNil)))) sPass)
  (sSeq (sIf (tOr (tV (eOp eqD (eFn lenD (eCons (eVar 0) eNil)) (eC (.int 1)))) (tV (eOp ltD (eCall f__law_number (eCons (eOp ixD (eVar 0) (eC (.int 1))) eNil)) (eC (.int 0))))) (sRet (eLst (eCons (eC (.str ("place" : PySem.Str))) (eCons (eC (.int 1)) eNil)))) sPass)
  (sRet (eIf (tV (eOp eqD (eFn lenD (eCons (eVar 0) eNil)) (eC (.int 2)))) (eLst (eCons (eC (.str ("read" : PySem.Str))) (eCons (eTup (eCons (eOp ixD (eVar 0) (eC (.int 0))) (eCons (eFn intD (eCons (eOp ixD (eVar 0) (eC (.int 1))) eNil)) eNil))) eNil))) (eLst (eCons (eC (.str ("place" : PySem.Str))) (eCons (eC (.int 2)) eNil))))))))
def f__law_due : Fn := Dn.body 1 1 m__law_due
/-- law: 0 script, 1 cell, 2 bag, 3 text, 4 due -/
def m_law : S := (sSeq (sFor (itAny (eOp addD (eLst (eCons (eC (.int 3746501928374650192837465019283746501928)) eNil)) (eSl (eVar 0) eNoPart (ePart (eC (.int 50)))))) (gN 1) (sSeq (sSet (gN 2) (eCall f__law_bag (eCons (eVar 1) eNil)))
  (sSeq (sSet (gN 3) (eJoin (eC (.str (" " : PySem.Str))) (eCall f__law_parts (eCons (eVar 2) eNil))))
  (sSeq (sSet (gN 4) (eCall f__law_due (eCons (eSplit (eVar 3) (eC (.str (" " : PySem.Str)))) eNil)))
  (sIf (tOr (tV (eOp neD (eFn reprD (eCons (eCall f__law_told (eCons (eVar 3) eNil)) eNil)) (eFn reprD (eCons (eVar 4) eNil)))) (tV (eOp neD (eFn reprD (eCons (eCall f__law_told (eCons (eVar 3) eNil)) eNil)) (eFn reprD (eCons (eVar 4) eNil))))) (sRet (eC (.bl false))) sPass)))))
  (sRet (eC (.bl true))))
def f_law : Fn := Dn.body 5 1 m_law
end Dn
namespace Dn
open PySem (Str PyData)
local macro_rules | `(tactic| walk_at "dn1") => `(tactic| first
  | with_reducible refine Eq.mpr wp_op ?_
  | with_reducible refine Eq.mpr wp_c ?_
  | ((with_reducible refine' wp_var ?h ?q); (case h => exact rfl))
  | with_reducible refine Eq.mpr wp_cons ?_
  | with_reducible refine Eq.mpr wp_nil ?_
  | with_reducible refine Eq.mpr wp_call ?_
  | with_reducible refine Eq.mpr wp_fn ?_
  | with_reducible refine Eq.mpr wp_tv ?_
  | with_reducible refine Eq.mpr wp_and ?_
  | with_reducible refine Eq.mpr wp_or ?_
  | with_reducible refine Eq.mpr wp_not ?_
  | with_reducible refine Eq.mpr wp_if ?_
  | with_reducible refine Eq.mpr wp_sl ?_
  | with_reducible refine Eq.mpr wp_part ?_
  | with_reducible refine Eq.mpr wp_noPart ?_
  | with_reducible refine Eq.mpr wp_lst ?_
  | with_reducible refine Eq.mpr wp_tup ?_
  | with_reducible refine Eq.mpr wp_new ?_
  | with_reducible refine Eq.mpr wp_un ?_
  | with_reducible refine Eq.mpr wp_rev ?_
  | with_reducible refine Eq.mpr wp_join ?_
  | with_reducible refine Eq.mpr wp_split ?_
  | with_reducible refine Eq.mpr wp_andV ?_
  | with_reducible refine Eq.mpr wp_orV ?_
  | with_reducible refine Eq.mpr wp_notV ?_
  | with_reducible refine Eq.mpr wp_chain ?_
  | with_reducible refine Eq.mpr wp_any ?_
  | with_reducible refine Eq.mpr wp_r1 ?_
  | with_reducible refine Eq.mpr wp_r2 ?_
  | with_reducible refine Eq.mpr wp_eLc ?_
  | with_reducible refine Eq.mpr wp_yes ?_
  | with_reducible refine Eq.mpr ws_seq ?_
  | with_reducible refine Eq.mpr ws_setN ?_
  | with_reducible refine Eq.mpr ws_set ?_
  | with_reducible refine Eq.mpr op_gN ?_
  | with_reducible refine Eq.mpr ws_if ?_
  | with_reducible refine Eq.mpr ws_ret ?_
  | with_reducible refine Eq.mpr ws_retN ?_
  | with_reducible refine Eq.mpr ws_drop ?_
  | with_reducible refine Eq.mpr ws_put ?_
  | with_reducible refine Eq.mpr ws_push ?_
  | with_reducible refine Eq.mpr ws_par ?_
  | with_reducible refine Eq.mpr ws_raise1 ?_
  | with_reducible refine Eq.mpr ws_raise0 ?_
  | with_reducible refine Eq.mpr ws_try ?_
  | with_reducible refine Eq.mpr ws_for ?_
  | with_reducible refine Eq.mpr ws_pass ?_
  | with_reducible refine Eq.mpr ws_break ?_
  | with_reducible refine Eq.mpr ws_cont ?_
  | with_reducible refine Eq.mpr wp_ok ?_
  | with_reducible refine q_addS (by first | omega | assumption) ?_
  | with_reducible refine q_addS ?_ ?_
  | with_reducible refine q_addL (by first | omega | assumption | exact Nat.le_of_ble_eq_true rfl) ?_
  | with_reducible refine q_addL ?_ ?_
  | with_reducible refine q_addT (by first | omega | assumption) ?_
  | with_reducible refine q_addT ?_ ?_
  | with_reducible refine q_mul (by first | omega | assumption) ?_
  | with_reducible refine q_mul ?_ ?_
  | with_reducible refine q_fdiv (by first | omega | assumption) ?_
  | with_reducible refine q_fdiv ?_ ?_
  | with_reducible refine q_mod (by first | omega | assumption) ?_
  | with_reducible refine q_mod ?_ ?_
  | with_reducible refine q_lenS (by first | omega | assumption) ?_
  | with_reducible refine q_lenS ?_ ?_
  | with_reducible refine q_ixS (by first | omega | assumption) ?_
  | with_reducible refine q_ixS ?_ ?_
  | with_reducible refine q_slS (by first | omega | assumption) ?_
  | with_reducible refine q_slS ?_ ?_
  | with_reducible refine q_str (by first | omega | assumption) ?_
  | with_reducible refine q_str ?_ ?_
  | with_reducible refine Eq.mpr (op_ixH (by assumption)) ?_
  | with_reducible refine op_put (by assumption) (by decide) (by simp only [List.length_cons, List.length_nil]; omega) ?_
  | with_reducible refine Eq.mpr op_ixL ?_
  | with_reducible refine Eq.mpr op_ixT ?_
  | with_reducible refine Eq.mpr op_ixF ?_
  | with_reducible refine q_rng1 (by first | omega | assumption) ?_
  | with_reducible refine Eq.mpr at0 ?_
  | with_reducible refine Eq.mpr at1 ?_
  | with_reducible refine Eq.mpr at2 ?_
  | ((with_reducible refine' op_by ?h ?q); (case h => exact rfl))
  | ((with_reducible refine if_t ?h ?q); (case h => exact rfl))
  | ((with_reducible refine if_f ?h ?q); (case h => exact rfl))
  | fail)
local macro_rules | `(tactic| walk_at "dn") => `(tactic| repeat' walk_at "dn1")
local macro_rules | `(tactic| walk_at "dn_row") => `(tactic| repeat' (first | assumption | refine Row.append ?_ ?_ | refine Row.cut ?_ _ _ | refine Row.rev ?_))
local macro_rules | `(tactic| walk_at "dn_len") => `(tactic| (refine' Nat.le_trans ?h ?q; (case h => repeat' (first | with_reducible refine' l_add ?_ ?_ | with_reducible refine' l_app ?_ ?_ | with_reducible refine' l_cut ?_ | with_reducible refine' l_rev ?_ | with_reducible exact l_nil | with_reducible refine' l_cons ?_ | exact Nat.le_refl _)); (case q => omega)))
local macro_rules | `(tactic| walk_at "dn_sl") => `(tactic| (refine' Nat.le_trans ?h ?q; (case h => repeat' (first | with_reducible refine' Nat.add_le_add ?_ ?_ | with_reducible refine' s_app ?_ ?_ | with_reducible refine' s_cut ?_ | exact Nat.le_refl _)); (case q => omega)))
local macro_rules | `(tactic| walk_at "dn_asc") => `(tactic| repeat' (first | assumption | with_reducible refine Asc.append ?_ ?_ | with_reducible refine Asc.cut ?_ _ _))
theorem draw_ok {s : Store} {h : Nat} {t many : Int} (b : Bag s h t) (ht : t < 1000000) (hm : 0 < many) (hm2 : many < 1073741824) : Wp (f__law_draw [.hnd h, .int many] s) (fun r s1 => ∃ n : Int, r = .int n ∧ 0 ≤ n ∧ n < many ∧ Bag s1 h (t + 1)) NX := by
  obtain ⟨a, m, k, hs, m0, m1, k0, k1⟩ := b
  unfold f__law_draw; refine wp_in rfl ?_; unfold m__law_draw
  walk_at "dn"
  refine if_2 (fun h0 => ?_) fun h0 => ?_
  · walk_at "dn"
    exact ⟨_, rfl, fmod_lo hm, fmod_hi hm, _, m, k, set_at hs _, m0, m1, k0, by omega⟩
  · walk_at "dn"
    have hs2 := set_at hs (MO.lst ([D.int a, D.int m, D.int k].set (2 : Int).toNat (.int (k + 1))))
    have q0 : 0 ≤ (k + 1) * (k + 1) := Int.mul_nonneg (by omega) (by omega)
    have q1 : (k + 1) * (k + 1) ≤ 1000000 * 1000000 := Int.mul_le_mul (by omega) (by omega) (by omega) (by decide)
    have e1 : 6700417 * (k + 1) * (k + 1) = 6700417 * ((k + 1) * (k + 1)) := Int.mul_assoc _ _ _
    walk_at "dn"
    have f0 : ∀ x : Int, 0 ≤ (x.fmod 2305843009213693951).fdiv 8191 ∧ (x.fmod 2305843009213693951).fdiv 8191 < 2 ^ 60 := fun x =>
      ⟨fdiv_lo (fmod_lo (by decide)) (by decide), fdiv_hi (by decide) (Int.lt_of_lt_of_le (fmod_hi (by decide)) (by decide))⟩
    · exact .inl ⟨Int.lt_of_lt_of_le (by decide) (f0 _).1, Int.lt_trans (f0 _).2 (by decide)⟩
    · exact ⟨_, rfl, fmod_lo hm, fmod_hi hm, a, m, k + 1, hs2, m0, m1, by omega, by omega⟩
theorem bag_ok {s : Store} {c : Int} : Wp (f__law_bag [.int c] s) (fun r s1 => r = .hnd s.length ∧ Bag s1 s.length 0) NX := by
  unfold f__law_bag; refine wp_in rfl ?_; unfold m__law_bag
  have e : ∀ x : Int, (s ++ [MO.lst [.int x, .int (c.fmod 999999999999999877), .int 0]])[s.length]? = some (.lst [.int x, .int (c.fmod 999999999999999877), .int 0]) := fun x => by simp
  walk_at "dn"
  refine if_2 (fun h0 => ?_) fun h0 => ?_ <;> walk_at "dn" <;>
  exact ⟨rfl, _, _, _, e _, fmod_lo (by decide), Int.lt_trans (fmod_hi (by decide)) (by decide), Int.le_refl _, Int.le_refl _⟩
theorem changed_ok {s : Store} {h B : Nat} {t : Int} {row menu : List D} (b : Bag s h t) (ht : t + 5 < 1000000) (hr : Row B row) (hm : Row B menu) (hB : 1 ≤ B) (hB2 : B ≤ 100000) (ln : row.length ≤ 10000) (lm : 0 < menu.length) (lm2 : menu.length ≤ 10000) :
    Wp (f__law_changed [.hnd h, .lst row, .lst menu] s) (fun r s1 => ∃ l, r = .lst l ∧ Row (2 * B + 1) l ∧ l.length ≤ 3 * row.length + 1 ∧ Bag s1 h (t + 5)) NX := by
  unfold f__law_changed; refine wp_in rfl ?_; unfold m__law_changed
  walk_at "dn"
  refine (draw_ok b (by omega) (by omega) (by omega)).go ?_
  rintro _ s1 ⟨n1, rfl, p0, p1, b1⟩
  walk_at "dn"
  refine op_at_all p0 (by omega) fun put hput => ?_
  obtain ⟨w, rfl, hw, aw⟩ := hm put hput
  walk_at "dn"
  refine (draw_ok b1 (by omega) (by omega) (by omega)).go ?_
  rintro _ s2 ⟨n2, rfl, q0, q1, b2⟩
  walk_at "dn"
  refine (draw_ok b2 (by omega) (by omega) (by omega)).go ?_
  rintro _ s3 ⟨n3, rfl, r0, r1, b3⟩
  walk_at "dn"
  have c : ∀ lo hi, (cutD row lo hi).length ≤ row.length := fun _ _ => len_cutD
  have hr2 : Row (2 * B + 1) row := hr.mono (by omega)
  have hw2 : Row (2 * B + 1) [.str w] := .one (by omega) aw
  have fin : ∀ {l : List D} {s' : Store} {u : Int}, Row (2 * B + 1) l → l.length ≤ 3 * row.length + 1 → Bag s' h u → u ≤ t + 5 → ∃ l', D.lst l = D.lst l' ∧ Row (2 * B + 1) l' ∧ l'.length ≤ 3 * row.length + 1 ∧ Bag s' h (t + 5) := fun a b c d => ⟨_, rfl, a, b, c.mono d⟩
  refine if_2 (fun h0 => ?_) fun h0 => ?_
  · walk_at "dn"
    · walk_at "dn_len"
    · walk_at "dn_len"
    · exact fin (by walk_at "dn_row") (by walk_at "dn_len") b3 (by omega)
  walk_at "dn"
  refine if_2 (fun h1 => ?_) fun h1 => ?_
  · walk_at "dn"
    · walk_at "dn_len"
    · exact fin (by walk_at "dn_row") (by walk_at "dn_len") b3 (by omega)
  walk_at "dn"
  refine if_2 (fun h2 => ?_) fun h2 => ?_
  · walk_at "dn"
    · walk_at "dn_len"
    · walk_at "dn_len"
    · exact fin (by walk_at "dn_row") (by walk_at "dn_len") b3 (by omega)
  walk_at "dn"
  refine if_2 (fun h3 => ?_) fun h3 => ?_
  · walk_at "dn"
    exact fin (by walk_at "dn_row") (by walk_at "dn_len") b3 (by omega)
  walk_at "dn"
  refine if_2 (fun h4 => ?_) fun h4 => ?_
  · walk_at "dn"
    · walk_at "dn_len"
    · walk_at "dn_len"
    · exact fin (by walk_at "dn_row") (by walk_at "dn_len") b3 (by omega)
  walk_at "dn"
  have cs : ∀ (z : Str) lo hi, (L2.cutS z lo hi).length ≤ z.length := cutS_len
  have last : Ws ((sSeq (sIf (tV (eOp eqD (eVar 4) (eC (.int 7)))) (sRet (eOp addD (eOp addD (eSl (eVar 1) eNoPart (ePart (eVar 5))) (eSl (eVar 1) (ePart (eOp addD (eVar 5) (eC (.int 1)))) eNoPart)) (eSl (eVar 1) (ePart (eVar 5)) (ePart (eOp addD (eVar 5) (eC (.int 1))))))) sPass)
      (sSeq (sIf (tV (eOp eqD (eVar 4) (eC (.int 8)))) (sRet (eOp addD (eVar 1) (eLst (eCons (eVar 3) eNil)))) sPass)
      (sRet (eVar 1)))) [some (.hnd h), some (.lst row), some (.lst menu), some (.str w), some (.int n2), some (.int n3), none, none, none] s3)
      (fun _ s1 => ∃ l, D.non = .lst l ∧ Row (2 * B + 1) l ∧ l.length ≤ 3 * row.length + 1 ∧ Bag s1 h (t + 5)) (fun r s1 => ∃ l, r = .lst l ∧ Row (2 * B + 1) l ∧ l.length ≤ 3 * row.length + 1 ∧ Bag s1 h (t + 5)) (fun _ _ => False) (fun _ _ => False) fun e _ s1 => NX e s1 := by
    walk_at "dn"
    refine if_2 (fun h6 => ?_) fun h6 => ?_
    · walk_at "dn"
      · walk_at "dn_len"
      · walk_at "dn_len"
      · exact fin (by walk_at "dn_row") (by walk_at "dn_len") b3 (by omega)
    walk_at "dn"
    refine if_2 (fun h7 => ?_) fun h7 => ?_
    · walk_at "dn"
      · walk_at "dn_len"
      · exact fin (by walk_at "dn_row") (by walk_at "dn_len") b3 (by omega)
    walk_at "dn"
    exact fin (by walk_at "dn_row") (by walk_at "dn_len") b3 (by omega)
  have back : Ws ((sSeq (sIf (tAnd (tV (eOp eqD (eVar 4) (eC (.int 9)))) (tV (eOp ltD (eVar 5) (eFn lenD (eCons (eVar 1) eNil))))) (sSeq (sPar 8 6 (eCons (eOp ixD (eVar 1) (eVar 5)) (eCons (eCall f__law_draw (eCons (eVar 0) (eCons (eOp addD (eFn lenD (eCons (eOp ixD (eVar 1) (eVar 5)) eNil)) (eC (.int 1))) eNil))) eNil)))
      (sRet (eOp addD (eOp addD (eSl (eVar 1) eNoPart (ePart (eVar 5))) (eLst (eCons (eOp addD (eSl (eVar 8) eNoPart (ePart (eVar 6))) (eSl (eVar 8) (ePart (eOp addD (eVar 6) (eC (.int 1)))) eNoPart)) eNil))) (eSl (eVar 1) (ePart (eOp addD (eVar 5) (eC (.int 1)))) eNoPart)))) sPass)
      (sSeq (sIf (tV (eOp eqD (eVar 4) (eC (.int 7)))) (sRet (eOp addD (eOp addD (eSl (eVar 1) eNoPart (ePart (eVar 5))) (eSl (eVar 1) (ePart (eOp addD (eVar 5) (eC (.int 1)))) eNoPart)) (eSl (eVar 1) (ePart (eVar 5)) (ePart (eOp addD (eVar 5) (eC (.int 1))))))) sPass)
      (sSeq (sIf (tV (eOp eqD (eVar 4) (eC (.int 8)))) (sRet (eOp addD (eVar 1) (eLst (eCons (eVar 3) eNil)))) sPass)
      (sRet (eVar 1))))) [some (.hnd h), some (.lst row), some (.lst menu), some (.str w), some (.int n2), some (.int n3), none, none, none] s3)
      (fun _ s1 => ∃ l, D.non = .lst l ∧ Row (2 * B + 1) l ∧ l.length ≤ 3 * row.length + 1 ∧ Bag s1 h (t + 5)) (fun r s1 => ∃ l, r = .lst l ∧ Row (2 * B + 1) l ∧ l.length ≤ 3 * row.length + 1 ∧ Bag s1 h (t + 5)) (fun _ _ => False) (fun _ _ => False) fun e _ s1 => NX e s1 := by
    refine Eq.mpr ws_seq ?_
    refine Eq.mpr ws_if ?_
    refine Eq.mpr wp_and ?_
    walk_at "dn"
    refine if_2 (fun h6 => ?_) fun h6 => ?_
    · walk_at "dn"
      refine if_2 (fun h7 => ?_) fun h7 => ?_
      · walk_at "dn"
        refine op_at_all r0 h7 fun one hone => ?_
        obtain ⟨o, rfl, ho, ao⟩ := hr one hone
        walk_at "dn"
        refine op_at_all r0 h7 fun one2 hone2 => ?_
        obtain ⟨o2, rfl, ho2, ao2⟩ := hr one2 hone2
        walk_at "dn"
        refine (draw_ok b3 (by omega) (by omega) (by omega)).go ?_
        rintro _ s5 ⟨n5, rfl, v0, v1, b5⟩
        have hx : Row (2 * B + 1) [.str (L2.cutS o none (some n5) ++ L2.cutS o (some (n5 + 1)) none)] := .one (by walk_at "dn_sl") (by walk_at "dn_asc")
        walk_at "dn"
        · walk_at "dn_sl"
        · walk_at "dn_len"
        · walk_at "dn_len"
        · exact fin (by walk_at "dn_row") (by walk_at "dn_len") b5 (by omega)
      · walk_at "dn1"
        exact last
    · walk_at "dn1"
      walk_at "dn1"
      exact last
  refine if_2 (fun h5 => ?_) fun h5 => ?_
  · walk_at "dn"
    refine if_2 (fun h6 => ?_) fun h6 => ?_
    · walk_at "dn"
      refine (draw_ok b3 (by omega) (by omega) (by omega)).go ?_
      rintro _ s4 ⟨n4, rfl, u0, u1, b4⟩
      walk_at "dn"
      refine op_at_all u0 (by simp only [List.length_cons, List.length_nil]; omega) fun x hx => ?_
      obtain ⟨sg, rfl, hsg, asg⟩ := (rowB_ok (b := 1) (by decide +kernel) : Row 1 _) x hx
      walk_at "dn"
      refine op_at_all r0 h6 fun one hone => ?_
      obtain ⟨o, rfl, ho, ao⟩ := hr one hone
      walk_at "dn"
      refine (draw_ok b4 (by omega) (by omega) (by omega)).go ?_
      rintro _ s5 ⟨n5, rfl, v0, v1, b5⟩
      have hx : Row (2 * B + 1) [.str (L2.cutS o none (some n5) ++ sg ++ L2.cutS o (some n5) none)] := .one (by walk_at "dn_sl") (by walk_at "dn_asc")
      walk_at "dn"
      · walk_at "dn_sl"
      · walk_at "dn_sl"
      · walk_at "dn_len"
      · walk_at "dn_len"
      · exact fin (by walk_at "dn_row") (by walk_at "dn_len") b5 (by omega)
    · walk_at "dn1"
      exact back
  · walk_at "dn1"
    walk_at "dn1"
    exact back
def good (w : Str) : Prop := w ≠ ("" : Str) ∧ w.length ≤ 9 ∧ D9 w.cps.toList ∧ ¬(w.cps.toList[0]? = some 48 ∧ 1 < w.length)
def valOf (w : Str) : Int := (PySem.NumText.digitsVal w.cps.toList : Nat)
theorem str1_0 {c : Nat} : ((⟨#[c]⟩ : Str) = ("0" : Str)) ↔ c = 48 := by
  have e : ("0" : Str) = ⟨#[48]⟩ := by decide +kernel
  rw [e]
  constructor
  · intro h
    injection h with h
    simpa using h
  · intro h
    rw [h]
theorem digit_in {c : Nat} : c ∈ (("0123456789" : Str)).cps.toList ↔ 48 ≤ c ∧ c ≤ 57 := by
  have e : (("0123456789" : Str)).cps.toList = [48, 49, 50, 51, 52, 53, 54, 55, 56, 57] := by decide +kernel
  rw [e]
  simp only [List.mem_cons, List.not_mem_nil, or_false]
  omega
theorem ne_cons {w : Str} (h : ¬w = ("" : Str)) : ∃ c r, w.cps.toList = c :: r := by
  cases e : w.cps.toList with
  | nil =>
    refine (h ?_).elim
    refine TL.ext_tl ?_
    show w.cps.toList = _
    rw [e]
    decide +kernel
  | cons c r => exact ⟨c, r, rfl⟩
theorem read_number_ok {s : Store} {w : Str} (hw : w.length ≤ 1000000) : Wp (f_read_number [.str w] s) (fun r s1 => s1 = s ∧ (good w ∧ r = .int (valOf w) ∨ ¬good w ∧ r = .non)) NX := by
  unfold f_read_number; refine wp_in rfl ?_; unfold m_read_number
  walk_at "dn"
  refine if_2 (fun h0 => ?_) fun h0 => ?_
  · walk_at "dn"
    exact ⟨rfl, .inr ⟨fun g => g.1 h0, rfl⟩⟩
  walk_at "dn"
  refine if_2 (fun h1 => ?_) fun h1 => ?_
  · walk_at "dn"
    exact ⟨rfl, .inr ⟨fun g => absurd g.2.1 (by omega), rfl⟩⟩
  walk_at "dn"
  obtain ⟨c0, r0, e0⟩ := ne_cons h0
  refine ws_loop (fun r v s1 => s1 = s ∧ ∃ x cs, v = [some (.str w), x] ∧ r = cs.map (fun c => D.str ⟨#[c]⟩) ∧ (∀ c ∈ cs, c ∈ w.cps.toList) ∧ (D9 cs → D9 w.cps.toList)) _ ⟨rfl, none, w.cps.toList, rfl, rfl, fun _ h => h, fun h => h⟩ ?_ ?_
  · rintro v s1 ⟨rfl, x, cs, rfl, hr, hm, hd⟩
    have hcs : cs = [] := List.map_eq_nil_iff.mp hr.symm
    subst hcs
    have hd := hd fun _ h => (nomatch h)
    walk_at "dn"
    rw [e0]
    walk_at "dn"
    refine if_2 (fun h2 => ?_) fun h2 => ?_
    · walk_at "dn"
      refine if_2 (fun h3 => ?_) fun h3 => ?_
      · walk_at "dn"
        exact ⟨rfl, .inr ⟨fun g => g.2.2.2 ⟨by rw [e0, str1_0.mp h2]; rfl, by omega⟩, rfl⟩⟩
      · walk_at "dn"
        refine op_intS hd (by rw [e0]; simp) (by omega) ?_
        exact ⟨rfl, .inl ⟨⟨h0, by omega, hd, fun q => h3 (by omega)⟩, rfl⟩⟩
    · walk_at "dn"
      refine op_intS hd (by rw [e0]; simp) (by omega) ?_
      exact ⟨rfl, .inl ⟨⟨h0, by omega, hd, fun q => h2 (str1_0.mpr (by have := q.1; rw [e0] at this; exact Option.some.inj this))⟩, rfl⟩⟩
  · rintro x r v s1 ⟨rfl, y, cs, rfl, hr, hm, hd⟩
    cases cs with
    | nil => cases hr
    | cons c cs =>
      injection hr with hr1 hr2
      subst hr1
      walk_at "dn"
      refine if_2n (fun h2 => ?_) fun h2 => ?_
      · walk_at "dn"
        exact ⟨rfl, .inr ⟨fun g => h2 (digit_in.mpr (g.2.2.1 c (hm c List.mem_cons_self))), rfl⟩⟩
      · walk_at "dn"
        exact ⟨rfl, _, cs, rfl, hr2, fun z hz => hm z (List.mem_cons_of_mem _ hz), fun q => hd fun z hz => (List.mem_cons.mp hz).elim (fun e => by rw [e]; exact digit_in.mp h2) (q z)⟩
theorem str1_asc {c : Nat} (h : c < 128) : Asc (⟨#[c]⟩ : Str) := fun x hx => by
  have : x = c := by simpa using hx
  rw [this]
  exact h
theorem law_number_ok {s : Store} {w : Str} (hw : w.length ≤ 1000000) (ha : Asc w) : Wp (f__law_number [.str w] s) (fun r s1 => s1 = s ∧ (good w ∧ r = .int (valOf w) ∨ ¬good w ∧ r = .int (-1))) NX := by
  unfold f__law_number; refine wp_in rfl ?_; unfold m__law_number
  walk_at "dn"
  refine if_2 (fun h0 => ?_) fun h0 => ?_
  · walk_at "dn"
    exact ⟨rfl, .inr ⟨fun g => g.1 h0, rfl⟩⟩
  walk_at "dn"
  refine if_2 (fun h1 => ?_) fun h1 => ?_
  · walk_at "dn"
    exact ⟨rfl, .inr ⟨fun g => absurd g.2.1 (by omega), rfl⟩⟩
  walk_at "dn"
  obtain ⟨c0, r0, e0⟩ := ne_cons h0
  have hl : w.cps.toList.length = w.length := (TL.len_tl w).symm
  refine wp_lcs (fun l acc s1 => s1 = s ∧ ∃ cs bad, l = cs.map (fun c => D.str ⟨#[c]⟩) ∧ acc = bad.map D.str ∧ (∀ c ∈ cs, c ∈ w.cps.toList) ∧ (∀ b ∈ bad, Asc b) ∧ (bad = [] → D9 cs → D9 w.cps.toList) ∧ (bad ≠ [] → ¬D9 w.cps.toList) ∧ bad.length + cs.length ≤ 9) _ _
    ⟨rfl, w.cps.toList, [], rfl, rfl, fun _ h => h, fun _ h => (nomatch h), fun _ h => h, fun h => (h rfl).elim, by simp only [List.length_nil]; omega⟩ ?_ ?_
  · rintro acc s1 ⟨rfl, cs, bad, hr, rfl, hm, hb, hd, hn, hz⟩
    have hcs : cs = [] := List.map_eq_nil_iff.mp hr.symm
    subst hcs
    walk_at "dn"
    refine op_neStrs (b := []) hb (fun _ h => (nomatch h)) ?_
    walk_at "dn"
    refine if_2n (fun h2 => ?_) fun h2 => ?_
    · walk_at "dn"
      exact ⟨rfl, .inr ⟨fun g => hn h2 g.2.2.1, rfl⟩⟩
    have hd := hd h2 fun _ h => (nomatch h)
    walk_at "dn"
    rw [e0]
    walk_at "dn"
    refine if_2 (fun h2 => ?_) fun h2 => ?_
    · walk_at "dn"
      have hc0 : c0 = 48 := str1_0.mp h2
      refine if_2n (fun h3 => ?_) fun h3 => ?_
      · walk_at "dn"
        refine ⟨rfl, .inr ⟨fun g => g.2.2.2 ⟨by rw [e0, hc0]; rfl, ?_⟩, rfl⟩⟩
        rcases Nat.lt_or_ge 1 w.length with q | q
        · exact q
        · refine (h3 (TL.ext_tl ?_)).elim
          show w.cps.toList = _
          rw [e0] at hl ⊢
          simp only [List.length_cons] at hl
          have : r0 = [] := List.length_eq_zero_iff.mp (by omega)
          rw [this, hc0]
          decide +kernel
      · walk_at "dn"
        refine op_intS hd (by rw [e0]; simp) (by omega) ?_
        refine ⟨rfl, .inl ⟨⟨h0, by omega, hd, fun q => ?_⟩, rfl⟩⟩
        have : w.length = 1 := by rw [h3]; decide +kernel
        omega
    · walk_at "dn"
      refine op_intS hd (by rw [e0]; simp) (by omega) ?_
      exact ⟨rfl, .inl ⟨⟨h0, by omega, hd, fun q => h2 (str1_0.mpr (by have := q.1; rw [e0] at this; exact Option.some.inj this))⟩, rfl⟩⟩
  · rintro x r acc s1 ⟨rfl, cs, bad, hr, rfl, hm, hb, hd, hn, hz⟩
    cases cs with
    | nil => cases hr
    | cons c cs =>
      injection hr with hr1 hr2
      subst hr1
      have hcw := hm c List.mem_cons_self
      refine ⟨by rw [List.length_map]; omega, ?_⟩
      walk_at "dn"
      refine if_2n (fun h2 => ?_) fun h2 => ?_
      · walk_at "dn"
        refine ⟨rfl, cs, bad ++ [⟨#[c]⟩], hr2, by simp, fun z hz => hm z (List.mem_cons_of_mem _ hz), fun b q => ?_, fun q => absurd q (by simp), fun _ g => h2 (digit_in.mpr (g c hcw)), by simp only [List.length_append, List.length_cons, List.length_nil] at hz ⊢; omega⟩
        rcases List.mem_append.mp q with q | q
        · exact hb b q
        · cases List.mem_singleton.mp q
          exact str1_asc (ha c hcw)
      · walk_at "dn"
        exact ⟨rfl, cs, bad, hr2, rfl, fun z hz => hm z (List.mem_cons_of_mem _ hz), hb, fun e q => hd e fun z hz => (List.mem_cons.mp hz).elim (fun e => by rw [e]; exact digit_in.mp h2) (q z), hn, by simp only [List.length_cons] at hz; omega⟩
theorem cut1 {α : Type} {x : α} {l : List α} : cutD (x :: l) (some 1) none = l := by
  unfold cutD
  rw [show (some (1 : Int)) = some (((1 : Nat)) : Int) from rfl, HT.sIx_nat, HT.sIx_none]
  simp only [List.length_cons]
  rw [Nat.min_eq_left (by omega)]
  simp
theorem act_ok {s : Store} {h : Nat} {t : Int} (b : Bag s h t) (ht : t + 10 < 1000000) : Wp (f__law_act [.hnd h] s) (fun r s1 => ∃ (w : Str) (l : List D), r = .tup (.str w :: l) ∧ w.length ≤ 10 ∧ Asc w ∧ l.length ≤ 1 ∧ (∀ d ∈ l, ∃ n : Int, d = .int n ∧ 0 ≤ n ∧ n < 10 ^ 10) ∧ Bag s1 h (t + 4)) NX := by
  unfold f__law_act; refine wp_in rfl ?_; unfold m__law_act
  walk_at "dn"
  refine (draw_ok b (by omega) (by omega) (by omega)).go ?_
  rintro _ s1 ⟨n1, rfl, p0, p1, b1⟩
  walk_at "dn"
  refine op_at_all p0 (by simp only [List.length_cons, List.length_nil]; omega) fun x hx => ?_
  obtain ⟨w, rfl, hw, aw⟩ := (rowB_ok (b := 10) (by decide +kernel) : Row 10 _) x hx
  walk_at "dn"
  refine if_b (fun h0 => ?_) fun h0 => ?_
  · walk_at "dn"
    exact ⟨w, [], rfl, hw, aw, Nat.zero_le _, fun _ q => (nomatch q), b1.mono (by omega)⟩
  walk_at "dn"
  refine (draw_ok b1 (by omega) (by omega) (by omega)).go ?_
  rintro _ s2 ⟨n2, rfl, q0, q1, b2⟩
  walk_at "dn"
  refine (draw_ok b2 (by omega) (by omega) (by omega)).go ?_
  rintro _ s3 ⟨n3, rfl, r0, r1, b3⟩
  walk_at "dn"
  refine (draw_ok b3 (by omega) (by omega) (by omega)).go ?_
  rintro _ s4 ⟨n4, rfl, u0, u1, b4⟩
  walk_at "dn"
  have fin : ∀ x ∈ [D.int 0, .int 999999999, .int n2, .int n3], ∃ n : Int, x = .int n ∧ 0 ≤ n ∧ n < 10 ^ 10 := fun x hx => by
    simp only [List.mem_cons, List.not_mem_nil, or_false] at hx
    rcases hx with rfl | rfl | rfl | rfl
    · exact ⟨_, rfl, by decide, by decide⟩
    · exact ⟨_, rfl, by decide, by decide⟩
    · exact ⟨_, rfl, q0, by omega⟩
    · exact ⟨_, rfl, r0, by omega⟩
  refine op_at_all u0 (by simp only [List.length_cons, List.length_nil]; omega) fun x hx => ?_
  obtain ⟨n, rfl, hn0, hn1⟩ := fin x hx
  walk_at "dn"
  exact ⟨w, [.int n], rfl, hw, aw, Nat.le_refl _, fun d q => by
    cases List.mem_singleton.mp q
    exact ⟨n, rfl, hn0, hn1⟩, b4.mono (by omega)⟩
theorem parts_tail {s : Store} {h : Nat} {act near : D} {row : List D} {t : Int} {nx bk ct : Env → Store → Prop} {ex : D → Env → Store → Prop} (b : Bag s h t) (ht : t ≤ 100) (hr : Row 63 row) (hl : row.length ≤ 16) :
    Ws (((sSeq (sSet (gN 4) (eLst (eCons (eC (.str ("post" : PySem.Str))) (eCons (eC (.str ("reap" : PySem.Str))) (eCons (eC (.str ("fetch" : PySem.Str))) (eCons (eC (.str ("forget" : PySem.Str))) (eCons (eC (.str ("store" : PySem.Str))) (eCons (eC (.str ("give" : PySem.Str))) (eCons (eC (.str ("get" : PySem.Str))) (eCons (eC (.str ("write" : PySem.Str))) (eCons (eC (.str ("read" : PySem.Str))) eNil)))))))))))   (sSeq (sSet (gN 4) (eOp addD (eVar 4) (eLst (eCons (eC (.str ("" : PySem.Str))) (eCons (eC (.str ("0" : PySem.Str))) (eCons (eC (.str ("7" : PySem.Str))) (eCons (eC (.str ("Post" : PySem.Str))) (eCons (eC (.str ("stain" : PySem.Str))) (eCons (eC (.str ("try" : PySem.Str))) eNil)))))))))   (sSeq (sFor (itR1 (eCons (eOp ixD (eLst (eCons (eC (.int 0)) (eCons (eC (.int 1)) (eCons (eC (.int 1)) (eCons (eC (.int 2)) eNil))))) (eCall f__law_draw (eCons (eVar 0) (eCons (eC (.int 4)) eNil)))) eNil)) (gN 5) (sSet (gN 2) (eCall f__law_changed (eCons (eVar 0) (eCons (eVar 2) (eCons (eOp addD (eVar 4) (eLst (eCons (eC (.str ("peek" : PySem.Str))) (eCons (eC (.str ("lend" : PySem.Str))) (eCons (eC (.str ("fill" : PySem.Str))) (eCons (eC (.str ("post\n" : PySem.Str))) eNil)))))) eNil))))))   (sRet (eVar 2))))) : S) [some (.hnd h), some act, some (.lst row), some near, none, none, none] s) nx (fun r s1 => ∃ ws : List Str, r = .lst (ws.map D.str) ∧ ws.length ≤ 1024 ∧ (∀ w ∈ ws, w.length ≤ 511 ∧ Asc w)) bk ct ex := by
  walk_at "dn"
  refine (draw_ok b (by omega) (by omega) (by omega)).go ?_
  rintro _ s1 ⟨n1, rfl, p0, p1, b1⟩
  walk_at "dn"
  have hc : ∀ x ∈ [D.int 0, .int 1, .int 1, .int 2], ∃ n : Int, x = .int n ∧ 0 ≤ n ∧ n ≤ 2 := fun x hx => by
    simp only [List.mem_cons, List.not_mem_nil, or_false] at hx
    rcases hx with rfl | rfl | rfl | rfl <;> exact ⟨_, rfl, by decide, by decide⟩
  refine op_at_all p0 (by simp only [List.length_cons, List.length_nil]; omega) fun x hx => ?_
  obtain ⟨c, rfl, c0, c1⟩ := hc x hx
  walk_at "dn"
  refine ws_loop (fun r v s' => ∃ row B N u y, v = [some (.hnd h), some act, some (.lst row), some near, some (.lst _), y, none] ∧ Row B row ∧ row.length ≤ N ∧ 10 ≤ B ∧ 1 ≤ N ∧ (B + 1) * 2 ^ r.length ≤ 512 ∧ N * 4 ^ r.length ≤ 1024 ∧ Bag s' h u ∧ u + 5 * r.length ≤ 1000) _
    ⟨row, 63, 16, t + 1, none, rfl, hr, hl, by decide, by decide, ?_, ?_, b1, ?_⟩ ?_ ?_
  · show _ * 2 ^ (upto 0 c.toNat).length ≤ 512
    rw [upto_len]
    exact Nat.le_trans (Nat.mul_le_mul_left _ (Nat.pow_le_pow_right (by decide) (show c.toNat ≤ 2 by omega))) (by decide)
  · show _ * 4 ^ (upto 0 c.toNat).length ≤ 1024
    rw [upto_len]
    exact Nat.le_trans (Nat.mul_le_mul_left _ (Nat.pow_le_pow_right (by decide) (show c.toNat ≤ 2 by omega))) (by decide)
  · show _ + 5 * (((upto 0 c.toNat).length : Nat) : Int) ≤ 1000
    rw [upto_len]
    omega
  · rintro v s' ⟨row, B, N, u, y, rfl, hr, hl, hB, hN, k1, k2, b, _⟩
    walk_at "dn"
    obtain ⟨ws, rfl, hws⟩ := hr.words
    rw [List.length_map] at hl
    simp only [List.length_nil, Nat.pow_zero, Nat.mul_one] at k1 k2
    exact ⟨ws, rfl, by omega, fun w hw => ⟨Nat.le_trans (hws w hw).1 (by omega), (hws w hw).2⟩⟩
  · rintro x r v s' ⟨row, B, N, u, y, rfl, hr, hl, hB, hN, k1, k2, b, k3⟩
    rw [List.length_cons] at k1 k2 k3
    have g1 := Nat.le_trans (Nat.le_mul_of_pos_right (B + 1) (Nat.two_pow_pos (r.length + 1))) k1
    have g2 := Nat.le_trans (Nat.le_mul_of_pos_right N (Nat.pow_pos (n := r.length + 1) (by decide : 0 < 4))) k2
    walk_at "dn"
    refine (changed_ok b (by omega) hr ((rowB_ok (b := 10) (by decide +kernel)).mono hB) (by omega) (by omega) (by omega) (by decide) (by decide)).go ?_
    rintro _ s2 ⟨l, rfl, hr2, hl2, b2⟩
    walk_at "dn"
    refine ⟨l, 2 * B + 1, 3 * N + 1, u + 5, _, rfl, hr2, by omega, by omega, by omega, ?_, ?_, b2, by omega⟩
    · rw [Nat.pow_succ, Nat.mul_comm (2 ^ r.length) 2, ← Nat.mul_assoc] at k1
      exact Nat.le_trans (Nat.mul_le_mul_right _ (by omega)) k1
    · rw [Nat.pow_succ, Nat.mul_comm (4 ^ r.length) 4, ← Nat.mul_assoc] at k2
      exact Nat.le_trans (Nat.mul_le_mul_right _ (by omega)) k2
theorem parts_ok {s : Store} {h : Nat} (b : Bag s h 0) : Wp (f__law_parts [.hnd h] s) (fun r s1 => ∃ ws : List Str, r = .lst (ws.map D.str) ∧ ws.length ≤ 1024 ∧ (∀ w ∈ ws, w.length ≤ 511 ∧ Asc w)) NX := by
  unfold f__law_parts; refine wp_in rfl ?_; unfold m__law_parts
  walk_at "dn"
  refine (act_ok b (by omega)).go ?_
  rintro _ s1 ⟨w, l, rfl, hw, aw, hl, hi, b1⟩
  walk_at "dn"
  rw [cut1]
  refine wp_lcs (fun r acc s' => s' = s1 ∧ (∀ d ∈ r, ∃ n : Int, d = .int n ∧ 0 ≤ n ∧ n < 10 ^ 10) ∧ Row 10 acc ∧ acc.length + r.length ≤ 1) _ _ ⟨rfl, hi, Row.nil, by simpa using hl⟩ ?_ ?_
  · rintro acc s2 ⟨rfl, _, ra, la⟩
    simp only [List.length_nil, Nat.add_zero] at la
    have hr : Row 10 ([D.str w] ++ acc) := (Row.one hw aw).append ra
    walk_at "dn"
    · walk_at "dn_len"
    · refine (draw_ok b1 (by omega) (by omega) (by omega)).go ?_
      rintro _ s2 ⟨n1, rfl, p0, p1, b2⟩
      walk_at "dn"
      refine if_2 (fun h0 => ?_) fun h0 => ?_
      · walk_at "dn"
        refine (draw_ok b2 (by omega) (by omega) (by omega)).go ?_
        rintro _ s3 ⟨n2, rfl, q0, q1, b3⟩
        walk_at "dn"
        refine op_at_all q0 (Int.lt_of_lt_of_le q1 (by decide)) fun x hx => ?_
        obtain ⟨z, rfl, hz, az⟩ := (rowB_ok (b := 10) (by decide +kernel) : Row 10 _) x hx
        have hx : Row 10 [D.str z] := .one hz az
        repeat' (first | exact parts_tail b3 (by omega) (Row.mono (b := 10) (by walk_at "dn_row") (by decide)) (by walk_at "dn_len") | walk_at "dn1")
      · repeat' (first | exact parts_tail b2 (by omega) (Row.mono (b := 10) (by walk_at "dn_row") (by decide)) (by walk_at "dn_len") | walk_at "dn1")
  · rintro x r acc s2 ⟨rfl, hi, ra, la⟩
    rw [List.length_cons] at la
    obtain ⟨n, rfl, n0, n1⟩ := hi x List.mem_cons_self
    have hn := num_text n0 (k := 10) (by decide) n1
    refine ⟨by omega, ?_⟩
    walk_at "dn"
    exact ⟨rfl, fun d hd => hi d (List.mem_cons_of_mem _ hd), ra.append (.one hn.1 hn.2), by simp only [List.length_append, List.length_cons, List.length_nil]; omega⟩
/-! ### what a text tells -/
abbrev isN (p : Str) : Bool := L2.inV (.str p) [.str "fetch", .str "forget", .str "store", .str "give", .str "get", .str "write", .str "read"]
abbrev isB (p : Str) : Bool := L2.inV (.str p) [.str "post", .str "reap"]
theorem not_both {p : Str} (h : isN p = true) : isB p = false := by
  simp only [isN, L2.inV, List.any_cons, List.any_nil, Bool.or_false, Bool.or_eq_true] at h
  have e : ∀ q : Str, L2.eqV (.str q) (.str p) = true → q = p := fun q h => by simpa [L2.eqV] using h
  rcases h with h | h | h | h | h | h | h <;> (have h := e _ h; subst h; decide +kernel)
open Classical in
noncomputable def evR (p : Str) (r : List Str) : Sum D Int :=
  if isN p = true then (match r with
    | [] => .inr 1
    | q :: r' => if good q then (if r' = [] then .inl (.tup [.str p, .int (valOf q)]) else .inr 2) else .inr 1)
  else if isB p = true then (if r = [] then .inl (.tup [.str p]) else .inr 1) else .inr 0
def sayR : Sum D Int → D
  | .inl d => .lst [.str ("read" : Str), d]
  | .inr i => .lst [.str ("place" : Str), .int i]
theorem read_event_ok {s : Store} {z p : Str} {r : List Str} (hz : z.length ≤ 1000000) (hsp : PySem.Txt.split z gap = p :: r) (hw : ∀ w ∈ p :: r, w.length ≤ 1000000) :
    Wp (f_read_event [.str z] s) (fun d s1 => s1 = s ∧ evR p r = .inl d) (fun e s1 => s1 = s ∧ ∃ i, e = .exc 1 [.int i] ∧ evR p r = .inr i) := by
  have e : (PySem.Txt.split z gap).map D.str = .str p :: r.map D.str := by rw [hsp]; rfl
  unfold f_read_event; refine wp_in rfl ?_; unfold m_read_event
  walk_at "dn"
  refine op_split hz ?_
  rw [e]
  walk_at "dn"
  refine if_b (fun h0 => ?_) fun h0 => ?_
  · walk_at "dn"
    refine if_2 (fun h1 => ?_) fun h1 => ?_
    · cases r with
      | nil => exact absurd h1 (by simp)
      | cons q r' =>
        rw [List.map_cons]
        walk_at "dn"
        refine (read_number_ok (hw q (List.mem_cons_of_mem _ List.mem_cons_self))).go ?_
        rintro _ s1 ⟨rfl, ⟨g, rfl⟩ | ⟨g, rfl⟩⟩
        · walk_at "dn"
          refine if_2 (fun h2 => ?_) fun h2 => ?_
          · walk_at "dn"
            refine ⟨rfl, 2, rfl, ?_⟩
            have hr : r' ≠ [] := fun e => by
              rw [e] at h2
              exact absurd h2 (by simp)
            simp [evR, h0, g, hr]
          · walk_at "dn"
            have hr : r' = [] := by
              cases r' with
              | nil => rfl
              | cons a b =>
                refine (h2 ?_).elim
                simp only [List.map_cons, List.length_cons, List.length_nil]
                omega
            exact ⟨rfl, by simp [evR, h0, g, hr]⟩
        · walk_at "dn"
          exact ⟨rfl, 1, rfl, by simp [evR, h0, g]⟩
    · cases r with
      | cons q r' =>
        refine (h1 ?_).elim
        simp only [List.map_cons, List.length_cons]
        omega
      | nil =>
        walk_at "dn"
        exact ⟨rfl, 1, rfl, by simp [evR, h0]⟩
  · walk_at "dn"
    refine if_b (fun h1 => ?_) fun h1 => ?_
    · walk_at "dn"
      have hb : isB p = false := by simpa using h1
      exact ⟨rfl, 0, rfl, by simp [evR, h0, hb]⟩
    · have hb : isB p = true := by simpa using h1
      walk_at "dn"
      refine if_2 (fun h2 => ?_) fun h2 => ?_
      · walk_at "dn"
        refine ⟨rfl, 1, rfl, ?_⟩
        have hr : r ≠ [] := fun e => by
          rw [e] at h2
          exact absurd h2 (by simp)
        simp [evR, h0, hb, hr]
      · walk_at "dn"
        have hr : r = [] := by
          cases r with
          | nil => rfl
          | cons a b =>
            refine (h2 ?_).elim
            simp only [List.map_cons, List.length_cons, List.length_nil]
            omega
        exact ⟨rfl, by simp [evR, h0, hb, hr]⟩
theorem told_ok {s : Store} {z p : Str} {r : List Str} (hz : z.length ≤ 1000000) (hsp : PySem.Txt.split z gap = p :: r) (hw : ∀ w ∈ p :: r, w.length ≤ 1000000) :
    Wp (f__law_told [.str z] s) (fun d s1 => s1 = s ∧ d = sayR (evR p r)) NX := by
  unfold f__law_told; refine wp_in rfl ?_; unfold m__law_told
  walk_at "dn"
  refine (read_event_ok hz hsp hw).mono ?_ ?_
  · rintro d s1 ⟨rfl, h⟩
    walk_at "dn"
    exact ⟨rfl, by rw [h]; rfl⟩
  · rintro _ s1 ⟨rfl, i, rfl, h⟩
    walk_at "dn"
    exact ⟨rfl, by rw [h]; rfl⟩
theorem due_ok {s : Store} {p : Str} {r : List Str} (hw : ∀ w ∈ p :: r, w.length ≤ 1000000 ∧ Asc w) : Wp (f__law_due [.lst (.str p :: r.map D.str)] s) (fun d s1 => s1 = s ∧ d = sayR (evR p r)) NX := by
  unfold f__law_due; refine wp_in rfl ?_; unfold m__law_due
  walk_at "dn"
  refine if_b (fun h0 => ?_) fun h0 => ?_
  · have hn : isN p = false := by
      cases h : isN p with
      | false => rfl
      | true => exact absurd (not_both h) (by rw [show isB p = true from h0]; simp)
    walk_at "dn"
    refine if_2 (fun h1 => ?_) fun h1 => ?_
    · walk_at "dn"
      have hr : r = [] := by
        cases r with
        | nil => rfl
        | cons a b =>
          simp only [List.map_cons, List.length_cons] at h1
          omega
      exact ⟨rfl, by simp [evR, hn, show isB p = true from h0, hr, sayR]⟩
    · walk_at "dn"
      have hr : r ≠ [] := fun e => by
        rw [e] at h1
        exact h1 (by simp)
      exact ⟨rfl, by simp [evR, hn, show isB p = true from h0, hr, sayR]⟩
  walk_at "dn"
  refine if_b (fun h1 => ?_) fun h1 => ?_
  · walk_at "dn"
    have hn : isN p = false := by simpa using h1
    exact ⟨rfl, by simp [evR, hn, show isB p = false from h0, sayR]⟩
  have hn : isN p = true := by simpa using h1
  walk_at "dn"
  refine if_2 (fun h2 => ?_) fun h2 => ?_
  · walk_at "dn"
    have hr : r = [] := by
      cases r with
      | nil => rfl
      | cons a b =>
        simp only [List.map_cons, List.length_cons] at h2
        omega
    exact ⟨rfl, by simp [evR, hn, hr, sayR]⟩
  cases r with
  | nil => exact (h2 (by simp)).elim
  | cons q r' =>
    rw [List.map_cons]
    walk_at "dn"
    have hq := hw q (List.mem_cons_of_mem _ List.mem_cons_self)
    refine (law_number_ok hq.1 hq.2).go ?_
    rintro _ s1 ⟨rfl, ⟨g, rfl⟩ | ⟨g, rfl⟩⟩
    · walk_at "dn"
      have hc : q.cps.toList ≠ [] := fun e => by
        obtain ⟨c, r, e2⟩ := ne_cons g.1
        rw [e] at e2
        cases e2
      refine if_2 (fun h4 => ?_) fun h4 => ?_
      · walk_at "dn"
        refine op_intS g.2.2.1 hc (by have := g.2.1; omega) ?_
        have hr : r' = [] := by
          cases r' with
          | nil => rfl
          | cons a b =>
            simp only [List.map_cons, List.length_cons] at h4
            omega
        exact ⟨rfl, by simp [evR, hn, g, hr, sayR, valOf]⟩
      · walk_at "dn"
        have hr : r' ≠ [] := fun e => by
          rw [e] at h4
          exact h4 (by simp)
        exact ⟨rfl, by simp [evR, hn, g, hr, sayR]⟩
    · walk_at "dn"
      exact ⟨rfl, by simp [evR, hn, g, sayR]⟩
/-! ### what is shown of it -/
theorem asc_of_in {p : Str} {l : List Str} (hl : ∀ w ∈ l, Asc w ∧ w.length ≤ 10) (h : L2.inV (.str p) (l.map L2.V.str) = true) : Asc p ∧ p.length ≤ 10 := by
  unfold L2.inV at h
  obtain ⟨y, hy, he⟩ := List.any_eq_true.mp h
  obtain ⟨w, hw, rfl⟩ := List.mem_map.mp hy
  have e : w = p := by simpa [L2.eqV] using he
  exact e ▸ hl w hw
theorem ascB {l : List Str} (h : (l.all fun w => decide (w.length ≤ 10) && w.cps.toList.all fun c => decide (c < 128)) = true) : ∀ w ∈ l, Asc w ∧ w.length ≤ 10 := fun w hw => by
  obtain ⟨h1, h2⟩ := Bool.and_eq_true_iff.mp (List.all_eq_true.mp h w hw)
  exact ⟨fun c hc => of_decide_eq_true (List.all_eq_true.mp h2 c hc), of_decide_eq_true h1⟩
theorem asc_cps {p : Str} (h : Asc p) : (p.cps.all (· < 0x110000)) = true := asc_ok h
theorem shows_place {i : Int} (h : i.natAbs < 10 ^ 12) : Shows (.lst [.str ("place" : Str), .int i]) := by
  refine shows_of (p := .list [.str ("place" : Str), .int i]) rfl (fun _ q => by cases q) ?_ (Nat.le_of_ble_eq_true rfl) ?_
  · show (nice (.str ("place" : Str)) && (decide (i.natAbs < 10 ^ 12) && true)) = true
    rw [decide_eq_true h]
    decide +kernel
  · show PyData.weight (.str ("place" : Str)) + 1 + (PyData.weight (.int i) + 1 + 0) ≤ 2 ^ 20
    have h1 := int_weight h
    have h2 : PyData.weight (.str ("place" : Str)) = 5 := by decide +kernel
    rw [h2]
    omega
theorem shows_read1 {p : Str} (h : Asc p) (hl : p.length ≤ 10) : Shows (.lst [.str ("read" : Str), .tup [.str p]]) := by
  refine shows_of (p := .list [.str ("read" : Str), .tuple [.str p]]) rfl (fun _ q => by cases q) ?_ (Nat.le_of_ble_eq_true rfl) ?_
  · show (nice (.str ("read" : Str)) && ((p.cps.all (· < 0x110000) && true) && true)) = true
    rw [asc_cps h]
    decide +kernel
  · show PyData.weight (.str ("read" : Str)) + 1 + ((p.length + 1 + 0) + 1 + 0) ≤ 2 ^ 20
    have h2 : PyData.weight (.str ("read" : Str)) = 4 := by decide +kernel
    rw [h2]
    omega
theorem shows_read2 {p : Str} {i : Int} (h : Asc p) (hl : p.length ≤ 10) (hi : i.natAbs < 10 ^ 12) : Shows (.lst [.str ("read" : Str), .tup [.str p, .int i]]) := by
  refine shows_of (p := .list [.str ("read" : Str), .tuple [.str p, .int i]]) rfl (fun _ q => by cases q) ?_ (Nat.le_of_ble_eq_true rfl) ?_
  · show (nice (.str ("read" : Str)) && ((p.cps.all (· < 0x110000) && (decide (i.natAbs < 10 ^ 12) && true)) && true)) = true
    rw [asc_cps h, decide_eq_true hi]
    decide +kernel
  · show PyData.weight (.str ("read" : Str)) + 1 + ((p.length + 1 + (PyData.weight (.int i) + 1 + 0)) + 1 + 0) ≤ 2 ^ 20
    have h1 := int_weight hi
    have h2 : PyData.weight (.str ("read" : Str)) = 4 := by decide +kernel
    rw [h2]
    omega
theorem val_small {q : Str} (g : good q) : (valOf q).natAbs < 10 ^ 12 := by
  have h := digits_lt q.cps.toList 0 g.2.2.1
  have h2 : q.cps.toList.length ≤ 9 := by
    have := g.2.1
    rw [TL.len_tl] at this
    exact this
  have h3 : 10 ^ q.cps.toList.length ≤ 10 ^ 9 := Nat.pow_le_pow_right (by decide) h2
  show (PySem.NumText.digitsVal q.cps.toList) < 10 ^ 12
  have h4 : PySem.NumText.digitsVal q.cps.toList < (0 + 1) * 10 ^ q.cps.toList.length := h
  omega
theorem say_shows (p : Str) (r : List Str) : Shows (sayR (evR p r)) := by
  unfold evR
  split
  · rename_i hn
    have ha := asc_of_in (l := [("fetch" : Str), ("forget" : Str), ("store" : Str), ("give" : Str), ("get" : Str), ("write" : Str), ("read" : Str)]) (ascB (by decide +kernel)) hn
    split
    · exact shows_place (by decide)
    · split
      · rename_i g
        split
        · exact shows_read2 ha.1 ha.2 (val_small g)
        · exact shows_place (by decide)
      · exact shows_place (by decide)
  · split
    · rename_i hb
      have ha := asc_of_in (l := [("post" : Str), ("reap" : Str)]) (ascB (by decide +kernel)) hb
      split
      · exact shows_read1 ha.1 ha.2
      · exact shows_place (by decide)
    · exact shows_place (by decide)
theorem law_holds (ns : List Int) (hl : ns.length ≤ 63) : ∃ s, f_law [.fro (ns.map D.int)] [] = .ok (.bl true) s := by
  have main : Wp (f_law [.fro (ns.map D.int)] []) (fun d _ => d = .bl true) NX := by
    unfold f_law; refine wp_in rfl ?_; unfold m_law
    have hn : (ns.map D.int).length ≤ 63 := by rw [List.length_map]; exact hl
    walk_at "dn"
    · walk_at "dn_len"
    refine ws_loop (fun r v s' => ∃ a b c d, v = [some (.fro (ns.map D.int)), a, b, c, d] ∧ ∀ x ∈ r, ∃ i, x = D.int i) _ ⟨none, none, none, none, rfl, fun x hx => ?_⟩ ?_ ?_
    · rcases List.mem_append.mp hx with hx | hx
      · exact ⟨_, List.mem_singleton.mp hx⟩
      · obtain ⟨i, _, rfl⟩ := List.mem_map.mp (mem_cutD hx)
        exact ⟨i, rfl⟩
    · rintro v s' ⟨a, b, c, d, rfl, _⟩
      walk_at "dn"
      rfl
    · rintro x r v s' ⟨a, b, c, d, rfl, hx⟩
      obtain ⟨i, rfl⟩ := hx x List.mem_cons_self
      walk_at "dn"
      refine bag_ok.go ?_
      rintro _ s1 ⟨rfl, bg⟩
      walk_at "dn"
      refine (parts_ok bg).go ?_
      rintro _ s2 ⟨ws, rfl, hz, hw⟩
      walk_at "dn"
      have hs := sum_le ws fun w h => (hw w h).1
      have hs2 : ws.length * 511 ≤ 1024 * 511 := Nat.mul_le_mul_right _ hz
      refine op_joinL (by omega) ?_
      have hj := join_len ws
      have ja := join_asc fun w h => (hw w h).2
      generalize PySem.Txt.join gap ws = z at hj ja ⊢
      walk_at "dn"
      have hz2 : z.length ≤ 1000000 := by omega
      refine op_split hz2 ?_
      cases hsp : PySem.Txt.split z gap with
      | nil => exact (split_ne z hsp).elim
      | cons p r' =>
        have hwz : ∀ w ∈ p :: r', w.length ≤ 1000000 ∧ Asc w := fun w h => by
          rw [← hsp] at h
          exact ⟨Nat.le_trans (split_mem h).1 hz2, (split_mem h).2 ja⟩
        obtain ⟨y, hy⟩ := say_shows p r'
        rw [List.map_cons]
        walk_at "dn"
        refine (due_ok hwz).go ?_
        rintro _ s3 ⟨rfl, rfl⟩
        walk_at "dn"
        refine (told_ok hz2 hsp fun w h => (hwz w h).1).go ?_
        rintro _ s4 ⟨rfl, rfl⟩
        walk_at "dn"
        refine op_by (hy _) ?_
        walk_at "dn"
        refine op_by (hy _) ?_
        walk_at "dn"
        refine if_2n (fun h => (h rfl).elim) fun _ => ?_
        walk_at "dn"
        refine (told_ok hz2 hsp fun w h => (hwz w h).1).go ?_
        rintro _ s5 ⟨rfl, rfl⟩
        walk_at "dn"
        refine op_by (hy _) ?_
        walk_at "dn"
        refine op_by (hy _) ?_
        walk_at "dn"
        refine if_2n (fun h => (h rfl).elim) fun _ => ?_
        walk_at "dn"
        exact ⟨_, _, _, _, rfl, fun y hy => hx y (List.mem_cons_of_mem _ hy)⟩
  obtain ⟨a, s, e, h⟩ := main.ok
  exact ⟨s, by rw [e, h]⟩
end Dn
namespace Dn
open PySem PySem.Spec PyProof.Rows L2
abbrev prog : Program := PySem.Challenge.pw_lentslots_k69_event_words_refused
def top (i : Nat) : Stmt := prog.main.body.getD i (.Pass ⟨0, 0, 0, 0⟩)
abbrev clss : List (Str × List Str) := [("SlotError", []), ("InvalidWords", ["place"])]
def wp : PySem.WordX.WPos := ⟨("a word cannot stand there" : PySem.Str), ⟨6, 17, 6, 21⟩, ⟨6, 23, 6, 28⟩, ⟨7, 8, 7, 13⟩, ⟨7, 8, 7, 15⟩, ⟨7, 8, 7, 24⟩, ⟨7, 25, 7, 52⟩, ⟨7, 8, 7, 53⟩, ⟨7, 8, 7, 53⟩, ⟨8, 8, 8, 12⟩, ⟨8, 8, 8, 18⟩, ⟨8, 21, 8, 26⟩, ⟨8, 8, 8, 26⟩⟩
theorem wsh : PySem.WordX.WShape wp := fun _ => ⟨_, rfl⟩
theorem wfile : (prog.main.file == prog.main.file) = true := by decide +kernel
theorem wtop : (prog.main.scope.names.lookup ("super" : Str)).isSome = false := by decide +kernel
/-- what the head tells -/
structure TX (K : PySem.W.Frag) (mg : Str → Option Value) (pm : Pm) : Prop where
  b_int : mg "int" = none
  b_len : mg "len" = none
  b_range : mg "range" = none
  b_repr : mg "repr" = none
  b_str : mg "str" = none
  c_MOST_DIGITS : GV pm K mg "MOST_DIGITS" c_MOST_DIGITS
  c_DIGITS : GV pm K mg "DIGITS" c_DIGITS
  c_NUMBERED_EVENTS : GV pm K mg "NUMBERED_EVENTS" c_NUMBERED_EVENTS
  c_BARE_EVENTS : GV pm K mg "BARE_EVENTS" c_BARE_EVENTS
  n_InvalidWords : mg "InvalidWords" = some (.ref (He.ga K "InvalidWords"))
  sub_InvalidWords : ∀ k, PySem.W.exmOne K (.ref (pm.ca k)) (.ref (He.ga K "InvalidWords")) = some (Dn.sub_InvalidWords k)
  words : PySem.WordX.WTxt K mg prog.main.file (pm.ca 1) (He.ma K (He.ga K "InvalidWords") "__init__") wp
  xw : XfC K (pm.ca 1)
  noPlace : PySem.W.findIn K (.ref (pm.ca 1)) "place" = some none
  cfw : pm.cf 1 = [("place" : Str)]
section
variable {K : PySem.W.Frag} {mg : Str → Option Value} {pm : Pm}
theorem TX.fldPlace (T : TX K mg pm) : ∀ (vs : List V) (v : V), vs[0]? = some v → ((pm.cf 1).zip vs).lookup ("place" : Str) = some v := by
  intro vs v h
  rw [T.cfw]
  cases vs with
  | nil => cases h
  | cons a r =>
    cases h
    rfl
theorem TX.nm_InvalidWords (T : TX K mg pm) {X : Cx} (e : X.mg = mg) (h : Gl X "InvalidWords" := by rfl) : Names X "InvalidWords" (.ref (He.ga K "InvalidWords")) := ⟨h, by decide, .inl (by rw [e]; exact T.n_InvalidWords)⟩
end
section
variable {w : World} {K : PySem.W.Frag} {mg : Str → Option Value} {base : Heap} {pm : Pm}
theorem sc_read_number : FnScope ["word", "char"] ["word"] (defScope (top 8)) := ⟨rfl, rfl, rfl, by decide +kernel, rfl, by decide +kernel, by decide +kernel⟩
theorem d_read_number {f : Addr} {fd : FuncData} (T : TX K mg pm) (F : FunD K "read_number" "read_number" (defArgs (top 8)) (defBody (top 8)) (defScope (top 8)) [] [] f fd) (hm : mg "read_number" = some (.ref f)) : DF prog w K mg base pm 2 "read_number" ["word"] f_read_number := by
  refine DF.of F sc_read_number hm (F.bindsN fun _ _ _ _ _ _ us hl => match us, hl with | [_], _ => rfl) fun cdv A outer s H E hg hr => ?_
  have nd := (sc_read_number).nd
  have hu := hu_of64 hr
  have hu2 := hu_of68 hr
  have tk : Takes (cxOf (L2.CX prog w) prog w K mg base ["word", "char"] "read_number" (defScope (top 8)) f cdv A outer s H E) (fun cls d _ H => E cls d H) := takes_of rfl rfl rfl rfl
  have hp : PassesOwn (model prog w) (cxOf (L2.CX prog w) prog w K mg base ["word", "char"] "read_number" (defScope (top 8)) f cdv A outer s H E).A (cxOf (L2.CX prog w) prog w K mg base ["word", "char"] "read_number" (defScope (top 8)) f cdv A outer s H E).env (cxOf (L2.CX prog w) prog w K mg base ["word", "char"] "read_number" (defScope (top 8)) f cdv A outer s H E).xe := passes_of rfl
  exact (bcons (sif (tw (wor (tcmp (opr_eq hu) or_eq (xv 0) xstr) (wor1 (tcmp L2.op_gt or_gt (xfn call_len or_len PySem.boot_len T.b_len (xcons (xv 0) xnil)) (xglob T.c_MOST_DIGITS))))) (bone (sret xnon)) bnil)
  (bcons (sfor 1 hp rfl nd (iany (xv 0)) (bone (sif (tcmp opr_nin or_nin (xv 1) (xglob T.c_DIGITS)) (bone (sret xnon)) bnil)))
  (bcons (sif (tw (wand (tcmp (opr_eq hu) or_eq (xix (xv 0) xint) xstr) (wand1 (tcmp L2.op_gt or_gt (xfn call_len or_len PySem.boot_len T.b_len (xcons (xv 0) xnil)) xint)))) (bone (sret xnon)) bnil)
  (bone (sret (xty call_intAll or_int (by decide +kernel) T.b_int (xcons (xv 0) xnil)))))))
structure G_read_event (w : World) (K : PySem.W.Frag) (mg : Str → Option Value) (base : Heap) (pm : Pm) : Prop where
  read_number : DF prog w K mg base pm 2 "read_number" ["word"] f_read_number
theorem sc_read_event : FnScope ["words", "parts", "event", "number"] ["words"] (defScope (top 9)) := ⟨rfl, rfl, rfl, by decide +kernel, rfl, by decide +kernel, by decide +kernel⟩
theorem d_read_event {f : Addr} {fd : FuncData} (T : TX K mg pm) (G : G_read_event w K mg base pm) (F : FunD K "read_event" "read_event" (defArgs (top 9)) (defBody (top 9)) (defScope (top 9)) [] [] f fd) (hm : mg "read_event" = some (.ref f)) : DF prog w K mg base pm 3 "read_event" ["words"] f_read_event := by
  refine DF.of F sc_read_event hm (F.bindsN fun _ _ _ _ _ _ us hl => match us, hl with | [_], _ => rfl) fun cdv A outer s H E hg hr => ?_
  have nd := (sc_read_event).nd
  have hu := hu_of64 hr
  have hu2 := hu_of68 hr
  have tk : Takes (cxOf (L2.CX prog w) prog w K mg base ["words", "parts", "event", "number"] "read_event" (defScope (top 9)) f cdv A outer s H E) (fun cls d _ H => E cls d H) := takes_of rfl rfl rfl rfl
  have hp : PassesOwn (model prog w) (cxOf (L2.CX prog w) prog w K mg base ["words", "parts", "event", "number"] "read_event" (defScope (top 9)) f cdv A outer s H E).A (cxOf (L2.CX prog w) prog w K mg base ["words", "parts", "event", "number"] "read_event" (defScope (top 9)) f cdv A outer s H E).env (cxOf (L2.CX prog w) prog w K mg base ["words", "parts", "event", "number"] "read_event" (defScope (top 9)) f cdv A outer s H E).xe := passes_of rfl
  exact (bcons (sset 1 nd (xsplit (xv 0) xstr))
  (bcons (sset 2 nd (xtup (xcons (xix (xv 1) xint) xnil)))
  (bcons (sif (tcmp opr_in or_in (xix (xv 1) xint) (xglob T.c_NUMBERED_EVENTS)) (bcons (sset 3 nd (xif (tcmp L2.op_gt or_gt (xfn call_len or_len PySem.boot_len T.b_len (xcons (xv 1) xnil)) xint) (xdef G.read_number hr hg tk (xcons (xix (xv 1) xint) xnil)) xnon))
  (bcons (sif (tcmp L2.op_isN or_isN (xv 3) xnon) (bone (sraiseW 1 T.words wsh wfile wtop T.cfw hr rfl tk (xcons xint xnil))) bnil)
  (bone (sset 2 nd (xtup (xcons (xix (xv 1) xint) (xcons (xv 3) xnil))))))) (bone (sif (tcmp opr_nin or_nin (xix (xv 1) xint) (xglob T.c_BARE_EVENTS)) (bone (sraiseW 1 T.words wsh wfile wtop T.cfw hr rfl tk (xcons xint xnil))) bnil)))
  (bcons (sif (tcmp L2.op_gt or_gt (xfn call_len or_len PySem.boot_len T.b_len (xcons (xv 1) xnil)) (xfn call_len or_len PySem.boot_len T.b_len (xcons (xv 2) xnil))) (bone (sraiseW 1 T.words wsh wfile wtop T.cfw hr rfl tk (xcons (xfn call_len or_len PySem.boot_len T.b_len (xcons (xv 2) xnil)) xnil))) bnil)
  (bone (sret (xv 2)))))))
theorem sc__law_bag : FnScope ["cell", "spare"] ["cell"] (defScope (top 11)) := ⟨rfl, rfl, rfl, by decide +kernel, rfl, by decide +kernel, by decide +kernel⟩
theorem d__law_bag {f : Addr} {fd : FuncData} (T : TX K mg pm) (F : FunD K "_law_bag" "_law_bag" (defArgs (top 11)) (defBody (top 11)) (defScope (top 11)) [] [] f fd) (hm : mg "_law_bag" = some (.ref f)) : DF prog w K mg base pm 2 "_law_bag" ["cell"] f__law_bag := by
  refine DF.of F sc__law_bag hm (F.bindsN fun _ _ _ _ _ _ us hl => match us, hl with | [_], _ => rfl) fun cdv A outer s H E hg hr => ?_
  have nd := (sc__law_bag).nd
  have hu := hu_of64 hr
  have hu2 := hu_of68 hr
  have tk : Takes (cxOf (L2.CX prog w) prog w K mg base ["cell", "spare"] "_law_bag" (defScope (top 11)) f cdv A outer s H E) (fun cls d _ H => E cls d H) := takes_of rfl rfl rfl rfl
  have hp : PassesOwn (model prog w) (cxOf (L2.CX prog w) prog w K mg base ["cell", "spare"] "_law_bag" (defScope (top 11)) f cdv A outer s H E).A (cxOf (L2.CX prog w) prog w K mg base ["cell", "spare"] "_law_bag" (defScope (top 11)) f cdv A outer s H E).env (cxOf (L2.CX prog w) prog w K mg base ["cell", "spare"] "_law_bag" (defScope (top 11)) f cdv A outer s H E).xe := passes_of rfl
  exact (bcons (sset 1 nd xint)
  (bcons (sif (tcmp L2.op_ge or_ge (xv 0) (xop L2.op_pow or_pow xint xint)) (bone (sset 1 nd (xop L2.op_sub or_sub (xv 0) (xop L2.op_pow or_pow xint xint)))) bnil)
  (bone (sret (xnew (xcons (xv 1) (xcons (xop L2.op_modN or_mod (xty call_intAll or_int (by decide +kernel) T.b_int (xcons (xv 0) xnil)) xint) (xcons xint xnil))))))))
theorem sc__law_draw : FnScope ["bag", "many", "turn", "mixed", "found"] ["bag", "many"] (defScope (top 12)) := ⟨rfl, rfl, rfl, by decide +kernel, rfl, by decide +kernel, by decide +kernel⟩
theorem d__law_draw {f : Addr} {fd : FuncData} (T : TX K mg pm) (F : FunD K "_law_draw" "_law_draw" (defArgs (top 12)) (defBody (top 12)) (defScope (top 12)) [] [] f fd) (hm : mg "_law_draw" = some (.ref f)) : DF prog w K mg base pm 2 "_law_draw" ["bag", "many"] f__law_draw := by
  refine DF.of F sc__law_draw hm (F.bindsN fun _ _ _ _ _ _ us hl => match us, hl with | [_, _], _ => rfl) fun cdv A outer s H E hg hr => ?_
  have nd := (sc__law_draw).nd
  have hu := hu_of64 hr
  have hu2 := hu_of68 hr
  have tk : Takes (cxOf (L2.CX prog w) prog w K mg base ["bag", "many", "turn", "mixed", "found"] "_law_draw" (defScope (top 12)) f cdv A outer s H E) (fun cls d _ H => E cls d H) := takes_of rfl rfl rfl rfl
  have hp : PassesOwn (model prog w) (cxOf (L2.CX prog w) prog w K mg base ["bag", "many", "turn", "mixed", "found"] "_law_draw" (defScope (top 12)) f cdv A outer s H E).A (cxOf (L2.CX prog w) prog w K mg base ["bag", "many", "turn", "mixed", "found"] "_law_draw" (defScope (top 12)) f cdv A outer s H E).env (cxOf (L2.CX prog w) prog w K mg base ["bag", "many", "turn", "mixed", "found"] "_law_draw" (defScope (top 12)) f cdv A outer s H E).xe := passes_of rfl
  exact (bcons (sif (tcmp L2.op_gt or_gt (xix (xv 0) xint) xint) (bcons (sset 4 nd (xop L2.op_modN or_mod (xty call_intAll or_int (by decide +kernel) T.b_int (xcons (xix (xv 0) xint) xnil)) (xv 1)))
  (bcons (sput (xop L2.op_fdivN or_fdiv (xix (xv 0) xint) (xv 1)) (xv 0) xint)
  (bone (sret (xv 4))))) bnil)
  (bcons (sput (xop opr_add or_add (xix (xv 0) xint) xint) (xv 0) xint)
  (bcons (sset 2 nd (xix (xv 0) xint))
  (bcons (sset 3 nd (xop opr_add or_add (xop opr_add or_add (xix (xv 0) xint) (xop L2.op_mul or_mul (xop L2.op_mul or_mul xint (xv 2)) (xv 2))) (xop L2.op_mul or_mul xint (xv 2))))
  (bcons (sset 3 nd (xop L2.op_fdivN or_fdiv (xop L2.op_modN or_mod (xty call_intAll or_int (by decide +kernel) T.b_int (xcons (xop opr_add or_add (xop L2.op_mul or_mul (xv 3) (xv 3)) (xop L2.op_mul or_mul xint (xv 2))) xnil)) xint) xint))
  (bone (sret (xop L2.op_modN or_mod (xop L2.op_fdivN or_fdiv (xop L2.op_modN or_mod (xty call_intAll or_int (by decide +kernel) T.b_int (xcons (xop opr_add or_add (xop L2.op_mul or_mul (xv 3) (xv 3)) xint) xnil)) xint) xint) (xv 1)))))))))
structure G__law_act (w : World) (K : PySem.W.Frag) (mg : Str → Option Value) (base : Heap) (pm : Pm) : Prop where
  _law_draw : DF prog w K mg base pm 2 "_law_draw" ["bag", "many"] f__law_draw
theorem sc__law_act : FnScope ["bag", "word"] ["bag"] (defScope (top 13)) := ⟨rfl, rfl, rfl, by decide +kernel, rfl, by decide +kernel, by decide +kernel⟩
theorem d__law_act {f : Addr} {fd : FuncData} (T : TX K mg pm) (G : G__law_act w K mg base pm) (F : FunD K "_law_act" "_law_act" (defArgs (top 13)) (defBody (top 13)) (defScope (top 13)) [] [] f fd) (hm : mg "_law_act" = some (.ref f)) : DF prog w K mg base pm 3 "_law_act" ["bag"] f__law_act := by
  refine DF.of F sc__law_act hm (F.bindsN fun _ _ _ _ _ _ us hl => match us, hl with | [_], _ => rfl) fun cdv A outer s H E hg hr => ?_
  have nd := (sc__law_act).nd
  have hu := hu_of64 hr
  have hu2 := hu_of68 hr
  have tk : Takes (cxOf (L2.CX prog w) prog w K mg base ["bag", "word"] "_law_act" (defScope (top 13)) f cdv A outer s H E) (fun cls d _ H => E cls d H) := takes_of rfl rfl rfl rfl
  have hp : PassesOwn (model prog w) (cxOf (L2.CX prog w) prog w K mg base ["bag", "word"] "_law_act" (defScope (top 13)) f cdv A outer s H E).A (cxOf (L2.CX prog w) prog w K mg base ["bag", "word"] "_law_act" (defScope (top 13)) f cdv A outer s H E).env (cxOf (L2.CX prog w) prog w K mg base ["bag", "word"] "_law_act" (defScope (top 13)) f cdv A outer s H E).xe := passes_of rfl
  exact (bcons (sset 1 nd (xix (xlst (xcons xstr (xcons xstr (xcons xstr (xcons xstr (xcons xstr (xcons xstr (xcons xstr (xcons xstr (xcons xstr xnil)))))))))) (xdef G._law_draw hr hg tk (xcons (xv 0) (xcons xint xnil)))))
  (bcons (sif (tcmp opr_in or_in (xv 1) (xlst (xcons xstr (xcons xstr xnil)))) (bone (sret (xtup (xcons (xv 1) xnil)))) bnil)
  (bone (sret (xtup (xcons (xv 1) (xcons (xix (xlst (xcons xint (xcons xint (xcons (xdef G._law_draw hr hg tk (xcons (xv 0) (xcons xint xnil))) (xcons (xdef G._law_draw hr hg tk (xcons (xv 0) (xcons xint xnil))) xnil))))) (xdef G._law_draw hr hg tk (xcons (xv 0) (xcons xint xnil)))) xnil)))))))
theorem sc__law_number : FnScope ["word", "sign"] ["word"] (defScope (top 14)) := ⟨rfl, rfl, rfl, by decide +kernel, rfl, by decide +kernel, by decide +kernel⟩
theorem d__law_number {f : Addr} {fd : FuncData} (T : TX K mg pm) (F : FunD K "_law_number" "_law_number" (defArgs (top 14)) (defBody (top 14)) (defScope (top 14)) [] [] f fd) (hm : mg "_law_number" = some (.ref f)) : DF prog w K mg base pm 2 "_law_number" ["word"] f__law_number := by
  refine DF.of F sc__law_number hm (F.bindsN fun _ _ _ _ _ _ us hl => match us, hl with | [_], _ => rfl) fun cdv A outer s H E hg hr => ?_
  have nd := (sc__law_number).nd
  have hu := hu_of64 hr
  have hu2 := hu_of68 hr
  have tk : Takes (cxOf (L2.CX prog w) prog w K mg base ["word", "sign"] "_law_number" (defScope (top 14)) f cdv A outer s H E) (fun cls d _ H => E cls d H) := takes_of rfl rfl rfl rfl
  have hp : PassesOwn (model prog w) (cxOf (L2.CX prog w) prog w K mg base ["word", "sign"] "_law_number" (defScope (top 14)) f cdv A outer s H E).A (cxOf (L2.CX prog w) prog w K mg base ["word", "sign"] "_law_number" (defScope (top 14)) f cdv A outer s H E).env (cxOf (L2.CX prog w) prog w K mg base ["word", "sign"] "_law_number" (defScope (top 14)) f cdv A outer s H E).xe := passes_of rfl
  exact (bcons (sif (tw (wor (tcmp (opr_eq hu) or_eq (xv 0) xstr) (wor (tcmp L2.op_gt or_gt (xfn call_len or_len PySem.boot_len T.b_len (xcons (xv 0) xnil)) xint) (wor1 (tcmp (opr_ne hu) or_ne (xlc [("sign", 1)] rfl nd (iany (xv 0)) (blkOk_by (N := ["word", "sign"]) (sc := defScope (top 14)) (by decide +kernel)) (lname 1 nd) (qone fun _ _ _ _ _ => (tcmp opr_nin or_nin (xv 1) xstr)) (fun _ _ _ _ _ => (xv 1))) (xlst xnil)))))) (bone (sret (xun L2.un_neg or_neg xint))) bnil)
  (bcons (sif (tw (wand (tcmp (opr_eq hu) or_eq (xix (xv 0) xint) xstr) (wand1 (tcmp (opr_ne hu) or_ne (xv 0) xstr)))) (bone (sret (xun L2.un_neg or_neg xint))) bnil)
  (bone (sret (xty call_intAll or_int (by decide +kernel) T.b_int (xcons (xv 0) xnil))))))
structure G__law_changed (w : World) (K : PySem.W.Frag) (mg : Str → Option Value) (base : Heap) (pm : Pm) : Prop where
  _law_draw : DF prog w K mg base pm 2 "_law_draw" ["bag", "many"] f__law_draw
theorem sc__law_changed : FnScope ["bag", "row", "menu", "put", "choice", "at", "spot", "sign", "one"] ["bag", "row", "menu"] (defScope (top 15)) := ⟨rfl, rfl, rfl, by decide +kernel, rfl, by decide +kernel, by decide +kernel⟩
theorem d__law_changed {f : Addr} {fd : FuncData} (T : TX K mg pm) (G : G__law_changed w K mg base pm) (F : FunD K "_law_changed" "_law_changed" (defArgs (top 15)) (defBody (top 15)) (defScope (top 15)) [] [] f fd) (hm : mg "_law_changed" = some (.ref f)) : DF prog w K mg base pm 3 "_law_changed" ["bag", "row", "menu"] f__law_changed := by
  refine DF.of F sc__law_changed hm (F.bindsN fun _ _ _ _ _ _ us hl => match us, hl with | [_, _, _], _ => rfl) fun cdv A outer s H E hg hr => ?_
  have nd := (sc__law_changed).nd
  have hu := hu_of64 hr
  have hu2 := hu_of68 hr
  have tk : Takes (cxOf (L2.CX prog w) prog w K mg base ["bag", "row", "menu", "put", "choice", "at", "spot", "sign", "one"] "_law_changed" (defScope (top 15)) f cdv A outer s H E) (fun cls d _ H => E cls d H) := takes_of rfl rfl rfl rfl
  have hp : PassesOwn (model prog w) (cxOf (L2.CX prog w) prog w K mg base ["bag", "row", "menu", "put", "choice", "at", "spot", "sign", "one"] "_law_changed" (defScope (top 15)) f cdv A outer s H E).A (cxOf (L2.CX prog w) prog w K mg base ["bag", "row", "menu", "put", "choice", "at", "spot", "sign", "one"] "_law_changed" (defScope (top 15)) f cdv A outer s H E).env (cxOf (L2.CX prog w) prog w K mg base ["bag", "row", "menu", "put", "choice", "at", "spot", "sign", "one"] "_law_changed" (defScope (top 15)) f cdv A outer s H E).xe := passes_of rfl
  exact (bcons (sset 3 nd (xix (xv 2) (xdef G._law_draw hr hg tk (xcons (xv 0) (xcons (xfn call_len or_len PySem.boot_len T.b_len (xcons (xv 2) xnil)) xnil)))))
  (bcons (spar 4 5 rfl nd (xcons (xdef G._law_draw hr hg tk (xcons (xv 0) (xcons xint xnil))) (xcons (xdef G._law_draw hr hg tk (xcons (xv 0) (xcons (xop opr_add or_add (xfn call_len or_len PySem.boot_len T.b_len (xcons (xv 1) xnil)) xint) xnil))) xnil)))
  (bcons (sif (tcmp L2.op_lt or_lt (xv 4) xint) (bone (sret (xop opr_add or_add (xop opr_add or_add (xsl (xv 1) xnone (xsome (xv 5))) (xlst (xcons (xv 3) xnil))) (xsl (xv 1) (xsome (xop opr_add or_add (xv 5) (xv 4))) xnone)))) bnil)
  (bcons (sif (tcmp (opr_eq hu) or_eq (xv 4) xint) (bone (sret (xop opr_add or_add (xsl (xv 1) xnone (xsome (xv 5))) (xsl (xv 1) (xsome (xop opr_add or_add (xv 5) xint)) xnone)))) bnil)
  (bcons (sif (tcmp (opr_eq hu) or_eq (xv 4) xint) (bone (sret (xop opr_add or_add (xop opr_add or_add (xsl (xv 1) xnone (xsome (xv 5))) (xsl (xv 1) (xsome (xv 5)) (xsome (xop opr_add or_add (xv 5) xint)))) (xsl (xv 1) (xsome (xv 5)) xnone)))) bnil)
  (bcons (sif (tcmp (opr_eq hu) or_eq (xv 4) xint) (bone (sret (xsl (xv 1) xnone (xsome (xv 5))))) bnil)
  (bcons (sif (tcmp (opr_eq hu) or_eq (xv 4) xint) (bone (sret (xop opr_add or_add (xop opr_add or_add (xsl (xv 1) xnone (xsome (xv 5))) (xrev (xsl (xv 1) (xsome (xv 5)) (xsome (xop opr_add or_add (xv 5) xint))))) (xsl (xv 1) (xsome (xop opr_add or_add (xv 5) xint)) xnone)))) bnil)
  (bcons (sif (tw (wand (tcmp (opr_eq hu) or_eq (xv 4) xint) (wand1 (tcmp L2.op_lt or_lt (xv 5) (xfn call_len or_len PySem.boot_len T.b_len (xcons (xv 1) xnil)))))) (bcons (spar 7 8 rfl nd (xcons (xix (xlst (xcons xstr (xcons xstr (xcons xstr (xcons xstr (xcons xstr (xcons xstr (xcons xstr (xcons xstr (xcons xstr xnil)))))))))) (xdef G._law_draw hr hg tk (xcons (xv 0) (xcons xint xnil)))) (xcons (xix (xv 1) (xv 5)) xnil)))
  (bcons (sset 6 nd (xdef G._law_draw hr hg tk (xcons (xv 0) (xcons (xop opr_add or_add (xfn call_len or_len PySem.boot_len T.b_len (xcons (xv 8) xnil)) xint) xnil))))
  (bone (sret (xop opr_add or_add (xop opr_add or_add (xsl (xv 1) xnone (xsome (xv 5))) (xlst (xcons (xop opr_add or_add (xop opr_add or_add (xsl (xv 8) xnone (xsome (xv 6))) (xv 7)) (xsl (xv 8) (xsome (xv 6)) xnone)) xnil))) (xsl (xv 1) (xsome (xop opr_add or_add (xv 5) xint)) xnone)))))) bnil)
  (bcons (sif (tw (wand (tcmp (opr_eq hu) or_eq (xv 4) xint) (wand1 (tcmp L2.op_lt or_lt (xv 5) (xfn call_len or_len PySem.boot_len T.b_len (xcons (xv 1) xnil)))))) (bcons (spar 8 6 rfl nd (xcons (xix (xv 1) (xv 5)) (xcons (xdef G._law_draw hr hg tk (xcons (xv 0) (xcons (xop opr_add or_add (xfn call_len or_len PySem.boot_len T.b_len (xcons (xix (xv 1) (xv 5)) xnil)) xint) xnil))) xnil)))
  (bone (sret (xop opr_add or_add (xop opr_add or_add (xsl (xv 1) xnone (xsome (xv 5))) (xlst (xcons (xop opr_add or_add (xsl (xv 8) xnone (xsome (xv 6))) (xsl (xv 8) (xsome (xop opr_add or_add (xv 6) xint)) xnone)) xnil))) (xsl (xv 1) (xsome (xop opr_add or_add (xv 5) xint)) xnone))))) bnil)
  (bcons (sif (tcmp (opr_eq hu) or_eq (xv 4) xint) (bone (sret (xop opr_add or_add (xop opr_add or_add (xsl (xv 1) xnone (xsome (xv 5))) (xsl (xv 1) (xsome (xop opr_add or_add (xv 5) xint)) xnone)) (xsl (xv 1) (xsome (xv 5)) (xsome (xop opr_add or_add (xv 5) xint)))))) bnil)
  (bcons (sif (tcmp (opr_eq hu) or_eq (xv 4) xint) (bone (sret (xop opr_add or_add (xv 1) (xlst (xcons (xv 3) xnil))))) bnil)
  (bone (sret (xv 1))))))))))))))
structure G__law_parts (w : World) (K : PySem.W.Frag) (mg : Str → Option Value) (base : Heap) (pm : Pm) : Prop where
  _law_act : DF prog w K mg base pm 3 "_law_act" ["bag"] f__law_act
  _law_draw : DF prog w K mg base pm 2 "_law_draw" ["bag", "many"] f__law_draw
  _law_changed : DF prog w K mg base pm 3 "_law_changed" ["bag", "row", "menu"] f__law_changed
theorem sc__law_parts : FnScope ["bag", "act", "parts", "near", "menu", "k", "number"] ["bag"] (defScope (top 16)) := ⟨rfl, rfl, rfl, by decide +kernel, rfl, by decide +kernel, by decide +kernel⟩
theorem d__law_parts {f : Addr} {fd : FuncData} (T : TX K mg pm) (G : G__law_parts w K mg base pm) (F : FunD K "_law_parts" "_law_parts" (defArgs (top 16)) (defBody (top 16)) (defScope (top 16)) [] [] f fd) (hm : mg "_law_parts" = some (.ref f)) : DF prog w K mg base pm 4 "_law_parts" ["bag"] f__law_parts := by
  refine DF.of F sc__law_parts hm (F.bindsN fun _ _ _ _ _ _ us hl => match us, hl with | [_], _ => rfl) fun cdv A outer s H E hg hr => ?_
  have nd := (sc__law_parts).nd
  have hu := hu_of64 hr
  have hu2 := hu_of68 hr
  have tk : Takes (cxOf (L2.CX prog w) prog w K mg base ["bag", "act", "parts", "near", "menu", "k", "number"] "_law_parts" (defScope (top 16)) f cdv A outer s H E) (fun cls d _ H => E cls d H) := takes_of rfl rfl rfl rfl
  have hp : PassesOwn (model prog w) (cxOf (L2.CX prog w) prog w K mg base ["bag", "act", "parts", "near", "menu", "k", "number"] "_law_parts" (defScope (top 16)) f cdv A outer s H E).A (cxOf (L2.CX prog w) prog w K mg base ["bag", "act", "parts", "near", "menu", "k", "number"] "_law_parts" (defScope (top 16)) f cdv A outer s H E).env (cxOf (L2.CX prog w) prog w K mg base ["bag", "act", "parts", "near", "menu", "k", "number"] "_law_parts" (defScope (top 16)) f cdv A outer s H E).xe := passes_of rfl
  exact (bcons (sset 1 nd (xdef G._law_act hr hg tk (xcons (xv 0) xnil)))
  (bcons (sset 2 nd (xop opr_add or_add (xlst (xcons (xix (xv 1) xint) xnil)) (xlc [("number", 6)] rfl nd (iany (xsl (xv 1) (xsome xint) xnone)) (blkOk_by (N := ["bag", "act", "parts", "near", "menu", "k", "number"]) (sc := defScope (top 16)) (by decide +kernel)) (lname 6 nd) qnil (fun _ _ _ _ _ => (xty call_str_int or_str (by decide +kernel) T.b_str (xcons (xv 6) xnil))))))
  (bcons (sset 3 nd (xlst (xcons xstr (xcons xstr (xcons xstr (xcons xstr (xcons xstr (xcons xstr (xcons xstr (xcons xstr (xcons (xop opr_mulS or_mulS xstr xint) (xcons (xop opr_mulS or_mulS xstr xint) xnil))))))))))))
  (bcons (sset 3 nd (xop opr_add or_add (xv 3) (xlst (xcons xstr (xcons xstr (xcons xstr (xcons xstr (xcons xstr xnil))))))))
  (bcons (sif (tcmp (opr_eq hu) or_eq (xdef G._law_draw hr hg tk (xcons (xv 0) (xcons xint xnil))) xint) (bone (sset 2 nd (xop opr_add or_add (xsl (xv 2) xnone (xsome xint)) (xlst (xcons (xix (xv 3) (xdef G._law_draw hr hg tk (xcons (xv 0) (xcons xint xnil)))) xnil))))) bnil)
  (bcons (sset 4 nd (xlst (xcons xstr (xcons xstr (xcons xstr (xcons xstr (xcons xstr (xcons xstr (xcons xstr (xcons xstr (xcons xstr xnil)))))))))))
  (bcons (sset 4 nd (xop opr_add or_add (xv 4) (xlst (xcons xstr (xcons xstr (xcons xstr (xcons xstr (xcons xstr (xcons xstr xnil)))))))))
  (bcons (sfor 5 hp rfl nd (irange1 T.b_range (xcons (xix (xlst (xcons xint (xcons xint (xcons xint (xcons xint xnil))))) (xdef G._law_draw hr hg tk (xcons (xv 0) (xcons xint xnil)))) xnil)) (bone (sset 2 nd (xdef G._law_changed hr hg tk (xcons (xv 0) (xcons (xv 2) (xcons (xop opr_add or_add (xv 4) (xlst (xcons xstr (xcons xstr (xcons xstr (xcons xstr xnil)))))) xnil)))))))
  (bone (sret (xv 2)))))))))))
structure G__law_told (w : World) (K : PySem.W.Frag) (mg : Str → Option Value) (base : Heap) (pm : Pm) : Prop where
  read_event : DF prog w K mg base pm 3 "read_event" ["words"] f_read_event
theorem sc__law_told : FnScope ["text", "e", "caught", "found"] ["text"] (defScope (top 17)) := ⟨rfl, rfl, rfl, by decide +kernel, rfl, by decide +kernel, by decide +kernel⟩
theorem d__law_told {f : Addr} {fd : FuncData} (T : TX K mg pm) (G : G__law_told w K mg base pm) (F : FunD K "_law_told" "_law_told" (defArgs (top 17)) (defBody (top 17)) (defScope (top 17)) [] [] f fd) (hm : mg "_law_told" = some (.ref f)) : DF prog w K mg base pm 4 "_law_told" ["text"] f__law_told := by
  refine DF.of F sc__law_told hm (F.bindsN fun _ _ _ _ _ _ us hl => match us, hl with | [_], _ => rfl) fun cdv A outer s H E hg hr => ?_
  have nd := (sc__law_told).nd
  have hu := hu_of64 hr
  have hu2 := hu_of68 hr
  have tk : Takes (cxOf (L2.CX prog w) prog w K mg base ["text", "e", "caught", "found"] "_law_told" (defScope (top 17)) f cdv A outer s H E) (fun cls d _ H => E cls d H) := takes_of rfl rfl rfl rfl
  have hp : PassesOwn (model prog w) (cxOf (L2.CX prog w) prog w K mg base ["text", "e", "caught", "found"] "_law_told" (defScope (top 17)) f cdv A outer s H E).A (cxOf (L2.CX prog w) prog w K mg base ["text", "e", "caught", "found"] "_law_told" (defScope (top 17)) f cdv A outer s H E).env (cxOf (L2.CX prog w) prog w K mg base ["text", "e", "caught", "found"] "_law_told" (defScope (top 17)) f cdv A outer s H E).xe := passes_of rfl
  exact (bcons (ssetT (is := [2, 3]) (xtup (xcons xnon (xcons xnon xnil))) (gtup rfl (gscons 2 nd (gscons 3 nd gsnil))))
  (bcons (stry 2 1 nd (T.nm_InvalidWords rfl) tk T.sub_InvalidWords fun W1 pn1 xe1 tk1 hp1 => (bone (sset 3 nd (xdef G.read_event hr hg tk1 (xcons (xv 0) xnil)))))
  (bcons (sif (tcmp L2.op_isN or_isN (xv 2) xnon) (bone (sret (xlst (xcons xstr (xcons (xv 3) xnil))))) bnil)
  (bone (sret (xlst (xcons xstr (xcons (xfld (c := 1) (j := 0) T.xw T.noPlace T.fldPlace (xv 2)) xnil))))))))
structure G__law_due (w : World) (K : PySem.W.Frag) (mg : Str → Option Value) (base : Heap) (pm : Pm) : Prop where
  _law_number : DF prog w K mg base pm 2 "_law_number" ["word"] f__law_number
theorem sc__law_due : FnScope ["parts"] ["parts"] (defScope (top 18)) := ⟨rfl, rfl, rfl, by decide +kernel, rfl, by decide +kernel, by decide +kernel⟩
theorem d__law_due {f : Addr} {fd : FuncData} (T : TX K mg pm) (G : G__law_due w K mg base pm) (F : FunD K "_law_due" "_law_due" (defArgs (top 18)) (defBody (top 18)) (defScope (top 18)) [] [] f fd) (hm : mg "_law_due" = some (.ref f)) : DF prog w K mg base pm 3 "_law_due" ["parts"] f__law_due := by
  refine DF.of F sc__law_due hm (F.bindsN fun _ _ _ _ _ _ us hl => match us, hl with | [_], _ => rfl) fun cdv A outer s H E hg hr => ?_
  have nd := (sc__law_due).nd
  have hu := hu_of64 hr
  have hu2 := hu_of68 hr
  have tk : Takes (cxOf (L2.CX prog w) prog w K mg base ["parts"] "_law_due" (defScope (top 18)) f cdv A outer s H E) (fun cls d _ H => E cls d H) := takes_of rfl rfl rfl rfl
  have hp : PassesOwn (model prog w) (cxOf (L2.CX prog w) prog w K mg base ["parts"] "_law_due" (defScope (top 18)) f cdv A outer s H E).A (cxOf (L2.CX prog w) prog w K mg base ["parts"] "_law_due" (defScope (top 18)) f cdv A outer s H E).env (cxOf (L2.CX prog w) prog w K mg base ["parts"] "_law_due" (defScope (top 18)) f cdv A outer s H E).xe := passes_of rfl
  exact (bcons (sif (tcmp opr_in or_in (xix (xv 0) xint) (xlst (xcons xstr (xcons xstr xnil)))) (bone (sret (xif (tcmp (opr_eq hu) or_eq (xfn call_len or_len PySem.boot_len T.b_len (xcons (xv 0) xnil)) xint) (xlst (xcons xstr (xcons (xtup (xcons (xix (xv 0) xint) xnil)) xnil))) (xlst (xcons xstr (xcons xint xnil)))))) bnil)
  (bcons (sif (tcmp opr_nin or_nin (xix (xv 0) xint) (xlst (xcons xstr (xcons xstr (xcons xstr (xcons xstr (xcons xstr (xcons xstr (xcons xstr xnil))))))))) (bone (sret (xlst (xcons xstr (xcons xint xnil))))) bnil)
  (bcons (sif (tw (wor (tcmp (opr_eq hu) or_eq (xfn call_len or_len PySem.boot_len T.b_len (xcons (xv 0) xnil)) xint) (wor1 (tcmp L2.op_lt or_lt (xdef G._law_number hr hg tk (xcons (xix (xv 0) xint) xnil)) xint)))) (bone (sret (xlst (xcons xstr (xcons xint xnil))))) bnil)
  (bone (sret (xif (tcmp (opr_eq hu) or_eq (xfn call_len or_len PySem.boot_len T.b_len (xcons (xv 0) xnil)) xint) (xlst (xcons xstr (xcons (xtup (xcons (xix (xv 0) xint) (xcons (xty call_intAll or_int (by decide +kernel) T.b_int (xcons (xix (xv 0) xint) xnil)) xnil))) xnil))) (xlst (xcons xstr (xcons xint xnil)))))))))
structure G_law (w : World) (K : PySem.W.Frag) (mg : Str → Option Value) (base : Heap) (pm : Pm) : Prop where
  _law_bag : DF prog w K mg base pm 2 "_law_bag" ["cell"] f__law_bag
  _law_parts : DF prog w K mg base pm 4 "_law_parts" ["bag"] f__law_parts
  _law_due : DF prog w K mg base pm 3 "_law_due" ["parts"] f__law_due
  _law_told : DF prog w K mg base pm 4 "_law_told" ["text"] f__law_told
theorem sc_law : FnScope ["script", "cell", "bag", "text", "due"] ["script"] (defScope (top 19)) := ⟨rfl, rfl, rfl, by decide +kernel, rfl, by decide +kernel, by decide +kernel⟩
theorem dG_law {f : Addr} {fd : FuncData} (T : TX K mg pm) (G : G_law w K mg base pm) (F : FunD K "law" "law" (defArgs (top 19)) (defBody (top 19)) (defScope (top 19)) [] [] f fd) (hm : mg "law" = some (.ref f)) : FnG prog w K mg base 5 f fd ["script"] (spD K pm f_law) := by
  refine fnD F sc_law fun cdv A outer s H E hg hr => ?_
  have nd := (sc_law).nd
  have hu := hu_of64 hr
  have hu2 := hu_of68 hr
  have tk : Takes (cxOf (L2.CX prog w) prog w K mg base ["script", "cell", "bag", "text", "due"] "law" (defScope (top 19)) f cdv A outer s H E) (fun cls d _ H => E cls d H) := takes_of rfl rfl rfl rfl
  have hp : PassesOwn (model prog w) (cxOf (L2.CX prog w) prog w K mg base ["script", "cell", "bag", "text", "due"] "law" (defScope (top 19)) f cdv A outer s H E).A (cxOf (L2.CX prog w) prog w K mg base ["script", "cell", "bag", "text", "due"] "law" (defScope (top 19)) f cdv A outer s H E).env (cxOf (L2.CX prog w) prog w K mg base ["script", "cell", "bag", "text", "due"] "law" (defScope (top 19)) f cdv A outer s H E).xe := passes_of rfl
  exact (bcons (sfor 1 hp rfl nd (iany (xop opr_add or_add (xlst (xcons xint xnil)) (xsl (xv 0) xnone (xsome xint)))) (bcons (sset 2 nd (xdef G._law_bag hr hg tk (xcons (xv 1) xnil)))
  (bcons (sset 3 nd (xjoin xstr (xdef G._law_parts hr hg tk (xcons (xv 2) xnil))))
  (bcons (sset 4 nd (xdef G._law_due hr hg tk (xcons (xsplit (xv 3) xstr) xnil)))
  (bone (sif (tw (wor (tcmp (opr_ne hu) or_ne (xfn (call_reprD hg hu2) or_repr (by decide +kernel) T.b_repr (xcons (xdef G._law_told hr hg tk (xcons (xv 3) xnil)) xnil)) (xfn (call_reprD hg hu2) or_repr (by decide +kernel) T.b_repr (xcons (xv 4) xnil))) (wor1 (tcmp (opr_ne hu) or_ne (xfn (call_reprD hg hu2) or_repr (by decide +kernel) T.b_repr (xcons (xdef G._law_told hr hg tk (xcons (xv 3) xnil)) xnil)) (xfn (call_reprD hg hu2) or_repr (by decide +kernel) T.b_repr (xcons (xv 4) xnil)))))) (bone (sret xbl)) bnil))))))
  (bone (sret xbl)))
end
end Dn
set_option maxHeartbeats 0
namespace Dn
open PySem PySem.Spec PyProof.Rows L2
/-! ### the head -/
abbrev RRow : PySem.W.OpenRow := PySem.W.OpenLaw.row PySem.Challenge.rw_lentslots_k69_event_words_refused
def dd (n : Str) (i : Nat) : He.DefD := ⟨(n, none), n, n, defArgs (top i), defBody (top i), defScope (top i), [], []⟩
def hb : HB where
  cs := [(fun K => He.Fa.ok K (.free "int")), (fun K => He.Fa.ok K (.free "len")), (fun K => He.Fa.ok K (.free "range")), (fun K => He.Fa.ok K (.free "repr")), (fun K => He.Fa.ok K (.free "str")), gvB "MOST_DIGITS" c_MOST_DIGITS, gvB "DIGITS" c_DIGITS, gvB "NUMBERED_EVENTS" c_NUMBERED_EVENTS, gvB "BARE_EVENTS" c_BARE_EVENTS, (fun K => He.Fa.ok K (.glo "InvalidWords")), subB clss "SlotError" "InvalidWords" tab_InvalidWords false, wordsB prog.main.file, (fun K => He.Fa.ok K (.glo "read_number")), (fun K => He.Fa.ok K (.glo "read_event")), (fun K => He.Fa.ok K (.glo "_law_bag")), (fun K => He.Fa.ok K (.glo "_law_draw")), (fun K => He.Fa.ok K (.glo "_law_act")), (fun K => He.Fa.ok K (.glo "_law_number")), (fun K => He.Fa.ok K (.glo "_law_changed")), (fun K => He.Fa.ok K (.glo "_law_parts")), (fun K => He.Fa.ok K (.glo "_law_told")), (fun K => He.Fa.ok K (.glo "_law_due")), (fun K => He.Fa.ok K (.glo "law"))]
  fn := [dd "read_number" 8, dd "read_event" 9, dd "_law_bag" 11, dd "_law_draw" 12, dd "_law_act" 13, dd "_law_number" 14, dd "_law_changed" 15, dd "_law_parts" 16, dd "_law_told" 17, dd "_law_due" 18, dd "law" 19]
  ws := [("InvalidWords", wIni wp)]
abbrev hk : PySem.W.Hook := hb.hook 4
def ob (s : PySem.W.SharedT) : Al := hb.ob 4 (HandSHeadRun.getT s)
theorem ob_eq (s : PySem.W.SharedT) : ob s = hk.obs s.abs := HB.ob_eq (HandSHeadRun.getT_eq s)
def loose : List Str := (["SlotError", "InvalidWords", "DIGITS", "MOST_DIGITS", "BARE_EVENTS", "NUMBERED_EVENTS", "read_number", "read_event", "_law_bag", "_law_draw", "_law_act", "_law_number", "_law_changed", "_law_parts", "_law_told", "_law_due"] : List Str)
theorem run (w : World) : HandSHeadRun.RunEq RRow (PySem.W.view RRow.prog [19]) hk ob 4000 loose w := by
  intro os
  kernel_rfl
section
variable {w : World} {K : PySem.W.Frag} {h : Heap} {mg : Str → Option Value}
theorem tx_of (X : K.In h) (G : h.Ns mainGlobals mg) (c : hb.says K) : TX K mg (pmOf K clss "SlotError") :=
  have W := words_ok X G (c.fact 11) (c.ini 0)
  { b_int := He.free_ok X G (c.fact 0),
    b_len := He.free_ok X G (c.fact 1),
    b_range := He.free_ok X G (c.fact 2),
    b_repr := He.free_ok X G (c.fact 3),
    b_str := He.free_ok X G (c.fact 4),
    c_MOST_DIGITS := gvB_ok X G (c.fact 5),
    c_DIGITS := gvB_ok X G (c.fact 6),
    c_NUMBERED_EVENTS := gvB_ok X G (c.fact 7),
    c_BARE_EVENTS := gvB_ok X G (c.fact 8),
    n_InvalidWords := He.glo_ok X G (c.fact 9),
    sub_InvalidWords := subB_ok (c.fact 10),
    words := W.1,
    xw := W.2,
    noPlace := W.1.noN,
    cfw := rfl }
theorem all_of (X : K.In h) (G : h.Ns mainGlobals mg) (c : hb.says K) {fa : Addr} (hfa : mg "law" = some (.ref fa)) : ∃ fd : FuncData, (∀ (s : Shared) (u : Value), BindsTo s fd ⟨[u], []⟩ [("script", u)]) ∧
    ∀ base : Heap, FnG prog w K mg base 5 fa fd ["script"] (spD K (pmOf K clss "SlotError") f_law) := by
  have T := tx_of X G c
  obtain ⟨fd_read_number, F_read_number⟩ := c.def_ 0 (d := dd "read_number" 8) rfl
  have g_read_number := He.glo_ok X G (c.fact 12 (f := fun K => He.Fa.ok K (.glo "read_number")) rfl)
  obtain ⟨fd_read_event, F_read_event⟩ := c.def_ 1 (d := dd "read_event" 9) rfl
  have g_read_event := He.glo_ok X G (c.fact 13 (f := fun K => He.Fa.ok K (.glo "read_event")) rfl)
  obtain ⟨fd__law_bag, F__law_bag⟩ := c.def_ 2 (d := dd "_law_bag" 11) rfl
  have g__law_bag := He.glo_ok X G (c.fact 14 (f := fun K => He.Fa.ok K (.glo "_law_bag")) rfl)
  obtain ⟨fd__law_draw, F__law_draw⟩ := c.def_ 3 (d := dd "_law_draw" 12) rfl
  have g__law_draw := He.glo_ok X G (c.fact 15 (f := fun K => He.Fa.ok K (.glo "_law_draw")) rfl)
  obtain ⟨fd__law_act, F__law_act⟩ := c.def_ 4 (d := dd "_law_act" 13) rfl
  have g__law_act := He.glo_ok X G (c.fact 16 (f := fun K => He.Fa.ok K (.glo "_law_act")) rfl)
  obtain ⟨fd__law_number, F__law_number⟩ := c.def_ 5 (d := dd "_law_number" 14) rfl
  have g__law_number := He.glo_ok X G (c.fact 17 (f := fun K => He.Fa.ok K (.glo "_law_number")) rfl)
  obtain ⟨fd__law_changed, F__law_changed⟩ := c.def_ 6 (d := dd "_law_changed" 15) rfl
  have g__law_changed := He.glo_ok X G (c.fact 18 (f := fun K => He.Fa.ok K (.glo "_law_changed")) rfl)
  obtain ⟨fd__law_parts, F__law_parts⟩ := c.def_ 7 (d := dd "_law_parts" 16) rfl
  have g__law_parts := He.glo_ok X G (c.fact 19 (f := fun K => He.Fa.ok K (.glo "_law_parts")) rfl)
  obtain ⟨fd__law_told, F__law_told⟩ := c.def_ 8 (d := dd "_law_told" 17) rfl
  have g__law_told := He.glo_ok X G (c.fact 20 (f := fun K => He.Fa.ok K (.glo "_law_told")) rfl)
  obtain ⟨fd__law_due, F__law_due⟩ := c.def_ 9 (d := dd "_law_due" 18) rfl
  have g__law_due := He.glo_ok X G (c.fact 21 (f := fun K => He.Fa.ok K (.glo "_law_due")) rfl)
  obtain ⟨fd_law, F_law⟩ := c.def_ 10 (d := dd "law" 19) rfl
  have g_law := He.glo_ok X G (c.fact 22 (f := fun K => He.Fa.ok K (.glo "law")) rfl)
  have e := hfa.symm.trans g_law
  cases e
  have b := FunD.bindsA (ps := ["script"]) F_law fun _ _ _ _ _ _ us hl => match us, hl with | [_], _ => rfl
  refine ⟨fd_law, fun s u => b s [u] rfl, fun base => ?_⟩
  have D_read_number := d_read_number (w := w) (base := base) T F_read_number g_read_number
  have D_read_event := d_read_event (w := w) (base := base) T ⟨D_read_number⟩ F_read_event g_read_event
  have D__law_bag := d__law_bag (w := w) (base := base) T F__law_bag g__law_bag
  have D__law_draw := d__law_draw (w := w) (base := base) T F__law_draw g__law_draw
  have D__law_act := d__law_act (w := w) (base := base) T ⟨D__law_draw⟩ F__law_act g__law_act
  have D__law_number := d__law_number (w := w) (base := base) T F__law_number g__law_number
  have D__law_changed := d__law_changed (w := w) (base := base) T ⟨D__law_draw⟩ F__law_changed g__law_changed
  have D__law_parts := d__law_parts (w := w) (base := base) T ⟨D__law_act, D__law_draw, D__law_changed⟩ F__law_parts g__law_parts
  have D__law_told := d__law_told (w := w) (base := base) T ⟨D_read_event⟩ F__law_told g__law_told
  have D__law_due := d__law_due (w := w) (base := base) T ⟨D__law_number⟩ F__law_due g__law_due
  exact dG_law T ⟨D__law_bag, D__law_parts, D__law_due, D__law_told⟩ F_law g_law
end
end Dn
open PySem PySem.W PySem.Calls PyProof.Rows
theorem PySem.Challenge.cw_lentslots_k69_event_words_refused_holds : PySem.Challenge.rw_lentslots_k69_event_words_refused.Holds := by
  w_on; o_law
  refine HandSHeadRun.head_any (r := OpenLaw.row PySem.Challenge.rw_lentslots_k69_event_words_refused) (q := view (OpenLaw.row PySem.Challenge.rw_lentslots_k69_event_words_refused).prog [19]) (H := Dn.hk) (ob := Dn.ob) (M := 4000) (loose := Dn.loose) (d := HandSHeadRun.topDef (OpenLaw.row PySem.Challenge.rw_lentslots_k69_event_words_refused).prog 19) (kwd := []) Dn.ob_eq
    (by kernel_rfl) (fun s => by kernel_rfl) Dn.run (by kernel_rfl) (by kernel_rfl) (by kernel_rfl) (by rfl) (by first | assumption | decide +kernel) (by decide +kernel) ⟨rfl, rfl, rfl, rfl, rfl, by decide +kernel⟩ ?hw ?hc
  case hw => w_witness2
  case hc =>
    refine Dn.walk_ofG (l := PySem.Challenge.rw_lentslots_k69_event_words_refused) (n := 63) (k := 5) (x := "script") (g := Dn.f_law) rfl (by decide) (by kernel_rfl) ⟨rfl, by decide, by decide⟩ ?F Dn.law_holds
    intro w mg fa h Y G hmg0
    obtain ⟨K, KX, c⟩ := Y
    have hmg : mg ("law" : PySem.Str) = some (.ref fa) := by
      have e : (HandSHeadRun.topDef (OpenLaw.row PySem.Challenge.rw_lentslots_k69_event_words_refused).prog 19).name = ("law" : PySem.Str) := by kernel_rfl
      rw [← e]
      exact hmg0
    obtain ⟨fd, hb, hF⟩ := Dn.all_of (w := w) KX G c hmg
    exact ⟨K, Dn.pmOf K Dn.clss "SlotError", fd, KX, hb, fun base _ _ => hF base⟩

