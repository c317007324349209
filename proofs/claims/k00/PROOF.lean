import PyProof.Rows.All
import Wide.All
import OpenK.AllK
import Wide.FinOn
import PyProof.EqAt
import PyProof.EqKinds
import PyProof.TupleCall
import HandS.ForMost
import HandS.WordsExc
import HandS.Defaults
import HandS.Flow
import HandS.Star
import HandS.Exc
import HandS.ExcOwn
import HandS.Slots
import HandS.SlotsOwn
import HandS.TupAny
import HandS.Walk
import HandS.HeadHook1
import HandS.HeadHook2
import HandS.DictComp
import HandS.Zip
import KE.GoesMore
import HandS.Property
import HandS.IsInst
import HandS.WideBits
import HandS.Conv
import HandS.ClsMeth
import OpenK.KMeth
import HandS.SetFor
import HandS.Strs
import HandS.ExcIs
import HandS.ExcField
import KE.KExcIs
import HandS.SetKeys
import PyProof.DictMoreH
import PyProof.ListNew
import KE.KDictZip
import HandS.Base
import HandS.Call
import HandS.List
import HandS.Zip0
import HandS.ExcValue
import KE.KStateDown
import HandS.Head0
import HandS.Head1
import HandS.Head2
import HandS.HeadEnd
import HandS.HeadNt
import HandS.Ends
import HandS.ExcInit
import HandS.Nested
import KE.KExcSuper
import HandS.ExcBuiltin
import HandS.StrMore
import HandS.FStr
import HandS.RaiseMore
import HandS.Deep
import HandS.TupMul
import HandS.Style
import PyProof.ReprRoads
import PyProof.ReprReads
import PyProof.ReprText
import HandS.Lambda
import HandS.Words
import PySem.Challenge.RW_landingwires_k00_errors_and_what_they_ke
set_option linter.all false
namespace FX
/-- a value -/
inductive PV where
  | non | bl (b : Bool) | int (i : Int) | str (x : List Nat) | ty (n : String) | tup (xs : List PV) | ref (n : Nat) | kl (a : Nat) (xs : List PV)
/-- what stands at a place of the heap -/
inductive MO where
  | lst (xs : List PV) | dct (kvs : List (PV × PV)) | dtt (kvs : List (PV × PV)) | set (xs : List PV) | ins (c : Nat) (fs : List (Option PV)) | exo (c : Nat) (x : PV) | bxo (T : String)
inductive Tr where
  | lf | nd (v : Option MO) (l r : Tr)
def pthF : Nat → Nat → List Bool
  | 0, _ => []
  | f + 1, n => if n = 0 then [] else (n % 2 == 1) :: pthF f (n / 2)
def pth (n : Nat) : List Bool := pthF (n + 1) n
def Tr.get : Tr → List Bool → Option MO
  | .lf, _ => none
  | .nd v _ _, [] => v
  | .nd _ l r, b :: p => if b then r.get p else l.get p
def Tr.put (o : MO) : Tr → List Bool → Tr
  | .lf, [] => .nd (some o) .lf .lf
  | .lf, b :: p => if b then .nd none .lf (Tr.put o .lf p) else .nd none (Tr.put o .lf p) .lf
  | .nd _ l r, [] => .nd (some o) l r
  | .nd v l r, b :: p => if b then .nd v l (Tr.put o r p) else .nd v (Tr.put o l p) r
theorem pthF_inj : ∀ (f n m g : Nat), n < f → m < g → pthF f n = pthF g m → n = m
  | 0, _, _, _, h, _, _ => absurd h (by omega)
  | _ + 1, _, _, 0, _, h, _ => absurd h (by omega)
  | f + 1, n, m, g + 1, hn, hm, e => by
    unfold pthF at e
    by_cases h1 : n = 0
    · by_cases h2 : m = 0
      · omega
      · rw [if_pos h1, if_neg h2] at e; cases e
    · by_cases h2 : m = 0
      · rw [if_neg h1, if_pos h2] at e; cases e
      · rw [if_neg h1, if_neg h2] at e
        injection e with e1 e2
        have := pthF_inj f (n / 2) (m / 2) g (by omega) (by omega) e2
        have e3 : (n % 2 = 1) ↔ (m % 2 = 1) := by
          constructor
          · intro h; rw [h] at e1; simpa using e1.symm
          · intro h; rw [h] at e1; simpa using e1
        omega
theorem pth_inj {n m : Nat} (e : pth n = pth m) : n = m := pthF_inj _ _ _ _ (by omega) (by omega) e
theorem Tr.get_put_same (o : MO) : ∀ (t : Tr) (p : List Bool), (t.put o p).get p = some o
  | .lf, [] => rfl
  | .nd _ _ _, [] => rfl
  | .lf, b :: p => by
    cases b
    · show (Tr.put o .lf p).get p = some o
      exact Tr.get_put_same o .lf p
    · show (Tr.put o .lf p).get p = some o
      exact Tr.get_put_same o .lf p
  | .nd v l r, b :: p => by
    cases b
    · exact Tr.get_put_same o l p
    · exact Tr.get_put_same o r p
theorem Tr.get_put_ne (o : MO) : ∀ (t : Tr) (p q : List Bool), q ≠ p → (t.put o p).get q = t.get q
  | .lf, [], [], h => absurd rfl h
  | .lf, [], b :: q, _ => by cases b <;> rfl
  | .nd _ _ _, [], [], h => absurd rfl h
  | .nd _ _ _, [], b :: q, _ => by cases b <;> rfl
  | .lf, b :: p, [], _ => by cases b <;> rfl
  | .nd _ _ _, b :: p, [], _ => by cases b <;> rfl
  | .lf, b :: p, c :: q, h => by
    cases b <;> cases c
    · exact (Tr.get_put_ne o .lf p q (fun e => h (by rw [e]))).trans (by cases q <;> rfl)
    · rfl
    · rfl
    · exact (Tr.get_put_ne o .lf p q (fun e => h (by rw [e]))).trans (by cases q <;> rfl)
  | .nd v l r, b :: p, c :: q, h => by
    cases b <;> cases c
    · exact Tr.get_put_ne o l p q (fun e => h (by rw [e]))
    · rfl
    · rfl
    · exact Tr.get_put_ne o r p q (fun e => h (by rw [e]))
theorem Tr.put_put (o o' : MO) : ∀ (t : Tr) (p : List Bool), (t.put o p).put o' p = t.put o' p
  | .lf, [] => rfl
  | .nd _ _ _, [] => rfl
  | .lf, b :: p => by
    cases b
    · show Tr.nd none ((Tr.put o .lf p).put o' p) .lf = Tr.nd none (Tr.put o' .lf p) .lf
      rw [Tr.put_put o o' .lf p]
    · show Tr.nd none .lf ((Tr.put o .lf p).put o' p) = Tr.nd none .lf (Tr.put o' .lf p)
      rw [Tr.put_put o o' .lf p]
  | .nd v l r, b :: p => by
    cases b
    · show Tr.nd v ((Tr.put o l p).put o' p) r = Tr.nd v (Tr.put o' l p) r
      rw [Tr.put_put o o' l p]
    · show Tr.nd v l ((Tr.put o r p).put o' p) = Tr.nd v l (Tr.put o' r p)
      rw [Tr.put_put o o' r p]
structure MH where
  nx : Nat
  tr : Tr
def MH.get (h : MH) (n : Nat) : Option MO := if n < h.nx then h.tr.get (pth n) else none
def MH.put (h : MH) (n : Nat) (o : MO) : MH := ⟨h.nx, h.tr.put o (pth n)⟩
def MH.new (h : MH) (o : MO) : MH := ⟨h.nx + 1, h.tr.put o (pth h.nx)⟩
section
variable {h : MH} {n m : Nat} {o o' : MO}
theorem MH.get_lt (e : h.get n = some o) : n < h.nx := by
  unfold MH.get at e
  split at e
  · assumption
  · cases e
@[simp] theorem MH.put_nx : (h.put n o).nx = h.nx := rfl
@[simp] theorem MH.new_nx : (h.new o).nx = h.nx + 1 := rfl
theorem MH.get_put (hn : n < h.nx) : (h.put n o).get n = some o := by
  unfold MH.get MH.put
  show (if n < h.nx then _ else _) = _
  rw [if_pos hn]
  exact Tr.get_put_same o _ _
theorem MH.get_put_ne (hm : m ≠ n) : (h.put n o).get m = h.get m := by
  unfold MH.get MH.put
  show (if m < h.nx then _ else _) = _
  split
  · exact Tr.get_put_ne o _ _ _ fun e => hm (pth_inj e)
  · rfl
theorem MH.get_new : (h.new o).get h.nx = some o := by
  unfold MH.get MH.new
  show (if h.nx < h.nx + 1 then _ else _) = _
  rw [if_pos (by omega)]
  exact Tr.get_put_same o _ _
theorem MH.get_new_ne (hm : m ≠ h.nx) : (h.new o).get m = h.get m := by
  unfold MH.get MH.new
  show (if m < h.nx + 1 then _ else _) = _
  by_cases hlt : m < h.nx
  · rw [if_pos (by omega), if_pos hlt]
    exact Tr.get_put_ne o _ _ _ fun e => hm (pth_inj e)
  · rw [if_neg (by omega), if_neg hlt]
theorem MH.get_new_old (e : h.get m = some o') : (h.new o).get m = some o' := by
  rw [MH.get_new_ne (Nat.ne_of_lt (MH.get_lt e))]; exact e
theorem MH.get_nx : h.get h.nx = none := by
  unfold MH.get
  rw [if_neg (by omega)]
theorem MH.put_put : (h.put n o).put n o' = h.put n o' := by
  unfold MH.put
  rw [Tr.put_put]
theorem MH.new_put : (h.new o).put h.nx o' = h.new o' := by
  unfold MH.put MH.new
  rw [Tr.put_put]
end
inductive R (α : Type) where
  | ok (a : α) (h : MH)
  | exc (c : Nat) (x : PV) (h : MH)
  | bad
abbrev M (α : Type) := MH → R α
abbrev Env := List (Option PV)
def M.ret {α : Type} (a : α) : M α := fun h => .ok a h
def M.bad {α : Type} : M α := fun _ => .bad
def M.bind {α β : Type} (m : M α) (g : α → M β) : M β := fun h => match m h with
  | .ok a h' => g a h'
  | .exc c x h' => .exc c x h'
  | .bad => .bad
section
variable {α β γ : Type} {m : M α} {g : α → M β} {h h' : MH} {a : α}
theorem M.bind_ok (e : m h = .ok a h') : (m.bind g) h = g a h' := by
  unfold M.bind; rw [e]
@[simp] theorem M.ret_run : (M.ret a : M α) h = .ok a h := rfl
@[simp] theorem M.bad_run : (M.bad : M α) h = .bad := rfl
@[simp] theorem M.ret_bind : (M.ret a).bind g = g a := rfl
@[simp] theorem M.bad_bind : (M.bad : M α).bind g = M.bad := rfl
theorem M.bind_assoc {k : β → M γ} : (m.bind g).bind k = m.bind fun a => (g a).bind k := by
  funext h
  unfold M.bind
  cases m h <;> rfl
end
/-- a new object -/
def mNew (o : MO) : M PV := fun h => .ok (.ref h.nx) (h.new o)
/-- what stands at n -/
def mAt {α : Type} (n : Nat) (f : MO → M α) : M α := fun h => match h.get n with
  | some o => f o h
  | none => .bad
theorem mAt_ok {α : Type} {n : Nat} {f : MO → M α} {h : MH} {o : MO} (e : h.get n = some o) : mAt n f h = f o h := by
  unfold mAt; rw [e]
def mPut (n : Nat) (o : MO) : M Unit := fun h => .ok () (h.put n o)
/-- all of them, from the left -/
def mAll : List (M PV) → M (List PV)
  | [] => M.ret []
  | m :: ms => m.bind fun x => (mAll ms).bind fun xs => M.ret (x :: xs)
def mMap {α β : Type} (f : α → M β) : List α → M (List β)
  | [] => M.ret []
  | x :: xs => (f x).bind fun y => (mMap f xs).bind fun ys => M.ret (y :: ys)
end FX

set_option Elab.async false
set_option linter.all false
set_option maxRecDepth 100000
set_option maxHeartbeats 1000000
namespace FX
open PySem PySem.Spec PyProof.Rows L2 SlX
def mkS (x : List Nat) : Str := ⟨x.toArray⟩
abbrev Nu := Nat → List Addr
/-- a read-only list (the script): locked, or of the module -/
def SqC (K : PySem.W.Frag) (H : Hp) (a : Addr) (vs : List V) : Prop := (∃ o, H a = some (.frz o (.lst vs))) ∨
  ∃ (o : Obj) (its : Array Value) (n : Nat), K.lookup a = some o ∧ o.cls = .type "list" ∧ o.dict = none ∧ o.data = .seq its n ∧ its.size ≤ sizeLine ∧ Vals vs its.toList
theorem SqC.sq {K : PySem.W.Frag} {H : Hp} {a : Addr} {vs : List V} (h : SqC K H a vs) : SqL K H a vs := by
  rcases h with ⟨o, h⟩ | h
  · exact .inl (.inr ⟨o, h⟩)
  · exact .inr h
mutual
inductive Rep (K : PySem.W.Frag) (ν : Nu) (H : Hp) : PV → V → Prop
  | non : Rep K ν H .non .non
  | bl {b} : Rep K ν H (.bl b) (.bl b)
  | int {i} : Rep K ν H (.int i) (.int i)
  | str {x} : Rep K ν H (.str x) (.str (mkS x))
  | ty {n} : Rep K ν H (.ty n) (.ty n)
  | tup {xs a vs} (h : H a = some (.tup vs)) (r : RepL K ν H xs vs) : Rep K ν H (.tup xs) (.ref a)
  | ref {n a l} (h : ν n = a :: l) : Rep K ν H (.ref n) (.ref a)
  | kl {a xs vs} (h : SqC K H a vs) (r : RepL K ν H xs vs) : Rep K ν H (.kl a xs) (.ref a)
inductive RepL (K : PySem.W.Frag) (ν : Nu) (H : Hp) : List PV → List V → Prop
  | nil : RepL K ν H [] []
  | cons {x v xs vs} (r : Rep K ν H x v) (t : RepL K ν H xs vs) : RepL K ν H (x :: xs) (v :: vs)
end
/-- what may have become of the heap -/
structure Mon (ν ν' : Nu) (H H' : Hp) : Prop where
  nu : ∀ n, ν n ≠ [] → ν' n = ν n
  tups : ∀ a xs, H a = some (.tup xs) → H' a = some (.tup xs)
  frzs : ∀ a o u, H a = some (.frz o u) → H' a = some (.frz o u)
structure Ext (ν ν' : Nu) (H H' : Hp) : Prop extends Mon ν ν' H H' where
  fr : ∀ b o, H b = some o → (∀ n, b ∉ ν n) → H' b = some o
  new : ∀ n a, ν n = [] → a ∈ ν' n → H a = none
  live : ∀ a, H' a = none → H a = none
theorem Ext.refl (ν : Nu) (H : Hp) : Ext ν ν H H := ⟨⟨fun _ _ => rfl, fun _ _ h => h, fun _ _ _ h => h⟩, fun _ _ h _ => h, fun n a h h' => (by rw [h] at h'; cases h'), fun _ h => h⟩
theorem Ext.trans {ν ν1 ν2 : Nu} {H H1 H2 : Hp} (a : Ext ν ν1 H H1) (b : Ext ν1 ν2 H1 H2) : Ext ν ν2 H H2 where
  nu := fun n h => by
    have e := a.nu n h
    rw [b.nu n (by rw [e]; exact h), e]
  tups := fun c xs h => b.tups c xs (a.tups c xs h)
  frzs := fun c o u h => b.frzs c o u (a.frzs c o u h)
  fr := fun c o h hc => b.fr c o (a.fr c o h hc) fun n hn => by
    by_cases e : ν n = []
    · have := a.new n c e hn
      rw [h] at this; cases this
    · rw [a.nu n e] at hn
      exact hc n hn
  new := fun n c e h => by
    by_cases e1 : ν1 n = []
    · exact a.live c (b.new n c e1 h)
    · rw [b.nu n e1] at h
      exact a.new n c e h
  live := fun c h => a.live c (b.live c h)
section
variable {K : PySem.W.Frag} {ν ν' : Nu} {H H' : Hp}
theorem Mon.sqT (e : Mon ν ν' H H') {a : Addr} {vs : List V} (h : SqT K H a vs) : SqT K H' a vs := by
  rcases h with (h | ⟨o, h⟩) | h
  · exact .inl (.inl (e.tups _ _ h))
  · exact .inl (.inr ⟨o, e.frzs _ _ _ h⟩)
  · exact .inr h
theorem Mon.sqC (e : Mon ν ν' H H') {a : Addr} {vs : List V} (h : SqC K H a vs) : SqC K H' a vs := by
  rcases h with ⟨o, h⟩ | h
  · exact .inl ⟨o, e.frzs _ _ _ h⟩
  · exact .inr h
mutual
theorem Rep.mon (e : Mon ν ν' H H') : ∀ {x : PV} {v : V}, Rep K ν H x v → Rep K ν' H' x v
  | _, _, .non => .non
  | _, _, .bl => .bl
  | _, _, .int => .int
  | _, _, .str => .str
  | _, _, .ty => .ty
  | _, _, .tup h r => .tup (e.tups _ _ h) (RepL.mon e r)
  | _, _, .ref h => .ref ((e.nu _ (by rw [h]; exact List.cons_ne_nil _ _)).trans h)
  | _, _, .kl h r => .kl (e.sqC h) (RepL.mon e r)
theorem RepL.mon (e : Mon ν ν' H H') : ∀ {xs : List PV} {vs : List V}, RepL K ν H xs vs → RepL K ν' H' xs vs
  | _, _, .nil => .nil
  | _, _, .cons r t => .cons (Rep.mon e r) (RepL.mon e t)
end
theorem Rep.ext (e : Ext ν ν' H H') {x : PV} {v : V} (r : Rep K ν H x v) : Rep K ν' H' x v := r.mon e.toMon
theorem RepL.ext (e : Ext ν ν' H H') {x : List PV} {v : List V} (r : RepL K ν H x v) : RepL K ν' H' x v := r.mon e.toMon
theorem RepL.length : ∀ {xs : List PV} {vs : List V}, RepL K ν H xs vs → xs.length = vs.length
  | _, _, .nil => rfl
  | _, _, .cons _ t => congrArg Nat.succ t.length
theorem RepL.get : ∀ {xs : List PV} {vs : List V} {i : Nat} {x : PV}, RepL K ν H xs vs → xs[i]? = some x → ∃ v, vs[i]? = some v ∧ Rep K ν H x v
  | _, _, _, _, .nil, e => by simp at e
  | _, _, 0, _, .cons r _, e => by simp at e; subst e; exact ⟨_, rfl, r⟩
  | _, _, i + 1, x, .cons _ t, e => by
    obtain ⟨v, h1, h2⟩ := RepL.get (i := i) (x := x) t (by simpa using e)
    exact ⟨v, by simpa using h1, h2⟩
theorem RepL.getV : ∀ {xs : List PV} {vs : List V} {i : Nat} {v : V}, RepL K ν H xs vs → vs[i]? = some v → ∃ x, xs[i]? = some x ∧ Rep K ν H x v
  | _, _, _, _, .nil, e => by simp at e
  | _, _, 0, _, .cons r _, e => by simp at e; subst e; exact ⟨_, rfl, r⟩
  | _, _, i + 1, x, .cons _ t, e => by
    obtain ⟨v, h1, h2⟩ := RepL.getV (i := i) (v := x) t (by simpa using e)
    exact ⟨v, by simpa using h1, h2⟩
theorem RepL.append : ∀ {xs ys : List PV} {vs us : List V}, RepL K ν H xs vs → RepL K ν H ys us → RepL K ν H (xs ++ ys) (vs ++ us)
  | _, _, _, _, .nil, h => h
  | _, _, _, _, .cons r t, h => .cons r (RepL.append t h)
theorem RepL.set {x : PV} {v : V} (r : Rep K ν H x v) : ∀ {xs : List PV} {vs : List V} (i : Nat), RepL K ν H xs vs → RepL K ν H (xs.set i x) (vs.set i v)
  | _, _, _, .nil => .nil
  | _, _, 0, .cons _ t => .cons r t
  | _, _, i + 1, .cons q t => .cons q (RepL.set r i t)
theorem RepL.drop : ∀ {xs : List PV} {vs : List V} (n : Nat), RepL K ν H xs vs → RepL K ν H (xs.drop n) (vs.drop n)
  | _, _, 0, h => h
  | _, _, _ + 1, .nil => .nil
  | _, _, n + 1, .cons _ t => RepL.drop n t
theorem RepL.take : ∀ {xs : List PV} {vs : List V} (n : Nat), RepL K ν H xs vs → RepL K ν H (xs.take n) (vs.take n)
  | _, _, 0, h => .nil
  | _, _, _ + 1, .nil => .nil
  | _, _, n + 1, .cons r t => .cons r (RepL.take n t)
theorem RepL.reverse {xs : List PV} {vs : List V} (h : RepL K ν H xs vs) : RepL K ν H xs.reverse vs.reverse := by
  induction xs generalizing vs with
  | nil => cases h; exact .nil
  | cons x xs ih =>
    cases h with
    | cons r t =>
      rw [List.reverse_cons, List.reverse_cons]
      exact (ih t).append (.cons r .nil)
theorem RepL.ints {ns : List Int} : RepL K ν H (ns.map PV.int) (ns.map V.int) := by
  induction ns with
  | nil => exact .nil
  | cons n ns ih => exact .cons .int ih
end
/-- slots -/
def RepO (K : PySem.W.Frag) (ν : Nu) (H : Hp) (fs : List (Option PV)) (vs : List (Option V)) : Prop := ∀ (i : Nat) (x : PV), fs[i]? = some (some x) → ∃ v, vs[i]? = some (some v) ∧ Rep K ν H x v
theorem RepO.mon {K : PySem.W.Frag} {ν ν' : Nu} {H H' : Hp} (e : Mon ν ν' H H') {fs : List (Option PV)} {vs : List (Option V)} (r : RepO K ν H fs vs) : RepO K ν' H' fs vs := fun i x hx =>
  let ⟨v, hv, rv⟩ := r i x hx
  ⟨v, hv, rv.mon e⟩
/-- pairs -/
def kP : Key → PV
  | .inl i => .int i
  | .inr x => .str x.cps.toList
def kPs (ks : List Key) : PV := .tup (ks.map kP)
def RepKV {κ : Type} (φ : κ → PV) (K : PySem.W.Frag) (ν : Nu) (H : Hp) (kvs : List (PV × PV)) (kws : List (κ × V)) : Prop := kvs.map (·.1) = kws.map (fun q => φ q.1) ∧ RepL K ν H (kvs.map (·.2)) (kws.map (·.2))
/-- the classes' addresses -/
abbrev Ca := Nat → Addr
/-- an exception that is held as a value -/
def ExV (cls : Value) (d : Option Addr) (a : Addr) : HO := .ext fun h => ∃ (oe : Obj) (vs : Array Value), h.get? a = some oe ∧ Zc cls d oe ∧ oe.data = .fields vs
theorem exV_nt {cls : Value} {d : Option Addr} {a : Addr} : (∀ xs, some (ExV cls d a) ≠ some (.tup xs)) ∧ ∀ o u, some (ExV cls d a) ≠ some (.frz o u) := ⟨fun xs z => by (unfold ExV at z; cases z), fun o u z => by (unfold ExV at z; cases z)⟩
theorem exV_ok {P : Program} {w : World} {H : Hp} {h : Heap} {a : Addr} {cls : Value} {d : Option Addr} {oe : Obj} {vs : Array Value} (e : h.get? a = some oe) (z : Zc cls d oe) (q : oe.data = .fields vs) : ObjOk P w H h a (ExV cls d a) :=
  ⟨⟨oe, vs, e, z, q⟩, ⟨_, e⟩, fun h1 h2 ⟨oe, vs, e, z, q⟩ k => ⟨oe, vs, k _ e, z, q⟩⟩
theorem exV_at {P : Program} {w : World} {H : Hp} {h : Heap} {a : Addr} {cls : Value} {d : Option Addr} (hok : HOk P w H h) (e : H a = some (ExV cls d a)) : ∃ (oe : Obj) (vs : Array Value), h.get? a = some oe ∧ Zc cls d oe ∧ oe.data = .fields vs := by
  have x : ObjOk P w H h a (.ext fun h => ∃ (oe : Obj) (vs : Array Value), h.get? a = some oe ∧ Zc cls d oe ∧ oe.data = .fields vs) := hok a _ e
  exact x.1
/-- what stands in HandS's heap at the places as -/
def ObAt (K : PySem.W.Frag) (ca : Ca) (ν : Nu) (H : Hp) (as : List Addr) : MO → Prop
  | .lst xs => ∃ a vs, as = [a] ∧ H a = some (.lst vs) ∧ RepL K ν H xs vs
  | .ins c fs => ∃ a dx vs, as = [a, dx] ∧ (Slt H a (ca c) dx vs ∧ (H dx = some (.own a) ∨ H dx = some (.xd []))) ∧ RepO K ν H fs vs
  | .dct kvs => ∃ a kws, as = [a] ∧ H a = some (.dK kws) ∧ RepKV kP K ν H kvs kws
  | .dtt kvs => ∃ a kws, as = [a] ∧ H a = some (.dT kws) ∧ RepKV kPs K ν H kvs kws
  | .exo c x => ∃ a d v, as = [a, d] ∧ H a = some (ExV (.ref (ca c)) (some d) a) ∧ H d = some (.xd [(("value" : Str), v)]) ∧ Rep K ν H x v
  | .bxo T => ∃ a, as = [a] ∧ H a = some (ExV (.type T) none a)
  | _ => False
structure Ab (K : PySem.W.Frag) (ca : Ca) (ν : Nu) (h : MH) (H : Hp) : Prop where
  dom : ∀ n, h.get n = none → ν n = []
  at_ : ∀ n o, h.get n = some o → ObAt K ca ν H (ν n) o
  inj : ∀ n m a, a ∈ ν n → a ∈ ν m → n = m
theorem ObAt.ne {K : PySem.W.Frag} {ca : Ca} {ν : Nu} {H : Hp} {as : List Addr} : ∀ {o : MO}, ObAt K ca ν H as o → as ≠ []
  | .lst _, ⟨_, _, e, _⟩ => by rw [e]; exact List.cons_ne_nil _ _
  | .ins _ _, ⟨_, _, _, e, _⟩ => by rw [e]; exact List.cons_ne_nil _ _
  | .dct _, ⟨_, _, e, _⟩ => by rw [e]; exact List.cons_ne_nil _ _
  | .dtt _, ⟨_, _, e, _⟩ => by rw [e]; exact List.cons_ne_nil _ _
  | .exo _ _, ⟨_, _, _, e, _⟩ => by rw [e]; exact List.cons_ne_nil _ _
  | .bxo _, ⟨_, e, _⟩ => by rw [e]; exact List.cons_ne_nil _ _
  | .set _, h => h.elim
theorem slt_ext {H H' : Hp} {a C dx : Addr} {vs : List (Option V)} (h : Slt H a C dx vs) (h1 : H' a = H a) (h2 : H' dx = H dx) : Slt H' a C dx vs := by
  rcases h with ⟨e1, e2⟩ | ⟨e1, e2⟩
  · exact .inl ⟨h1.trans e1, e2⟩
  · exact .inr ⟨h1.trans e1, h2.trans e2⟩
/-- an object that isn't touched -/
theorem ObAt.mon {K : PySem.W.Frag} {ca : Ca} {ν ν' : Nu} {H H' : Hp} (e : Mon ν ν' H H') {as : List Addr} (k : ∀ a ∈ as, H' a = H a) : ∀ {o : MO}, ObAt K ca ν H as o → ObAt K ca ν' H' as o
  | .lst _, ⟨a, vs, e1, e2, r⟩ => ⟨a, vs, e1, (k a (by rw [e1]; exact List.mem_cons_self)).trans e2, r.mon e⟩
  | .dct _, ⟨a, vs, e1, e2, r⟩ => ⟨a, vs, e1, (k a (by rw [e1]; exact List.mem_cons_self)).trans e2, r.1, r.2.mon e⟩
  | .dtt _, ⟨a, vs, e1, e2, r⟩ => ⟨a, vs, e1, (k a (by rw [e1]; exact List.mem_cons_self)).trans e2, r.1, r.2.mon e⟩
  | .ins _ _, ⟨a, dx, vs, e1, e2, r⟩ => 
    have k1 := k a (by rw [e1]; exact List.mem_cons_self)
    have k2 := k dx (by rw [e1]; exact List.mem_cons_of_mem _ List.mem_cons_self)
    ⟨a, dx, vs, e1, ⟨slt_ext e2.1 k1 k2, by rw [k2]; exact e2.2⟩, r.mon e⟩
  | .exo _ _, ⟨a, d, v, e1, e2, e3, r⟩ => ⟨a, d, v, e1, (k a (by rw [e1]; exact List.mem_cons_self)).trans e2, (k d (by rw [e1]; exact List.mem_cons_of_mem _ List.mem_cons_self)).trans e3, r.mon e⟩
  | .bxo _, ⟨a, e1, e2⟩ => ⟨a, e1, (k a (by rw [e1]; exact List.mem_cons_self)).trans e2⟩
  | .set _, h => h.elim
theorem ObAt.ext {K : PySem.W.Frag} {ca : Ca} {ν ν' : Nu} {H H' : Hp} (e : Ext ν ν' H H') {as : List Addr} (k : ∀ a ∈ as, H' a = H a) {o : MO} (q : ObAt K ca ν H as o) : ObAt K ca ν' H' as o := q.mon e.toMon k
section
variable {K : PySem.W.Frag} {ca : Ca} {ν : Nu} {h : MH} {H : Hp}
theorem Ab.nu_of (A : Ab K ca ν h H) {n : Nat} {o : MO} (e : h.get n = some o) : ν n ≠ [] := (A.at_ n o e).ne
theorem Ab.get_of (A : Ab K ca ν h H) {n : Nat} (e : ν n ≠ []) : ∃ o, h.get n = some o := by
  cases q : h.get n with
  | none => exact absurd (A.dom n q) e
  | some o => exact ⟨o, rfl⟩
/-- every address of ours is tracked -/
theorem Ab.live (A : Ab K ca ν h H) {n : Nat} {a : Addr} (ha : a ∈ ν n) : H a ≠ none := by
  obtain ⟨o, e⟩ := A.get_of (n := n) (fun z => by rw [z] at ha; cases ha)
  have q := A.at_ n o e
  cases o with
  | lst xs =>
    obtain ⟨b, vs, e1, e2, _⟩ := q
    rw [e1] at ha
    obtain rfl := List.mem_singleton.mp ha
    rw [e2]; exact fun z => nomatch z
  | dct kvs =>
    obtain ⟨b, vs, e1, e2, _⟩ := q
    rw [e1] at ha
    obtain rfl := List.mem_singleton.mp ha
    rw [e2]; exact fun z => nomatch z
  | dtt kvs =>
    obtain ⟨b, vs, e1, e2, _⟩ := q
    rw [e1] at ha
    obtain rfl := List.mem_singleton.mp ha
    rw [e2]; exact fun z => nomatch z
  | ins c fs =>
    obtain ⟨b, dx, vs, e1, e2, _⟩ := q
    rw [e1] at ha
    obtain ⟨e2, e4⟩ := e2
    rcases List.mem_cons.mp ha with rfl | ha
    · rcases e2 with ⟨e2, _⟩ | ⟨e2, e3⟩
      · rw [e2]; exact fun z => nomatch z
      · rw [e2]; exact fun z => nomatch z
    · obtain rfl := List.mem_singleton.mp ha
      rcases e4 with e4 | e4 <;> (rw [e4]; exact fun z => nomatch z)
  | exo c x =>
    obtain ⟨b, d, v, e1, e2, e3, _⟩ := q
    rw [e1] at ha
    rcases List.mem_cons.mp ha with rfl | ha
    · rw [e2]; exact fun z => nomatch z
    · obtain rfl := List.mem_singleton.mp ha
      rw [e3]; exact fun z => nomatch z
  | bxo T =>
    obtain ⟨b, e1, e2⟩ := q
    rw [e1] at ha
    obtain rfl := List.mem_singleton.mp ha
    rw [e2]; exact fun z => nomatch z
  | set _ => exact q.elim
theorem ObAt.nt {as : List Addr} {o : MO} (q : ObAt K ca ν H as o) {b : Addr} (hb : b ∈ as) : (∀ xs, H b ≠ some (.tup xs)) ∧ ∀ o u, H b ≠ some (.frz o u) := by
  cases o with
  | lst xs =>
    obtain ⟨a, vs, e1, e2, _⟩ := q
    rw [e1] at hb
    obtain rfl := List.mem_singleton.mp hb
    rw [e2]; exact ⟨fun _ z => (nomatch z), fun _ _ z => (nomatch z)⟩
  | dct kvs =>
    obtain ⟨a, vs, e1, e2, _⟩ := q
    rw [e1] at hb
    obtain rfl := List.mem_singleton.mp hb
    rw [e2]; exact ⟨fun _ z => (nomatch z), fun _ _ z => (nomatch z)⟩
  | dtt kvs =>
    obtain ⟨a, vs, e1, e2, _⟩ := q
    rw [e1] at hb
    obtain rfl := List.mem_singleton.mp hb
    rw [e2]; exact ⟨fun _ z => (nomatch z), fun _ _ z => (nomatch z)⟩
  | ins c fs =>
    obtain ⟨a, dx, vs, e1, ⟨e2, e4⟩, _⟩ := q
    rw [e1] at hb
    rcases List.mem_cons.mp hb with rfl | hb
    · rcases e2 with ⟨e2, _⟩ | ⟨e2, e3⟩
      · rw [e2]; exact ⟨fun _ z => (nomatch z), fun _ _ z => (nomatch z)⟩
      · rw [e2]
        exact ⟨fun _ z => by (unfold SlO at z; cases z), fun _ _ z => by (unfold SlO at z; cases z)⟩
    · obtain rfl := List.mem_singleton.mp hb
      rcases e4 with e4 | e4 <;> (rw [e4]; exact ⟨fun _ z => (nomatch z), fun _ _ z => (nomatch z)⟩)
  | exo c x =>
    obtain ⟨a, d, v, e1, e2, e3, _⟩ := q
    rw [e1] at hb
    rcases List.mem_cons.mp hb with rfl | hb
    · rw [e2]; exact exV_nt
    · obtain rfl := List.mem_singleton.mp hb
      rw [e3]; exact ⟨fun _ z => (nomatch z), fun _ _ z => (nomatch z)⟩
  | bxo T =>
    obtain ⟨a, e1, e2⟩ := q
    rw [e1] at hb
    obtain rfl := List.mem_singleton.mp hb
    rw [e2]; exact exV_nt
  | set _ => exact q.elim
/-- an object written -/
theorem Ab.wr (A : Ab K ca ν h H) {n : Nat} {o mo : MO} {H' : Hp} (e : h.get n = some o) (hH : ∀ b, b ∉ ν n → H' b = H b) (hl : ∀ b ∈ ν n, H' b ≠ none)
    (ho : Ext ν ν H H' → ObAt K ca ν H' (ν n) mo) : Ext ν ν H H' ∧ Ab K ca ν (h.put n mo) H' := by
  have q := A.at_ n o e
  have x : Ext ν ν H H' := by
    refine ⟨⟨fun _ _ => rfl, fun a xs ha => ?_, fun a ob u ha => ?_⟩, fun b ob hb hn => ?_, fun m a h1 h2 => (by (rw [h1] at h2; cases h2)), fun a ha => ?_⟩
    · by_cases hm : a ∈ ν n
      · exact absurd ha ((q.nt hm).1 xs)
      · rw [hH a hm]; exact ha
    · by_cases hm : a ∈ ν n
      · exact absurd ha ((q.nt hm).2 ob u)
      · rw [hH a hm]; exact ha
    · rw [hH b (hn n)]; exact hb
    · by_cases hm : a ∈ ν n
      · exact absurd ha (hl a hm)
      · rw [← hH a hm]; exact ha
  refine ⟨x, fun m hm => ?_, fun m om hm => ?_, A.inj⟩
  · by_cases hmn : m = n
    · subst hmn
      rw [MH.get_put (MH.get_lt e)] at hm; cases hm
    · rw [MH.get_put_ne hmn] at hm
      exact A.dom m hm
  · by_cases hmn : m = n
    · subst hmn
      rw [MH.get_put (MH.get_lt e)] at hm
      cases hm
      exact ho x
    · rw [MH.get_put_ne hmn] at hm
      exact (A.at_ m om hm).ext x fun a ha => hH a fun z => hmn (A.inj m n a ha z)
def nuN (ν : Nu) (n : Nat) (as : List Addr) : Nu := fun m => if m = n then as else ν m
theorem nuN_same {n : Nat} {as : List Addr} : nuN ν n as n = as := if_pos rfl
theorem nuN_ne {n m : Nat} {as : List Addr} (h : m ≠ n) : nuN ν n as m = ν m := if_neg h
/-- an object made -/
theorem Ab.nw (A : Ab K ca ν h H) {as : List Addr} {mo : MO} {H' : Hp} (hn : ∀ a ∈ as, H a = none) (hH : ∀ b, b ∉ as → H' b = H b) (hl : ∀ b ∈ as, H' b ≠ none)
    (ho : Ext ν (nuN ν h.nx as) H H' → ObAt K ca (nuN ν h.nx as) H' as mo) : Ext ν (nuN ν h.nx as) H H' ∧ Ab K ca (nuN ν h.nx as) (h.new mo) H' := by
  have nx : ν h.nx = [] := A.dom _ MH.get_nx
  have old : ∀ b, H b ≠ none → H' b = H b := fun b hb => hH b fun z => hb (hn b z)
  have x : Ext ν (nuN ν h.nx as) H H' := by
    refine ⟨⟨fun m hm => nuN_ne fun z => hm (by rw [z]; exact nx), fun a xs ha => ?_, fun a ob u ha => ?_⟩, fun b ob hb _ => ?_, fun m a h1 h2 => ?_, fun a ha => ?_⟩
    · rw [old a (by rw [ha]; exact fun z => nomatch z)]; exact ha
    · rw [old a (by rw [ha]; exact fun z => nomatch z)]; exact ha
    · rw [old b (by rw [hb]; exact fun z => nomatch z)]; exact hb
    · by_cases hm : m = h.nx
      · subst hm
        rw [nuN_same] at h2
        exact hn a h2
      · rw [nuN_ne hm, h1] at h2; cases h2
    · by_cases hm : a ∈ as
      · exact hn a hm
      · rw [← hH a hm]; exact ha
  refine ⟨x, fun m hm => ?_, fun m om hm => ?_, fun m k a h1 h2 => ?_⟩
  · by_cases hmn : m = h.nx
    · subst hmn
      rw [MH.get_new] at hm; cases hm
    · rw [MH.get_new_ne hmn] at hm
      rw [nuN_ne hmn]
      exact A.dom m hm
  · by_cases hmn : m = h.nx
    · subst hmn
      rw [MH.get_new] at hm
      cases hm
      rw [nuN_same]
      exact ho x
    · rw [MH.get_new_ne hmn] at hm
      rw [nuN_ne hmn]
      exact (A.at_ m om hm).ext x fun a ha => old a (A.live ha)
  · by_cases h3 : m = h.nx
    · by_cases h4 : k = h.nx
      · rw [h3, h4]
      · rw [h3, nuN_same] at h1
        rw [nuN_ne h4] at h2
        exact absurd (hn a h1) (A.live h2)
    · rw [nuN_ne h3] at h1
      by_cases h4 : k = h.nx
      · rw [h4, nuN_same] at h2
        exact absurd (hn a h2) (A.live h1)
      · rw [nuN_ne h4] at h2
        exact A.inj m k a h1 h2
/-- what is not ours (new ahead, at p) is changed -/
theorem Ext.side {ν0 : Nu} {H0 : Hp} (e : Ext ν0 ν H0 H) {p : Addr} {o : HO} (hp : H0 p = none) : Ext ν0 ν H0 (upd H p o) := by
  have ne : ∀ b ob, H0 b = some ob → b ≠ p := fun b ob hb z => by rw [z, hp] at hb; cases hb
  refine ⟨⟨e.nu, fun a xs ha => ?_, fun a ob u ha => ?_⟩, fun b ob hb hn => ?_, e.new, fun a ha => ?_⟩
  · rw [upd_ne (ne a _ ha)]; exact e.tups a xs ha
  · rw [upd_ne (ne a _ ha)]; exact e.frzs a ob u ha
  · rw [upd_ne (ne b _ hb)]; exact e.fr b ob hb hn
  · by_cases hm : a = p
    · rw [hm]; exact hp
    · rw [upd_ne hm] at ha; exact e.live a ha
theorem Ab.side (A : Ab K ca ν h H) {p : Addr} {o : HO} {xs : List V} (hp : ∀ n, p ∉ ν n) (hl : H p = some (.lst xs)) : Mon ν ν H (upd H p o) ∧ Ab K ca ν h (upd H p o) := by
  have m : Mon ν ν H (upd H p o) := by
    refine ⟨fun _ _ => rfl, fun a xs ha => ?_, fun a ob u ha => ?_⟩
    · rw [upd_ne fun z => by rw [z, hl] at ha; cases ha]; exact ha
    · rw [upd_ne fun z => by rw [z, hl] at ha; cases ha]; exact ha
  exact ⟨m, A.dom, fun n om hm => (A.at_ n om hm).mon m fun a ha => upd_ne fun z => hp n (by rw [← z]; exact ha), A.inj⟩
/-- something new that isn't ours (a tuple, an iterator's pair) -/
theorem Ab.oth (A : Ab K ca ν h H) {p : Addr} {o : HO} (hp : H p = none) : Ext ν ν H (upd H p o) ∧ Ab K ca ν h (upd H p o) := by
  have old : ∀ b, H b ≠ none → upd H p o b = H b := fun b hb => upd_ne fun z => hb (by rw [z]; exact hp)
  have x : Ext ν ν H (upd H p o) := by
    refine ⟨⟨fun _ _ => rfl, fun a xs ha => ?_, fun a ob u ha => ?_⟩, fun b ob hb _ => ?_, fun m a h1 h2 => (by (rw [h1] at h2; cases h2)), fun a ha => ?_⟩
    · rw [old a (by rw [ha]; exact fun z => nomatch z)]; exact ha
    · rw [old a (by rw [ha]; exact fun z => nomatch z)]; exact ha
    · rw [old b (by rw [hb]; exact fun z => nomatch z)]; exact hb
    · by_cases hm : a = p
      · rw [hm]; exact hp
      · rw [upd_ne hm] at ha; exact ha
  exact ⟨x, A.dom, fun m om hm => (A.at_ m om hm).ext x fun a ha => old a (A.live ha), A.inj⟩
end
section
variable {α β : Type}
/-- the dict of an exception in flight: none of ours -/
def XdAt (ν : Nu) (H : Hp) (d : Addr) (v : V) : Prop := H d = some (.xd [(("value" : Str), v)]) ∧ ∀ n, d ∉ ν n
/-- behind a run's result r, from (ν, H): W of an exception that leaves -/
def Post (K : PySem.W.Frag) (ca : Ca) (W : WX) (σ : L2.St) (ν : Nu) (H : Hp) (r : R α) (Φ : Nu → Hp → MH → α → Prop) : Prop := match r with
  | .ok x h' => ∀ ν' H', Ext ν ν' H H' → Ab K ca ν' h' H' → Φ ν' H' h' x
  | .exc c x h' => ∀ ν' H' d v, Ext ν ν' H H' → Ab K ca ν' h' H' → XdAt ν' H' d v → Rep K ν' H' x v → W (.ref (ca c)) (some d) σ H'
  | .bad => False
variable {K : PySem.W.Frag} {ca : Ca} {W : WX} {σ : L2.St} {ν ν1 : Nu} {H H1 : Hp} {r : R α} {Φ Ψ : Nu → Hp → MH → α → Prop}
theorem Post.ext (p : Post K ca W σ ν H r Φ) (e : Ext ν ν1 H H1) : Post K ca W σ ν1 H1 r Φ := by
  cases r with
  | ok x h' => exact fun ν' H' e' A' => p ν' H' (e.trans e') A'
  | exc c x h' => exact fun ν' H' d v e' A' => p ν' H' d v (e.trans e') A'
  | bad => exact p
theorem Post.mono (p : Post K ca W σ ν H r Φ) (f : ∀ ν' H' h' x, Ext ν ν' H H' → Ab K ca ν' h' H' → Φ ν' H' h' x → Ψ ν' H' h' x) : Post K ca W σ ν H r Ψ := by
  cases r with
  | ok x h' => exact fun ν' H' e' A' => f ν' H' h' x e' A' (p ν' H' e' A')
  | exc c x h' => exact p
  | bad => exact p
theorem Post.bind {m : M α} {g : α → M β} {h : MH} {Φ : Nu → Hp → MH → β → Prop} (p : Post K ca W σ ν H ((m.bind g) h) Φ) :
    Post K ca W σ ν H (m h) fun ν1 H1 h1 x => Post K ca W σ ν1 H1 (g x h1) Φ := by
  unfold M.bind at p
  cases q : m h with
  | ok x h1 =>
    rw [q] at p
    exact fun ν1 H1 e1 _ => Post.ext (show Post K ca W σ ν H (g x h1) Φ from p) e1
  | exc c x h1 =>
    rw [q] at p
    exact p
  | bad =>
    rw [q] at p
    exact p
theorem Post.ret {x : α} {h : MH} (p : Post K ca W σ ν H (.ok x h) Φ) (A : Ab K ca ν h H) : Φ ν H h x := p ν H (Ext.refl ν H) A
end
/-- the names' values -/
def EnvR (K : PySem.W.Frag) (ν : Nu) (H : Hp) (ρ : Env) (σ : L2.St) : Prop := ρ.length = σ.length ∧ ∀ (i : Nat) (x : PV), ρ[i]? = some (some x) → ∃ v, σ[i]? = some (some v) ∧ Rep K ν H x v
section
variable {K : PySem.W.Frag} {ν ν1 : Nu} {H H1 : Hp} {ρ : Env} {σ : L2.St}
theorem EnvR.ext (r : EnvR K ν H ρ σ) (e : Ext ν ν1 H H1) : EnvR K ν1 H1 ρ σ := ⟨r.1, fun i x hx =>
  let ⟨v, hv, rv⟩ := r.2 i x hx
  ⟨v, hv, rv.ext e⟩⟩
theorem EnvR.set (r : EnvR K ν H ρ σ) {x : PV} {v : V} (rv : Rep K ν H x v) (i : Nat) : EnvR K ν H (ρ.set i (some x)) (σ.set i (some v)) := by
  refine ⟨by rw [List.length_set, List.length_set]; exact r.1, fun j y hy => ?_⟩
  by_cases hj : j = i
  · subst hj
    by_cases hl : j < ρ.length
    · rw [List.getElem?_set_self hl] at hy
      cases hy
      exact ⟨v, List.getElem?_set_self (by rw [← r.1]; exact hl), rv⟩
    · rw [List.getElem?_eq_none_iff.mpr (by rw [List.length_set]; omega)] at hy
      cases hy
  · rw [List.getElem?_set_ne (Ne.symm hj)] at hy
    obtain ⟨w, h1, h2⟩ := r.2 j y hy
    exact ⟨w, by rw [List.getElem?_set_ne (Ne.symm hj)]; exact h1, h2⟩
end
end FX

set_option Elab.async false
set_option linter.all false
set_option maxRecDepth 100000
set_option maxHeartbeats 1000000
namespace FX
open PySem PySem.Spec PyProof.Rows L2 SlX
inductive Out where
  | nx (ρ : Env) | rt (x : PV) | bk (ρ : Env) | ct (ρ : Env) | xc (c : Nat) (x : PV) (ρ : Env)
/-- truth -/
def tru : PV → M Bool
  | .non => M.ret false
  | .bl b => M.ret b
  | .int i => M.ret (i != 0)
  | .tup xs => M.ret (!xs.isEmpty)
  | .ref n => mAt n fun o => match o with
    | .lst xs => M.ret (!xs.isEmpty)
    | .dct xs => M.ret (!xs.isEmpty)
    | _ => M.bad
  | .kl _ xs => M.ret (!xs.isEmpty)
  | _ => M.bad
abbrev EF := Env → M PV
abbrev TF := Env → M Bool
abbrev AF := Env → M (List PV)
abbrev SF := Env → M Out
abbrev GF := PV → Env → M Env
def eVar (i : Nat) : EF := fun ρ h => match ρ[i]? with
  | some (some x) => .ok x h
  | _ => .bad
def eC (x : PV) : EF := fun _ => M.ret x
def eOp (g : PV → PV → M PV) (a b : EF) : EF := fun ρ => (a ρ).bind fun x => (b ρ).bind fun y => g x y
def eUn (g : PV → M PV) (a : EF) : EF := fun ρ => (a ρ).bind g
def tOf (a : EF) : TF := fun ρ => (a ρ).bind tru
def asB : PV → M Bool
  | .bl b => M.ret b
  | _ => M.bad
def tCm (g : PV → PV → M PV) (a b : EF) : TF := fun ρ => (eOp g a b ρ).bind asB
def eChn (g g' : PV → PV → M PV) (a b c : EF) : EF := fun ρ => (a ρ).bind fun x => (b ρ).bind fun y => (g x y).bind fun z => (asB z).bind fun k => if k then (c ρ).bind fun w => g' y w else M.ret (.bl false)
def tChn (g g' : PV → PV → M PV) (a b c : EF) : TF := fun ρ => (eChn g g' a b c ρ).bind asB
def tNo (t : TF) : TF := fun ρ => (t ρ).bind fun b => M.ret (!b)
def tAn (t u : TF) : TF := fun ρ => (t ρ).bind fun b => if b then u ρ else M.ret false
def tOo (t u : TF) : TF := fun ρ => (t ρ).bind fun b => if b then M.ret true else u ρ
def eAn (a b : EF) : EF := fun ρ => (a ρ).bind fun x => (tru x).bind fun k => if k then b ρ else M.ret x
def eOo (a b : EF) : EF := fun ρ => (a ρ).bind fun x => (tru x).bind fun k => if k then M.ret x else b ρ
def eNo (a : EF) : EF := fun ρ => (a ρ).bind fun x => (tru x).bind fun k => M.ret (.bl (!k))
def eIf (t : TF) (a b : EF) : EF := fun ρ => (t ρ).bind fun k => if k then a ρ else b ρ
def aNil : AF := fun _ => M.ret []
def aCons (a : EF) (r : AF) : AF := fun ρ => (a ρ).bind fun x => (r ρ).bind fun xs => M.ret (x :: xs)
def eTup (r : AF) : EF := fun ρ => (r ρ).bind fun xs => if xs.length ≤ 10000000 then M.ret (.tup xs) else M.bad
def eLst (r : AF) : EF := fun ρ => (r ρ).bind fun xs => if xs.length ≤ 10000000 then mNew (.lst xs) else M.bad
def eApp (g : List PV → M PV) (r : AF) : EF := fun ρ => (r ρ).bind g
/-- an expression's end in a statement -/
def sThen {α : Type} (m : M α) (ρ : Env) (k : α → M Out) : M Out := fun h => match m h with
  | .ok x h' => k x h'
  | .exc c x h' => .ok (.xc c x ρ) h'
  | .bad => .bad
def sExp (a : EF) : SF := fun ρ => sThen (a ρ) ρ fun _ => M.ret (.nx ρ)
def sRet (a : EF) : SF := fun ρ => sThen (a ρ) ρ fun x => M.ret (.rt x)
def sRetN : SF := fun _ => M.ret (.rt .non)
def sPass : SF := fun ρ => M.ret (.nx ρ)
def sBrk : SF := fun ρ => M.ret (.bk ρ)
def sCnt : SF := fun ρ => M.ret (.ct ρ)
def sNev : SF := fun _ => M.bad
def gSet (i : Nat) : GF := fun x ρ => M.ret (ρ.set i (some x))
def gAll : List GF → List PV → Env → M Env
  | [], [], ρ => M.ret ρ
  | g :: gs, x :: xs, ρ => (g x ρ).bind fun ρ' => gAll gs xs ρ'
  | _, _, _ => M.bad
def gTp (gs : List GF) : GF := fun x ρ => match x with
  | .tup xs => gAll gs xs ρ
  | _ => M.bad
def sAsg (a : EF) (g : GF) : SF := fun ρ => sThen (a ρ) ρ fun x => sThen (g x ρ) ρ fun ρ' => M.ret (.nx ρ')
def sSeq (s t : SF) : SF := fun ρ => (s ρ).bind fun o => match o with
  | .nx ρ' => t ρ'
  | o => M.ret o
def sIf (t : TF) (a b : SF) : SF := fun ρ => sThen (t ρ) ρ fun k => if k then a ρ else b ρ
def wN (t : TF) (b : SF) : Nat → SF
  | 0, _ => M.bad
  | n + 1, ρ => sThen (t ρ) ρ fun k => if k then (b ρ).bind fun o => (match o with
      | .nx ρ' => wN t b n ρ'
      | .ct ρ' => wN t b n ρ'
      | .bk ρ' => M.ret (.nx ρ')
      | o => M.ret o) else M.ret (.nx ρ)
def fuel : Nat := 100000000
def sWh (t : TF) (b : SF) : SF := wN t b fuel
/-- what is walked: the i-th item, by the heap of now -/
abbrev Src := Nat → MH → Option (Option PV)
abbrev IF := Env → M Src
def srcL (xs : List PV) : Src := fun i _ => some xs[i]?
def srcR (lo : Int) (n : Nat) : Src := fun i _ => some (if i < n then some (.int (lo + i)) else none)
def srcH (n : Nat) : Src := fun i h => match h.get n with
  | some (.lst xs) => some xs[i]?
  | _ => none
def enumS (s : Src) : Src := fun i h => match s i h with
  | some (some x) => some (some (.tup [.int i, x]))
  | r => r
def zipS (s t : Src) : Src := fun i h => match s i h with
  | some (some x) => (match t i h with
    | some (some y) => some (some (.tup [x, y]))
    | r => r)
  | r => r
def forN (nxt : Src) (g : GF) (b : SF) : Nat → Nat → SF
  | 0, _, _ => M.bad
  | f + 1, i, ρ => fun h => match nxt i h with
    | none => .bad
    | some none => .ok (.nx ρ) h
    | some (some x) => ((sThen (g x ρ) ρ fun ρ' => b ρ').bind fun o => match o with
      | .nx ρ' => forN nxt g b f (i + 1) ρ'
      | .ct ρ' => forN nxt g b f (i + 1) ρ'
      | .bk ρ' => M.ret (.nx ρ')
      | o => M.ret o) h
def sFor (s : IF) (g : GF) (b : SF) : SF := fun ρ => sThen (s ρ) ρ fun nxt => forN nxt g b fuel 0 ρ
section
variable (X : Cx) (ca : Ca) (W : WX)
def tE (K : PySem.W.Frag) (f : EF) : TE := fun σ H Q => ∃ ν ρ h, Ab K ca ν h H ∧ EnvR K ν H ρ σ ∧ Post K ca W σ ν H (f ρ h) fun ν' H' _ x => ∀ v, Rep K ν' H' x v → Q v H'
def tT (K : PySem.W.Frag) (f : TF) : TT := fun σ H Q => ∃ ν ρ h, Ab K ca ν h H ∧ EnvR K ν H ρ σ ∧ Post K ca W σ ν H (f ρ h) fun ν' H' _ b => Q b H'
def tA (K : PySem.W.Frag) (f : AF) : TA := fun σ H Q => ∃ ν ρ h, Ab K ca ν h H ∧ EnvR K ν H ρ σ ∧ Post K ca W σ ν H (f ρ h) fun ν' H' _ xs => ∀ vs, RepL K ν' H' xs vs → Q vs H'
/-- how a statement ends -/
def Done (K : PySem.W.Frag) (D : Ends) (ν : Nu) (H : Hp) : Out → Prop
  | .nx ρ => ∀ σ, EnvR K ν H ρ σ → D.nx σ H
  | .rt x => ∀ v, Rep K ν H x v → D.rt v H
  | .bk ρ => ∀ σ, EnvR K ν H ρ σ → D.bk σ H
  | .ct ρ => ∀ σ, EnvR K ν H ρ σ → D.ct σ H
  | .xc c x ρ => ∀ σ d v, EnvR K ν H ρ σ → XdAt ν H d v → Rep K ν H x v → W (.ref (ca c)) (some d) σ H
/-- no exception is left in a statement's run -/
def W0 : WX := fun _ _ _ _ => False
def tS (K : PySem.W.Frag) (g : SF) : TS := fun D σ H => ∃ ν ρ h, Ab K ca ν h H ∧ EnvR K ν H ρ σ ∧ Post K ca W0 σ ν H (g ρ h) fun ν' H' _ o => Done ca W K D ν' H' o
def tG (K : PySem.W.Frag) (vs : List Nat) (g : GF) : TG := fun v σ H Q => ∃ ν ρ h x, Ab K ca ν h H ∧ EnvR K ν H ρ σ ∧ Rep K ν H x v ∧ Post K ca W σ ν H (g x ρ h) fun ν' H' _ ρ' => ∀ σ', EnvR K ν' H' ρ' σ' → wipe σ' vs = wipe σ vs → Q σ' H'
def PX (e : Expr) (f : EF) : Prop := PE X e (tE ca W X.K f)
def PXT (e : Expr) (f : TF) : Prop := PT X e (tT ca W X.K f)
def PXW (e : Expr) (f : TF) : Prop := PW X e (tT ca W X.K f)
def PXA (es : List Expr) (f : AF) : Prop := PA X es (tA ca W X.K f)
def PXS (s : Stmt) (g : SF) : Prop := PS X s (tS ca W X.K g)
def PXSs (s : List Stmt) (g : SF) : Prop := PSs X s (tS ca W X.K g)
def PXG (vs : List Nat) (e : Expr) (g : GF) : Prop := PG X e (tG ca W X.K vs g)
/-- an operation on two values -/
def OpM (f : Value → Value → Sem Value) (g : PV → PV → M PV) : Prop := ∀ pins s σ H ν h x y xv yv v u Q, Inv X pins σ H s → RelV xv v → RelV yv u → Ab X.K ca ν h H → Rep X.K ν H x xv → Rep X.K ν H y yv →
  Post X.K ca W σ ν H (g x y h) (fun ν' H' _ z => ∀ w, Rep X.K ν' H' z w → Q w H') → wpAny (model X.prog X.w) X.A (f v u) (EP X pins σ Q) X.xe s
def UnM (f : Value → Sem Value) (g : PV → M PV) : Prop := ∀ pins s σ H ν h x xv v Q, Inv X pins σ H s → RelV xv v → Ab X.K ca ν h H → Rep X.K ν H x xv →
  Post X.K ca W σ ν H (g x h) (fun ν' H' _ z => ∀ w, Rep X.K ν' H' z w → Q w H') → wpAny (model X.prog X.w) X.A (f v) (EP X pins σ Q) X.xe s
end
section
variable {X : Cx} {ca : Ca} {W : WX} {a b c e : Expr} {fa fb fc : EF} {t u : TF} {pos : Pos} {es : List Expr} {ra : AF}
theorem PE.imp {t t' : TE} (h : PE X e t) (f : ∀ σ H Q, t' σ H Q → t σ H Q) : PE X e t' := ⟨fun pins s σ H Q I q => h.run pins s σ H Q I (f _ _ _ q)⟩
theorem PT.imp {t t' : TT} (h : PT X e t) (f : ∀ σ H Q, t' σ H Q → t σ H Q) : PT X e t' := ⟨fun pins s σ H Q I q => h.run pins s σ H Q I (f _ _ _ q)⟩
theorem PW.imp {t t' : TT} (h : PW X e t) (f : ∀ σ H Q, t' σ H Q → t σ H Q) : PW X e t' := ⟨fun wh pins s σ H Q I q => h.run wh pins s σ H Q I (f _ _ _ q)⟩
theorem PA.imp {t t' : TA} (h : PA X es t) (f : ∀ σ H Q, t' σ H Q → t σ H Q) : PA X es t' := ⟨fun p pins s σ H Q I q => h.run p pins s σ H Q I (f _ _ _ q)⟩
theorem PS.imp {st : Stmt} {t t' : TS} (h : PS X st t) (f : ∀ D σ H, t' D σ H → t D σ H) : PS X st t' := ⟨fun pins s σ H D I q => h.run pins s σ H D I (f _ _ _ q)⟩
theorem PSs.imp {st : List Stmt} {t t' : TS} (h : PSs X st t) (f : ∀ D σ H, t' D σ H → t D σ H) : PSs X st t' := ⟨fun pins s σ H D I q => h.run pins s σ H D I (f _ _ _ q)⟩
theorem PG.imp {t t' : TG} (h : PG X e t) (f : ∀ v σ H Q, t' v σ H Q → t v σ H Q) : PG X e t' := ⟨fun pins s σ H v u Q I r q => h.run pins s σ H v u Q I r (f _ _ _ _ q)⟩
theorem px_var (i : Nat) {x : Str} (hN : X.N[i]? = some x := by rfl) (hv : Vis X.env.scope x := by first | exact Or.inl rfl | exact Or.inr (Or.inl rfl) | exact Or.inr (Or.inr rfl)) (hd : (x == ("__debug__" : Str)) = false := by decide)
    (hcd : (x == ("__classdict__" : Str)) = false := by decide) : PX X ca W (.Name x pos) (eVar i) := by
  refine PE.imp (pe_var hN hv hd hcd) fun σ H Q ⟨ν, ρ, h, A, E, P⟩ => ?_
  unfold eVar at P
  split at P
  · rename_i x e
    obtain ⟨v, hv, r⟩ := E.2 i x e
    exact ⟨v, hv, Post.ret P A v r⟩
  · exact P.elim
theorem px_of {t : TE} {f : EF} (h : PE X e t) (hh : ∀ σ H Q ν ρ hp, Ab X.K ca ν hp H → EnvR X.K ν H ρ σ → Post X.K ca W σ ν H (f ρ hp) (fun ν' H' _ x => ∀ v, Rep X.K ν' H' x v → Q v H') → t σ H Q) : PX X ca W e f :=
  PE.imp h fun σ H Q ⟨ν, ρ, hp, A, E, P⟩ => hh σ H Q ν ρ hp A E P
theorem px_c {x : PV} {v : V} (h : PE X e (tC v)) (r : ∀ ν H, Rep X.K ν H x v) : PX X ca W e (eC x) := px_of h fun σ H Q ν ρ hp A E P => Post.ret P A v (r ν H)
theorem px_int {i : Int} {j : Nat} : PX X ca W (.Constant (.int i) j pos) (eC (.int i)) := px_c pe_int fun _ _ => .int
theorem px_bl {i : Bool} {j : Nat} : PX X ca W (.Constant (.bool i) j pos) (eC (.bl i)) := px_c pe_bl fun _ _ => .bl
theorem px_non {j : Nat} : PX X ca W (.Constant .none j pos) (eC .non) := px_c pe_non fun _ _ => .non
theorem px_str {x : Str} {l : List Nat} {j : Nat} (hx : mkS l = x) : PX X ca W (.Constant (.str x) j pos) (eC (.str l)) := px_c pe_str fun _ _ => by rw [← hx]; exact .str
theorem px_glob {x : Str} {v : V} {u : Value} {p : PV} (hg : Gl X x) (hm : X.mg x = some u) (r : RelV v u) (rp : ∀ ν H, Rep X.K ν H p v) (hd : (x == ("__debug__" : Str)) = false := by decide) : PX X ca W (.Name x pos) (eC p) := px_c (pe_glob hg hm r hd) rp
theorem bind2 {g : PV → PV → M PV} {σ : L2.St} {H : Hp} {ν : Nu} {ρ : Env} {h : MH} {Φ : Nu → Hp → MH → PV → Prop} (A : Ab X.K ca ν h H) (E : EnvR X.K ν H ρ σ) (P : Post X.K ca W σ ν H (eOp g fa fb ρ h) Φ) :
    tE ca W X.K fa σ H fun x H1 => tE ca W X.K fb σ H1 fun y H2 => ∃ ν2 h2 px py, Ab X.K ca ν2 h2 H2 ∧ Rep X.K ν2 H2 px x ∧ Rep X.K ν2 H2 py y ∧ Post X.K ca W σ ν2 H2 (g px py h2) Φ := by
  refine ⟨ν, ρ, h, A, E, (Post.bind P).mono fun ν1 H1 h1 px e1 A1 P1 v rv => ⟨ν1, ρ, h1, A1, E.ext e1, (Post.bind P1).mono fun ν2 H2 h2 py e2 A2 P2 w rw' => ⟨ν2, h2, px, py, A2, rv.ext e2, rw', P2⟩⟩⟩
theorem px_op {op : Operator} {g : PV → PV → M PV} (ho : OpM X ca W (binaryOp op) g) (ha : PX X ca W a fa) (hb : PX X ca W b fb) : PX X ca W (.BinOp a op b pos) (eOp g fa fb) := by
  refine ⟨fun pins s σ H Q I ⟨ν, ρ, h, A, E, P⟩ => ?_⟩
  refine wpAny_BinOp (bin ha hb I (bind2 A E P) fun v u s2 x y H2 I2 rx ry ⟨ν2, h2, px, py, A2, r1, r2, P2⟩ => ?_)
  exact ho pins s2 σ H2 ν2 h2 px py x y v u Q I2 rx ry A2 r1 r2 P2
theorem px_un {op : UnaryOp} {g : PV → M PV} (ho : UnM X ca W (unaryOp op) g) (ha : PX X ca W a fa) : PX X ca W (.UnaryOp op a pos) (eUn g fa) := by
  refine ⟨fun pins s σ H Q I ⟨ν, ρ, h, A, E, P⟩ => ?_⟩
  refine UnaryOp_ (thn (ha.run pins s σ H _ I ⟨ν, ρ, h, A, E, (Post.bind P).mono fun ν1 H1 h1 px e1 A1 P1 v rv => (⟨ν1, h1, px, A1, rv, P1⟩ : ∃ ν1 h1 px, Ab X.K ca ν1 h1 H1 ∧ Rep X.K ν1 H1 px v ∧ Post X.K ca W σ ν1 H1 (g px h1) fun ν' H' _ x => ∀ v, Rep X.K ν' H' x v → Q v H')⟩) fun v s1 ⟨x, H1, I1, r1, ν1, h1, px, A1, rx, P1⟩ => ?_)
  exact ho pins s1 σ H1 ν1 h1 px x v Q I1 r1 A1 rx P1
theorem px_cmp {op : CmpOp} {g : PV → PV → M PV} (ho : OpM X ca W (compareOp op) g) (ha : PX X ca W a fa) (hb : PX X ca W b fb) (hm : behindInMarks op b = false) : PX X ca W (.Compare a [op] [b] pos) (eOp g fa fb) := by
  refine ⟨fun pins s σ H Q I ⟨ν, ρ, h, A, E, P⟩ => ?_⟩
  refine wpAny_Compare1 (bin ha hb I (bind2 A E P) fun v u s2 x y H2 I2 rx ry ⟨ν2, h2, px, py, A2, r1, r2, P2⟩ => ?_) hm
  exact ho pins s2 σ H2 ν2 h2 px py x y v u Q I2 rx ry A2 r1 r2 P2
theorem asB_post {z : PV} {σ : L2.St} {ν : Nu} {H : Hp} {h : MH} {v : V} {Φ : Nu → Hp → MH → Bool → Prop} (A : Ab X.K ca ν h H) (r : Rep X.K ν H z v) (P : Post X.K ca W σ ν H (asB z h) Φ) : ∃ k, v = .bl k ∧ Φ ν H h k := by
  cases r <;> first | exact ⟨_, rfl, Post.ret P A⟩ | exact P.elim
theorem pxt_cmp {op : CmpOp} {g : PV → PV → M PV} (ho : OpM X ca W (compareOp op) g) (ha : PX X ca W a fa) (hb : PX X ca W b fb) (hm : behindInMarks op b = false) : PXT X ca W (.Compare a [op] [b] pos) (tCm g fa fb) := by
  refine ⟨fun pins s σ H Q I ⟨ν, ρ, h, A, E, P⟩ => ?_⟩
  have P' := Post.bind P
  refine wpAny_isTrue_Compare1 ?_ hm
  refine bin ha hb I (bind2 A E P') fun v u s2 x y H2 I2 rx ry ⟨ν2, h2, px, py, A2, r1, r2, P2⟩ => ?_
  refine thn (ho pins s2 σ H2 ν2 h2 px py x y v u (fun z H3 => ∃ k, z = .bl k ∧ Q k H3) I2 rx ry A2 r1 r2 (P2.mono fun ν3 H3 h3 z e3 A3 P3 w rw' => ?_)) fun c s3 ⟨z, H3, I3, r3, k, e, q3⟩ => ?_
  · exact asB_post A3 rw' P3
  · subst e
    cases r3
    exact wpAny_truthy_bool ⟨H3, I3, q3⟩
theorem tru_post {z : PV} {σ : L2.St} {ν : Nu} {H : Hp} {h : MH} {v : V} {Φ : Nu → Hp → MH → Bool → Prop} (A : Ab X.K ca ν h H) (r : Rep X.K ν H z v) (P : Post X.K ca W σ ν H (tru z h) Φ) : ∃ k, TruV X.K v H k ∧ Φ ν H h k := by
  cases r with
  | non => exact ⟨false, rfl, Post.ret P A⟩
  | bl => exact ⟨_, rfl, Post.ret P A⟩
  | int => exact ⟨_, rfl, Post.ret P A⟩
  | str => exact P.elim
  | ty => exact P.elim
  | tup q r =>
    refine ⟨_, .inr (.inl ⟨_, .of q, rfl⟩), ?_⟩
    have P' := Post.ret P A
    cases r <;> exact P'
  | kl q r =>
    refine ⟨_, .inl ⟨_, q.sq, rfl⟩, ?_⟩
    have P' := Post.ret P A
    cases r <;> exact P'
  | ref e =>
    rename_i n a l
    cases ho : h.get n with
    | none =>
      have P' : Post X.K ca W σ ν H (mAt n (fun o => match o with
        | .lst xs => M.ret (!xs.isEmpty)
        | .dct xs => M.ret (!xs.isEmpty)
        | _ => M.bad) h) Φ := P
      unfold mAt at P'
      rw [ho] at P'
      exact P'.elim
    | some o =>
      have P' : Post X.K ca W σ ν H (mAt n (fun o => match o with
        | .lst xs => M.ret (!xs.isEmpty)
        | .dct xs => M.ret (!xs.isEmpty)
        | _ => M.bad) h) Φ := P
      rw [mAt_ok ho] at P'
      have P := P'
      have q := A.at_ _ o ho
      rw [e] at q
      cases o with
      | lst xs =>
        obtain ⟨a, vs, e1, e2, r⟩ := q
        cases e1
        refine ⟨_, .inl ⟨_, .of e2, rfl⟩, ?_⟩
        have P' := Post.ret P A
        cases r <;> exact P'
      | dct kvs =>
        obtain ⟨a, vs, e1, e2, r⟩ := q
        cases e1
        refine ⟨_, .inr (.inr ⟨_, e2, rfl⟩), ?_⟩
        have P' := Post.ret P A
        have hl := congrArg List.length r.1
        rw [List.length_map, List.length_map] at hl
        have : (!kvs.isEmpty) = (!vs.isEmpty) := by
          cases kvs <;> cases vs <;> first | rfl | simp at hl
        rw [this] at P'
        exact P'
      | _ => exact P.elim
theorem pxt_of (ha : PX X ca W a fa) (he : ∀ whole, isTrue a X.env whole = (do let v ← whole; standAt a.pos; holding [v] (truthy v)) := by intro _; rfl) : PXT X ca W a (tOf fa) := by
  refine PT.imp (pt_truth ha he) fun σ H Q ⟨ν, ρ, h, A, E, P⟩ => ⟨ν, ρ, h, A, E, (Post.bind P).mono fun ν1 H1 h1 px e1 A1 P1 v rv => tru_post A1 rv P1⟩
theorem tif {f : TF} {α : Type} {k : Bool → M α} {σ : L2.St} {H : Hp} {ν : Nu} {ρ : Env} {h : MH} {Φ : Nu → Hp → MH → α → Prop} (A : Ab X.K ca ν h H) (E : EnvR X.K ν H ρ σ) (P : Post X.K ca W σ ν H (((f ρ).bind k) h) Φ) :
    tT ca W X.K f σ H fun b H1 => ∃ ν1 h1, Ab X.K ca ν1 h1 H1 ∧ EnvR X.K ν1 H1 ρ σ ∧ Post X.K ca W σ ν1 H1 (k b h1) Φ :=
  ⟨ν, ρ, h, A, E, (Post.bind P).mono fun ν1 H1 h1 b e1 A1 P1 => ⟨ν1, h1, A1, E.ext e1, P1⟩⟩
theorem tT.mono {f : TF} {σ : L2.St} {H : Hp} {Q Q' : Bool → Hp → Prop} (p : tT ca W X.K f σ H Q) (h : ∀ b H, Q b H → Q' b H) : tT ca W X.K f σ H Q' :=
  let ⟨ν, ρ, hp, A, E, P⟩ := p
  ⟨ν, ρ, hp, A, E, P.mono fun _ _ _ _ _ _ q => h _ _ q⟩
theorem pxt_not (ha : PXT X ca W a t) : PXT X ca W (.UnaryOp .Not a pos) (tNo t) :=
  PT.imp (pt_not ha) fun σ H Q ⟨ν, ρ, h, A, E, P⟩ => tT.mono (tif (X := X) A E P) fun b H1 ⟨ν1, h1, A1, _, P1⟩ => Post.ret P1 A1
theorem pxw_and1 (ha : PXT X ca W a t) : PXW X ca W (.BoolOp .And [a] pos) t := pw_and1 ha
theorem pxw_or1 (ha : PXT X ca W a t) : PXW X ca W (.BoolOp .Or [a] pos) t := pw_or1 ha
theorem pxw_and (ha : PXT X ca W a t) (hb : PXW X ca W (.BoolOp .And (b :: es) pos) u) : PXW X ca W (.BoolOp .And (a :: b :: es) pos) (tAn t u) :=
  PW.imp (pw_and ha hb) fun σ H Q ⟨ν, ρ, h, A, E, P⟩ => tT.mono (tif (X := X) A E P) fun b H1 ⟨ν1, h1, A1, E1, P1⟩ => by
    cases b with
    | true => exact ⟨ν1, ρ, h1, A1, E1, P1⟩
    | false => exact Post.ret P1 A1
theorem pxw_or (ha : PXT X ca W a t) (hb : PXW X ca W (.BoolOp .Or (b :: es) pos) u) : PXW X ca W (.BoolOp .Or (a :: b :: es) pos) (tOo t u) :=
  PW.imp (pw_or ha hb) fun σ H Q ⟨ν, ρ, h, A, E, P⟩ => tT.mono (tif (X := X) A E P) fun b H1 ⟨ν1, h1, A1, E1, P1⟩ => by
    cases b with
    | false => exact ⟨ν1, ρ, h1, A1, E1, P1⟩
    | true => exact Post.ret P1 A1
theorem pxt_w (h : PXW X ca W e t) : PXT X ca W e t := h.pt
theorem tru_in {σ : L2.St} {H : Hp} {ν : Nu} {ρ : Env} {h : MH} {Φ : Nu → Hp → MH → PV → Prop} {k : PV → Bool → M PV} (A : Ab X.K ca ν h H) (E : EnvR X.K ν H ρ σ) (P : Post X.K ca W σ ν H (((fa ρ).bind fun x => (tru x).bind (k x)) h) Φ) :
    tE ca W X.K fa σ H fun x H1 => ∃ b, TruV X.K x H1 b ∧ ∃ ν1 h1 px, Ab X.K ca ν1 h1 H1 ∧ EnvR X.K ν1 H1 ρ σ ∧ Rep X.K ν1 H1 px x ∧ Post X.K ca W σ ν1 H1 (k px b h1) Φ := by
  refine ⟨ν, ρ, h, A, E, (Post.bind P).mono fun ν1 H1 h1 px e1 A1 P1 v rv => ?_⟩
  obtain ⟨b, tv, P2⟩ := tru_post A1 rv (Post.bind P1)
  exact ⟨b, tv, ν1, h1, px, A1, E.ext e1, rv, P2⟩
theorem px_one {op : BoolOp} (h : PX X ca W a fa) : PX X ca W (.BoolOp op [a] pos) fa := pe_one h
theorem px_and (ha : PX X ca W a fa) (hb : PX X ca W (.BoolOp .And (b :: es) pos) fb) : PX X ca W (.BoolOp .And (a :: b :: es) pos) (eAn fa fb) :=
  PE.imp (pe_andT ha hb) fun σ H Q ⟨ν, ρ, h, A, E, P⟩ => by
    obtain ⟨ν', ρ', h', A', E', P'⟩ := tru_in (X := X) A E P
    refine ⟨ν', ρ', h', A', E', P'.mono fun _ _ _ _ _ _ q v rv => ?_⟩
    obtain ⟨k, tv, ν1, h1, px, A1, E1, r1, P1⟩ := q v rv
    refine ⟨k, tv, ?_⟩
    cases k with
    | true => exact ⟨ν1, ρ, h1, A1, E1, P1⟩
    | false => exact Post.ret P1 A1 v r1
theorem px_or (ha : PX X ca W a fa) (hb : PX X ca W (.BoolOp .Or (b :: es) pos) fb) : PX X ca W (.BoolOp .Or (a :: b :: es) pos) (eOo fa fb) :=
  PE.imp (pe_orT ha hb) fun σ H Q ⟨ν, ρ, h, A, E, P⟩ => by
    obtain ⟨ν', ρ', h', A', E', P'⟩ := tru_in (X := X) A E P
    refine ⟨ν', ρ', h', A', E', P'.mono fun _ _ _ _ _ _ q v rv => ?_⟩
    obtain ⟨k, tv, ν1, h1, px, A1, E1, r1, P1⟩ := q v rv
    refine ⟨k, tv, ?_⟩
    cases k with
    | false => exact ⟨ν1, ρ, h1, A1, E1, P1⟩
    | true => exact Post.ret P1 A1 v r1
theorem px_not (ha : PX X ca W a fa) : PX X ca W (.UnaryOp .Not a pos) (eNo fa) :=
  PE.imp (pe_notT ha) fun σ H Q ⟨ν, ρ, h, A, E, P⟩ => by
    obtain ⟨ν', ρ', h', A', E', P'⟩ := tru_in (X := X) A E P
    refine ⟨ν', ρ', h', A', E', P'.mono fun _ _ _ _ _ _ q v rv => ?_⟩
    obtain ⟨k, tv, ν1, h1, px, A1, E1, r1, P1⟩ := q v rv
    exact ⟨k, tv, Post.ret P1 A1 _ .bl⟩
theorem px_if (hc : PXT X ca W c t) (ha : PX X ca W a fa) (hb : PX X ca W b fb) : PX X ca W (.IfExp c a b pos) (eIf t fa fb) :=
  PE.imp (pe_ifExp hc ha hb) fun σ H Q ⟨ν, ρ, h, A, E, P⟩ => tT.mono (tif (X := X) A E P) fun k H1 ⟨ν1, h1, A1, E1, P1⟩ => by
    cases k with
    | true => exact ⟨ν1, ρ, h1, A1, E1, P1⟩
    | false => exact ⟨ν1, ρ, h1, A1, E1, P1⟩
theorem pxa_nil : PXA X ca W [] aNil := PA.imp pa_nil fun σ H Q ⟨ν, ρ, h, A, E, P⟩ => Post.ret P A [] .nil
theorem pxa_cons (ha : PX X ca W e fa) (hr : PXA X ca W es ra) (hs : starEach (e :: es) X.env = (false, eval e X.env) :: starEach es X.env := by rfl) : PXA X ca W (e :: es) (aCons fa ra) := by
  refine PA.imp (pa_cons ha hr hs) fun σ H Q ⟨ν, ρ, h, A, E, P⟩ => ?_
  refine ⟨ν, ρ, h, A, E, (Post.bind P).mono fun ν1 H1 h1 px e1 A1 P1 v rv => ⟨ν1, ρ, h1, A1, E.ext e1, (Post.bind P1).mono fun ν2 H2 h2 xs e2 A2 P2 vs rvs => ?_⟩⟩
  exact Post.ret P2 A2 _ (.cons (rv.ext e2) rvs)
theorem small_line {n : Nat} (h : n ≤ 10000000) : n ≤ sizeLine := by
  rw [sizeLine_eq]; omega
theorem px_tup {k : Nat} (h : PXA X ca W es ra) : PX X ca W (.Tuple es k pos) (eTup ra) := by
  refine PE.imp (pe_tup h) fun σ H Q ⟨ν, ρ, h, A, E, P⟩ => ⟨ν, ρ, h, A, E, (Post.bind P).mono fun ν1 H1 h1 xs e1 A1 P1 vs rv => ?_⟩
  split at P1
  · rename_i hl
    refine ⟨small_line (by rw [← rv.length]; exact hl), fun p hp => ?_⟩
    obtain ⟨x2, A2⟩ := A1.oth (o := .tup vs) hp
    exact P1 ν1 _ x2 A2 _ (.tup upd_same (rv.ext x2))
  · exact P1.elim
theorem new_lst {σ : L2.St} {ν : Nu} {H : Hp} {h : MH} {xs : List PV} {vs : List V} {p : Addr} {Φ : Nu → Hp → MH → PV → Prop} (A : Ab X.K ca ν h H) (r : RepL X.K ν H xs vs) (hp : H p = none) (P : Post X.K ca W σ ν H (mNew (.lst xs) h) Φ) :
    Φ (nuN ν h.nx [p]) (upd H p (.lst vs)) (h.new (.lst xs)) (.ref h.nx) ∧ Rep X.K (nuN ν h.nx [p]) (upd H p (.lst vs)) (.ref h.nx) (.ref p) := by
  obtain ⟨x2, A2⟩ := A.nw (as := [p]) (mo := .lst xs) (H' := upd H p (.lst vs)) (fun a ha => by rw [List.mem_singleton.mp ha]; exact hp) (fun b hb => upd_ne fun z => hb (by rw [z]; exact List.mem_cons_self))
    (fun b hb => by rw [List.mem_singleton.mp hb, upd_same]; exact fun z => nomatch z) (fun x => ⟨p, vs, rfl, upd_same, r.ext x⟩)
  exact ⟨P _ _ x2 A2, .ref (l := []) nuN_same⟩
theorem px_lst (h : PXA X ca W es ra) : PX X ca W (.List es pos) (eLst ra) := by
  refine PE.imp (pe_lst h) fun σ H Q ⟨ν, ρ, h, A, E, P⟩ => ⟨ν, ρ, h, A, E, (Post.bind P).mono fun ν1 H1 h1 xs e1 A1 P1 vs rv => ?_⟩
  split at P1
  · rename_i hl
    refine ⟨small_line (by rw [← rv.length]; exact hl), fun p hp => ?_⟩
    obtain ⟨q, r⟩ := new_lst A1 rv hp P1
    exact q _ r
  · exact P1.elim
end
end FX

set_option Elab.async false
set_option linter.all false
set_option maxRecDepth 100000
set_option maxHeartbeats 1000000
namespace FX
open PySem PySem.Spec PyProof.Rows L2 SlX
def wipeE (ρ : Env) : List Nat → Env
  | [] => ρ
  | v :: vs => (wipeE ρ vs).set v none
def compN (nxt : Src) (g : GF) (t : TF) (e : EF) : Nat → Nat → Nat → Env → M (List PV)
  | 0, _, _, _ => M.bad
  | f + 1, i, l, ρ => fun h => match nxt i h with
    | none => .bad
    | some none => .ok [] h
    | some (some x) => ((g x ρ).bind fun ρ2 => (t ρ2).bind fun b => if b then (e ρ2).bind fun y => if l < 10000000 then (compN nxt g t e f (i + 1) (l + 1) ρ).bind fun ys => M.ret (y :: ys) else M.bad
      else compN nxt g t e f (i + 1) l ρ) h
/-- nothing is raised -/
def noX {α : Type} (m : M α) : M α := fun h => match m h with
  | .ok x h' => .ok x h'
  | _ => .bad
def eLc (s : IF) (vs : List Nat) (g : GF) (t : TF) (e : EF) : EF := fun ρ => (s ρ).bind fun nxt => (noX (compN nxt g t e fuel 0 0 (wipeE ρ vs))).bind fun xs => mNew (.lst xs)
def tYes : TF := fun _ => M.ret true
/-- a def's run by its body -/
def runB (n : Nat) (b : SF) : List PV → M PV := fun xs => (noX (b (xs.map some ++ List.replicate (n - xs.length) none))).bind fun o => match o with
  | .nx _ => M.ret .non
  | .rt x => M.ret x
  | .xc c x _ => fun h => .exc c x h
  | _ => M.bad
section
variable {X : Cx} {ca : Ca} {W : WX}
theorem Post.w0 {α : Type} {K : PySem.W.Frag} {σ σ' : L2.St} {ν : Nu} {H : Hp} {r : R α} {Φ : Nu → Hp → MH → α → Prop} (p : Post K ca W0 σ ν H r Φ) : Post K ca W0 σ' ν H r Φ := by
  cases r with
  | ok x h => exact p
  | exc c x h => exact p
  | bad => exact p
theorem Done.imp {K : PySem.W.Frag} {D D' : Ends} {ν : Nu} {H : Hp} {o : Out} (d : Done ca W K D ν H o) (hn : ∀ σ H, D.nx σ H → D'.nx σ H) (hr : ∀ v H, D.rt v H → D'.rt v H) (hb : ∀ σ H, D.bk σ H → D'.bk σ H) (hc : ∀ σ H, D.ct σ H → D'.ct σ H) : Done ca W K D' ν H o := by
  cases o with
  | nx ρ => exact fun σ e => hn _ _ (d σ e)
  | rt x => exact fun v r => hr _ _ (d v r)
  | bk ρ => exact fun σ e => hb _ _ (d σ e)
  | ct ρ => exact fun σ e => hc _ _ (d σ e)
  | xc c x ρ => exact d
theorem sThen_post {α : Type} {m : M α} {ρ : Env} {k : α → M Out} {σ σ0 : L2.St} {ν : Nu} {H : Hp} {h : MH} {D : Ends} (E : EnvR X.K ν H ρ σ) (P : Post X.K ca W0 σ0 ν H (sThen m ρ k h) fun ν' H' _ o => Done ca W X.K D ν' H' o) :
    Post X.K ca W σ ν H (m h) fun ν1 H1 h1 x => Post X.K ca W0 σ ν1 H1 (k x h1) fun ν' H' _ o => Done ca W X.K D ν' H' o := by
  unfold sThen at P
  cases e : m h with
  | ok x h1 =>
    rw [e] at P
    exact fun ν1 H1 e1 A1 => Post.ext (Post.w0 P) e1
  | exc c x h1 =>
    rw [e] at P
    exact fun ν1 H1 d v e1 A1 hd r => P ν1 H1 e1 A1 σ d v (E.ext e1) hd r
  | bad =>
    rw [e] at P
    exact P
variable {e : Expr} {f : EF} {pos : Pos} {st : Stmt} {sts : List Stmt} {s u : SF} {t : TF} {vs : List Nat} {g : GF}
theorem pxs_expr (he : PX X ca W e f) (hs : swapsWith e none pos.line X.env = pure false := by rfl) : PXS X ca W (.Expr e pos) (sExp f) :=
  PS.imp (ps_expr he hs) fun D σ H ⟨ν, ρ, h, A, E, P⟩ => ⟨ν, ρ, h, A, E, (sThen_post E P).mono fun ν1 H1 h1 x e1 A1 P1 v rv => Post.ret P1 A1 σ (E.ext e1)⟩
theorem pxs_ret (he : PX X ca W e f) : PXS X ca W (.Return (some e) pos) (sRet f) :=
  PS.imp (ps_ret he) fun D σ H ⟨ν, ρ, h, A, E, P⟩ => ⟨ν, ρ, h, A, E, (sThen_post E P).mono fun ν1 H1 h1 x e1 A1 P1 v rv => Post.ret P1 A1 v rv⟩
theorem pxs_retN : PXS X ca W (.Return none pos) sRetN := PS.imp ps_retN fun D σ H ⟨ν, ρ, h, A, E, P⟩ => Post.ret P A _ .non
theorem pxs_pass : PXS X ca W (.Pass pos) sPass := PS.imp ps_pass fun D σ H ⟨ν, ρ, h, A, E, P⟩ => Post.ret P A _ E
theorem pxs_break : PXS X ca W (.Break pos) sBrk := PS.imp ps_break fun D σ H ⟨ν, ρ, h, A, E, P⟩ => Post.ret P A _ E
theorem pxs_continue : PXS X ca W (.Continue pos) sCnt := PS.imp ps_continue fun D σ H ⟨ν, ρ, h, A, E, P⟩ => Post.ret P A _ E
theorem pxs_never : PXS X ca W st sNev := PS.imp ps_never fun D σ H ⟨ν, ρ, h, A, E, P⟩ => P.elim
theorem wipe_in {v : V} : ∀ {vs : List Nat} {σ : L2.St} {i : Nat}, i ∈ vs → wipe (σ.set i (some v)) vs = wipe σ vs
  | w :: vs, σ, i, h => by
    show (wipe (σ.set i (some v)) vs).set w none = (wipe σ vs).set w none
    by_cases hi : i ∈ vs
    · rw [wipe_in hi]
    · have hw : i = w := (List.mem_cons.mp h).resolve_right hi
      subst hw
      have aux : ∀ (us : List Nat) (τ : L2.St), (wipe (τ.set i (some v)) us).set i none = (wipe τ us).set i none := by
        intro us
        induction us with
        | nil => intro τ; show (τ.set i (some v)).set i none = τ.set i none; rw [List.set_set]
        | cons a us ih =>
          intro τ
          show ((wipe (τ.set i (some v)) us).set a none).set i none = ((wipe τ us).set a none).set i none
          by_cases ha : a = i
          · rw [ha, List.set_set, List.set_set, ih τ]
          · rw [List.set_comm _ _ ha, List.set_comm _ _ ha, ih τ]
      exact aux vs σ
theorem pxg_name (i : Nat) {x : Str} (hi' : i ∈ vs) (hN : X.N.Nodup) (hi : X.N[i]? = some x := by rfl) (hx : Loc X.env.scope x := by first | exact Or.inl rfl | exact Or.inr rfl) (hf : X.fn x = true ∨ X.env.scope.names.lookup x = some .local := by first | exact .inl rfl | exact .inr rfl | assumption) :
    PXG X ca W vs (.Name x pos) (gSet i) :=
  PG.imp (pg_name hN hi hx hf) fun v σ H Q ⟨ν, ρ, h, x, A, E, r, P⟩ => Post.ret P A _ (E.set r i) (wipe_in hi')
/-- several targets -/
def tGs (ca : Ca) (W : WX) (K : PySem.W.Frag) (vs : List Nat) (gs : List GF) : TGs := fun ws σ H Q => ∃ ν ρ h xs, Ab K ca ν h H ∧ EnvR K ν H ρ σ ∧ RepL K ν H xs ws ∧ Post K ca W σ ν H (gAll gs xs ρ h) fun ν' H' _ ρ' => ∀ σ', EnvR K ν' H' ρ' σ' → wipe σ' vs = wipe σ vs → Q σ' H'
def PXGs (X : Cx) (ca : Ca) (W : WX) (vs : List Nat) (es : List Expr) (gs : List GF) : Prop := PGs X es (tGs ca W X.K vs gs)
theorem PGs.imp {es : List Expr} {t t' : TGs} (h : PGs X es t) (f : ∀ v σ H Q, t' v σ H Q → t v σ H Q) : PGs X es t' := ⟨fun pins s σ H v u Q I r q => h.run pins s σ H v u Q I r (f _ _ _ _ q)⟩
theorem pxgs_nil : PXGs X ca W vs [] [] := PGs.imp pgs_nil fun ws σ H Q ⟨ν, ρ, h, xs, A, E, r, P⟩ => by
  cases r with
  | nil => exact ⟨rfl, Post.ret P A _ E rfl⟩
  | cons _ _ => exact P.elim
theorem pxgs_cons {es : List Expr} {gs : List GF} {X : Cx} {W : WX} (hW : ∀ c d σ σ' H, W c d σ H → W c d σ' H) (h1 : PXG X ca W vs e g) (h2 : PXGs X ca W vs es gs) (hs : (assignEach (e :: es) X.env).map (·.2) = assign e X.env :: (assignEach es X.env).map (·.2) := by rfl) : PXGs X ca W vs (e :: es) (g :: gs) :=
  PGs.imp (pgs_cons h1 h2 hs) fun ws σ H Q ⟨ν, ρ, h, xs, A, E, r, P⟩ => by
    cases r with
    | nil => exact P.elim
    | @cons x0 v0 xs0 vs0 r t =>
      refine ⟨v0, vs0, rfl, ν, ρ, h, x0, A, E, r, (Post.bind P).mono fun ν1 H1 h1 ρ1 e1 A1 P1 σ1 E1 w1 => ?_⟩
      refine ⟨ν1, ρ1, h1, xs0, A1, E1, t.ext e1, ?_⟩
      have P2 : Post X.K ca W σ1 ν1 H1 (gAll gs xs0 ρ1 h1) fun ν' H' _ ρ' => ∀ σ', EnvR X.K ν' H' ρ' σ' → wipe σ' vs = wipe σ vs → Q σ' H' := by
        revert P1
        cases gAll gs xs0 ρ1 h1 with
        | ok x h => exact fun p => p
        | exc c x h => exact fun p ν' H' d v a b c' r' => hW _ _ _ _ _ (p ν' H' d v a b c' r')
        | bad => exact fun p => p
      exact P2.mono fun _ _ _ _ _ _ q σ' hE hw => q σ' hE (hw.trans w1)
theorem pxg_tup {es : List Expr} {k n : Nat} {gs : List GF} (hc : X.calm = true) (h : PXGs X ca W vs es gs) (hl : gs.length = n := by rfl)
    (hn : (assignEach es X.env).length = n := by rfl) (hst : (assignEach es X.env).findIdx? (·.1) = none := by rfl) : PXG X ca W vs (.Tuple es k pos) (fun x ρ => match x with
      | .tup xs => if xs.length = n then gAll gs xs ρ else M.bad
      | _ => M.bad) :=
  PG.imp (pg_tup (n := n) hc h hn hst) fun v σ H Q ⟨ν, ρ, h, x, A, E, r, P⟩ => by
    cases r with
    | @tup xs a ws q r =>
      by_cases hx : xs.length = n
      · have P' : Post X.K ca W σ ν H (gAll gs xs ρ h) fun ν' H' _ ρ' => ∀ σ', EnvR X.K ν' H' ρ' σ' → wipe σ' vs = wipe σ vs → Q σ' H' := by
          have e : (if xs.length = n then gAll gs xs ρ else M.bad) = gAll gs xs ρ := if_pos hx
          rw [← e]; exact P
        exact ⟨a, ws, rfl, .of q, by rw [← r.length]; exact hx, ν, ρ, h, xs, A, E, r, P'⟩
      · have e : (if xs.length = n then gAll gs xs ρ else M.bad) = M.bad := if_neg hx
        have P' : Post X.K ca W σ ν H ((M.bad : M Env) h) fun ν' H' _ ρ' => ∀ σ', EnvR X.K ν' H' ρ' σ' → wipe σ' vs = wipe σ vs → Q σ' H' := by
          rw [← e]; exact P
        exact P'.elim
    | _ => exact P.elim
theorem pxs_asg {tg : Expr} (he : PX X ca W e f) (hg : PXG X ca W vs tg g) (hs : swapsWithSole [tg] e pos.line X.env = pure false := by rfl) (hw : swappedStores [tg] e X.env = pure none := by rfl)
    (h1 : (assignEach [tg] X.env).map (·.2) = [assign tg X.env] := by rfl) : PXS X ca W (.Assign [tg] e pos) (sAsg f g) :=
  PS.imp (ps_asg he hg hs hw h1) fun D σ H ⟨ν, ρ, h, A, E, P⟩ => ⟨ν, ρ, h, A, E, (sThen_post E P).mono fun ν1 H1 h1 x e1 A1 P1 v rv => ⟨ν1, ρ, h1, x, A1, E.ext e1, rv, (sThen_post (E.ext e1) P1).mono fun ν2 H2 h2 ρ2 e2 A2 P2 σ2 E2 _ => Post.ret P2 A2 σ2 E2⟩⟩
theorem pxs_set (i : Nat) {x : Str} {pos' : Pos} (hN : X.N.Nodup) (he : PX X ca W e f) (hi : X.N[i]? = some x := by rfl) (hx : Loc X.env.scope x := by first | exact Or.inl rfl | exact Or.inr rfl)
    (hs : swapsWith e (some (.Name x pos')) pos.line X.env = pure false := by rfl) (hf : X.fn x = true ∨ X.env.scope.names.lookup x = some .local := by first | exact .inl rfl | exact .inr rfl | assumption) : PXS X ca W (.Assign [.Name x pos'] e pos) (sAsg f (gSet i)) :=
  PS.imp (ps_set hN hi hx he hs hf) fun D σ H ⟨ν, ρ, h, A, E, P⟩ => ⟨ν, ρ, h, A, E, (sThen_post E P).mono fun ν1 H1 h1 x e1 A1 P1 v rv => Post.ret P1 A1 _ ((E.ext e1).set rv i)⟩
theorem pxss_nil : PXSs X ca W [] sPass := PSs.imp pss_nil fun D σ H ⟨ν, ρ, h, A, E, P⟩ => Post.ret P A _ E
theorem pxss_one (h : PXS X ca W st s) : PXSs X ca W [st] s := pss_one h
theorem pxss_cons (h1 : PXS X ca W st s) (h2 : PXSs X ca W sts u) : PXSs X ca W (st :: sts) (sSeq s u) :=
  PSs.imp (pss_cons h1 h2) fun D σ H ⟨ν, ρ, h, A, E, P⟩ => ⟨ν, ρ, h, A, E, (Post.bind P).mono fun ν1 H1 h1 o e1 A1 P1 => by
    cases o with
    | nx ρ1 => exact fun σ1 E1 => ⟨ν1, ρ1, h1, A1, E1, P1.w0⟩
    | rt x => exact Post.ret P1 A1
    | bk ρ1 => exact Post.ret P1 A1
    | ct ρ1 => exact Post.ret P1 A1
    | xc c x ρ1 => exact Post.ret P1 A1⟩
theorem pxs_if {c : Expr} {a b : List Stmt} (hc : PXT X ca W c t) (ha : PXSs X ca W a s) (hb : PXSs X ca W b u) : PXS X ca W (.If c a b pos) (sIf t s u) :=
  PS.imp (ps_if hc ha hb) fun D σ H ⟨ν, ρ, h, A, E, P⟩ => ⟨ν, ρ, h, A, E, (sThen_post E P).mono fun ν1 H1 h1 k e1 A1 P1 => by
    cases k with
    | true => exact ⟨ν1, ρ, h1, A1, E.ext e1, P1⟩
    | false => exact ⟨ν1, ρ, h1, A1, E.ext e1, P1⟩⟩
theorem pxs_while {c : Expr} {body : List Stmt} (hp : PassesOwn (model X.prog X.w) X.A X.env X.xe) (hc : PXT X ca W c t) (hb : PXSs X ca W body s) : PXS X ca W (.While c body [] pos) (sWh t s) :=
  PS.imp (ps_while hp hc hb) fun D σ H ⟨ν, ρ, h, A, E, P⟩ => by
    refine ⟨fun m σ H => ∃ ν ρ h, Ab X.K ca ν h H ∧ EnvR X.K ν H ρ σ ∧ Post X.K ca W0 σ ν H (wN t s m ρ h) fun ν' H' _ o => Done ca W X.K D ν' H' o, ⟨_, ν, ρ, h, A, E, P⟩, ?_⟩
    rintro m σ H ⟨ν, ρ, h, A, E, P⟩
    cases m with
    | zero => exact P.elim
    | succ n =>
      refine ⟨ν, ρ, h, A, E, (sThen_post E P).mono fun ν1 H1 h1 k e1 A1 P1 => ?_⟩
      cases k with
      | false => exact Post.ret P1 A1 σ (E.ext e1)
      | true =>
        refine ⟨fun σ H => ∃ ν ρ h, Ab X.K ca ν h H ∧ EnvR X.K ν H ρ σ ∧ Post X.K ca W0 σ ν H (wN t s n ρ h) fun ν' H' _ o => Done ca W X.K D ν' H' o, fun σ' H' w => ⟨n, Nat.lt_succ_self n, w⟩, ν1, ρ, h1, A1, E.ext e1, (Post.bind P1).mono fun ν2 H2 h2 o e2 A2 P2 => ?_⟩
        cases o with
        | nx ρ1 => exact fun σ1 E1 => ⟨ν2, ρ1, h2, A2, E1, P2.w0⟩
        | rt x => exact Post.ret P2 A2
        | bk ρ1 => exact Post.ret P2 A2
        | ct ρ1 => exact fun σ1 E1 => ⟨ν2, ρ1, h2, A2, E1, P2.w0⟩
        | xc c x ρ1 => exact Post.ret P2 A2
/-- an iteration of HandS's is as the source tells, from (ν0, H0) on -/
def SrcR (K : PySem.W.Frag) (ca : Ca) (ν0 : Nu) (H0 : Hp) (J : It) (nxt : Src) : Prop := ∀ ν h H i, Ext ν0 ν H0 H → Ab K ca ν h H → (nxt i h = some none → J.stop i H) ∧
  ∀ x, nxt i h = some (some x) → J.go i H ∧ ∀ y H', J.yld i H y H' → ∃ ν', Ext ν ν' H H' ∧ Ab K ca ν' h H' ∧ Rep K ν' H' x y
def tI (ca : Ca) (W : WX) (K : PySem.W.Frag) (f : IF) : TI := fun σ H Rr => ∃ ν ρ h, Ab K ca ν h H ∧ EnvR K ν H ρ σ ∧ Post K ca W σ ν H (f ρ h) fun ν' H' _ nxt => ∀ J, SrcR K ca ν' H' J nxt → Rr J H'
def PXI (X : Cx) (ca : Ca) (W : WX) (tg it : Expr) (f : IF) : Prop := PI X tg it (tI ca W X.K f)
theorem PI.imp {tg it : Expr} {t t' : TI} (h : PI X tg it t) (f : ∀ σ H Q, t' σ H Q → t σ H Q) : PI X tg it t' := ⟨fun pins s σ H R I q => h.run pins s σ H R I (f _ _ _ q)⟩
theorem pxs_for {tg iter : Expr} {body : List Stmt} {i : IF} (hp : PassesOwn (model X.prog X.w) X.A X.env X.xe) (hc : X.calm = true) (hi : PXI X ca W tg iter i) (hg : PXG X ca W vs tg g) (hb : PXSs X ca W body s)
    (hs : ∀ x, foldedSetIterable iter X.env x = pure x := by intro _; rfl) : PXS X ca W (.For tg iter body [] pos) (sFor i g s) :=
  PS.imp (ps_for hp hc hi hg hb hs) fun D σ H ⟨ν, ρ, h, A, E, P⟩ => by
    refine ⟨ν, ρ, h, A, E, (sThen_post E P).mono fun ν0 H0 h0 nxt e0 A0 P0 J hJ => ?_⟩
    refine ⟨fun i m σ H => ∃ ν ρ h, Ext ν0 ν H0 H ∧ Ab X.K ca ν h H ∧ EnvR X.K ν H ρ σ ∧ Post X.K ca W0 σ ν H (forN nxt g s m i ρ h) fun ν' H' _ o => Done ca W X.K D ν' H' o, ⟨_, ν0, ρ, h0, Ext.refl _ _, A0, E.ext e0, P0⟩, ?_⟩
    rintro i m σ H ⟨ν, ρ, h, x0, A, E, P⟩
    cases m with
    | zero => exact P.elim
    | succ n =>
      obtain ⟨hstop, hgo⟩ := hJ ν h H i x0 A
      unfold forN at P
      generalize nxt i h = z at P hstop hgo
      rcases z with _ | _ | x
      · exact P.elim
      · exact .inl ⟨hstop rfl, Post.ret P A σ E⟩
      · obtain ⟨hg1, hy⟩ := hgo x rfl
        refine .inr ⟨hg1, fun σ H => ∃ ν ρ h, Ext ν0 ν H0 H ∧ Ab X.K ca ν h H ∧ EnvR X.K ν H ρ σ ∧ Post X.K ca W0 σ ν H (forN nxt g s n (i + 1) ρ h) fun ν' H' _ o => Done ca W X.K D ν' H' o, fun σ' H' w => ⟨n, Nat.lt_succ_self n, w⟩, fun y H' hyl => ?_⟩
        obtain ⟨ν1, e1, A1, r1⟩ := hy y H' hyl
        have E1 := E.ext e1
        have P1 := Post.bind (Post.ext P e1)
        have x1 := x0.trans e1
        refine ⟨ν1, ρ, h, x, A1, E1, r1, (sThen_post (σ0 := σ) (D := { D with nx := fun σ H => ∃ ν ρ h, Ext ν0 ν H0 H ∧ Ab X.K ca ν h H ∧ EnvR X.K ν H ρ σ ∧ Post X.K ca W0 σ ν H (forN nxt g s n (i + 1) ρ h) fun ν' H' _ o => Done ca W X.K D ν' H' o, ct := fun σ H => ∃ ν ρ h, Ext ν0 ν H0 H ∧ Ab X.K ca ν h H ∧ EnvR X.K ν H ρ σ ∧ Post X.K ca W0 σ ν H (forN nxt g s n (i + 1) ρ h) fun ν' H' _ o => Done ca W X.K D ν' H' o, bk := D.nx }) E1 ?_).mono fun ν2 H2 h2 ρ2 e2 A2 P2 σ2 E2 _ => ⟨ν2, ρ2, h2, A2, E2, P2.w0⟩⟩
        have key : ∀ (r : R Out) (ν9 : Nu) (H9 : Hp), Ext ν0 ν9 H0 H9 → Post X.K ca W0 σ ν9 H9 r (fun ν1 H1 h1 o => Post X.K ca W0 σ ν1 H1 ((match o with
            | .nx ρ' => forN nxt g s n (i + 1) ρ'
            | .ct ρ' => forN nxt g s n (i + 1) ρ'
            | .bk ρ' => M.ret (.nx ρ')
            | o => M.ret o : M Out) h1) fun ν' H' _ o => Done ca W X.K D ν' H' o) →
          Post X.K ca W0 σ ν9 H9 r fun ν' H' _ o => Done ca W X.K { D with nx := fun σ H => ∃ ν ρ h, Ext ν0 ν H0 H ∧ Ab X.K ca ν h H ∧ EnvR X.K ν H ρ σ ∧ Post X.K ca W0 σ ν H (forN nxt g s n (i + 1) ρ h) fun ν' H' _ o => Done ca W X.K D ν' H' o, ct := fun σ H => ∃ ν ρ h, Ext ν0 ν H0 H ∧ Ab X.K ca ν h H ∧ EnvR X.K ν H ρ σ ∧ Post X.K ca W0 σ ν H (forN nxt g s n (i + 1) ρ h) fun ν' H' _ o => Done ca W X.K D ν' H' o, bk := D.nx } ν' H' o := fun r ν9 H9 x9 p => p.mono fun ν2 H2 h2 o e2 A2 P2 => by
            cases o with
            | nx ρ1 => exact fun σ1 E1 => ⟨ν2, ρ1, h2, x9.trans e2, A2, E1, P2.w0⟩
            | rt x => exact Post.ret P2 A2
            | bk ρ1 => exact Post.ret P2 A2
            | ct ρ1 => exact fun σ1 E1 => ⟨ν2, ρ1, h2, x9.trans e2, A2, E1, P2.w0⟩
            | xc c x ρ1 => exact Post.ret P2 A2
        exact key _ _ _ x1 P1
end
end FX

set_option Elab.async false
set_option linter.all false
set_option maxRecDepth 100000
set_option maxHeartbeats 2000000
namespace PySem
open Sem (wp)
open AutoSeq1 (wpAny_loadPart')
theorem fx_meets_enumT (l : Addr) (items : Array Value) (n : Nat) (dct : Option Addr) (sl : Array (Option Value)) :
    Meets (Builtin.«enumerate.__new__» ⟨[.type "enumerate", .ref l], []⟩) (fun _ R s => s.heap.get? l = some { cls := .type "tuple", dict := dct, data := .seq items n, slots := sl } ∧
      R (.ok (.ret (.ref (s.heap.push { cls := .type "tuple_iterator", data := .fields #[.ref l, .int 0 0] }).objs.size)))
        { s with heap := (s.heap.push { cls := .type "tuple_iterator", data := .fields #[.ref l, .int 0 0] }).push { cls := .type "enumerate", data := .fields #[.none, .bool false, .ref s.heap.objs.size, rawInt 0, .none, .none] } }) :=
  .of_wp fun prog w A R s h => by
    obtain ⟨hp, g, d, tk, os⟩ := s; obtain ⟨hl, h⟩ := h
    have hsub := sub_enumerate
    have hL : Heap.IsTuple (Shared.heap ⟨hp, g, d, tk, os⟩) l items := ⟨_, hl, rfl, n, rfl⟩
    wp_walk using wpAny_loadPart' hl
    refine wpAny_stack_any fun st => wpAny_pure ?_
    split
    · rename_i c _ _ _ _ _
      cases (c == Value.type "enumerate")
      · wp_walk using wpAny_loadPart' hl, wpAny_pyIter_tuple hL
        exact ⟨_, rfl, h⟩
      · wp_walk using wpAny_loadPart' hl, wpAny_pyIter_tuple hL
        exact ⟨_, rfl, h⟩
    · wp_walk using wpAny_loadPart' hl, wpAny_pyIter_tuple hL
      exact ⟨_, rfl, h⟩
theorem fx_call_enumT {prog : Program} {w : World} {A : Around} {E : Value → Shared → Prop} {s : Shared} {l : Addr} {items : Array Value} {Q : Value → Shared → Prop} (hL : s.heap.IsTuple l items)
    (h : ∀ h', IsEnum h' (s.heap.objs.size + 1) s.heap.objs.size 0 .none → h'.IsTupleIter s.heap.objs.size l 0 → h'.objs.size = s.heap.objs.size + 2 →
      (∀ b o, s.heap.get? b = some o → h'.get? b = some o) → Q (.ref (s.heap.objs.size + 1)) { s with heap := h' }) :
    wpAny (model prog w) A (call (.type "enumerate") [.ref l]) Q E s := by
  obtain ⟨⟨c, dct, dt, sl⟩, hl, hc, n, hd⟩ := hL
  replace hc : c = .type "tuple" := hc
  replace hd : dt = .seq items n := hd
  subst hc hd
  refine callType_new F.called_enumerate (by decide) (F.typeCall_enumerate_1 _) (F.newCall_enumerate_1 _) (fun obj => F.args_object_init_2 obj _) F.entry_enumerate_new
    (fx_meets_enumT l items n dct sl) ⟨hl, ?_⟩
  have hz : (s.heap.push { cls := .type "tuple_iterator", data := .fields #[.ref l, .int 0 0] }).objs.size = s.heap.objs.size + 1 := Heap.size_push ..
  show _ ∧ _
  rw [hz]
  have he : IsEnum ((s.heap.push { cls := .type "tuple_iterator", data := .fields #[.ref l, .int 0 0] }).push
      { cls := .type "enumerate", data := .fields #[.none, .bool false, .ref s.heap.objs.size, rawInt 0, .none, .none] }) (s.heap.objs.size + 1) s.heap.objs.size 0 .none := by
    have := Heap.get?_push_size (s.heap.push { cls := .type "tuple_iterator", data := .fields #[.ref l, .int 0 0] })
      (o := { cls := .type "enumerate", data := .fields #[.none, .bool false, .ref s.heap.objs.size, rawInt 0, .none, .none] }) rfl
    rw [hz] at this; exact this
  refine ⟨⟨_, he, rfl⟩, h _ he ⟨_, Heap.get?_push_of_some _ (Heap.get?_push_size _ rfl), rfl, rfl⟩ (by rw [Heap.size_push, hz]) fun b o x => Heap.get?_push_of_some _ (Heap.get?_push_of_some _ x)⟩
end PySem
namespace FX
open PySem PySem.Spec PyProof.Rows L2 SlX
def IteT (K : PySem.W.Frag) (a : Addr) : It :=
  ⟨fun i H => ∃ (xs : List V) (x : V), SqT K H a xs ∧ xs[i]? = some x, fun i H v H' => ∃ T x, v = .ref T ∧ H T = none ∧ H' = upd H T (.tup [.int (i : Nat), x]) ∧ ∀ xs, SqT K H a xs → xs[i]? = some x, fun i H => ∃ xs : List V, SqT K H a xs ∧ xs.length ≤ i⟩
theorem turn_enumT {P : Program} {w : World} {K : PySem.W.Frag} {elts : List Expr} {kk : Nat} {tpos : Pos} (a e it : Addr) :
    Turn P w K (.Tuple elts kk tpos) (IteT K a) [e, it] e (fun i h => (∃ old, IsEnum h e it ((i : Nat) : Int) old) ∧ h.IsTupleIter it a i ∧ e ≠ it ∧ a ≠ e ∧ a ≠ it) where
  mem := by simp
  obj := fun i h st b hb => by
    obtain ⟨⟨old, he⟩, ⟨o, ho, hc, hd⟩, _⟩ := st
    have e' : b = e ∨ b = it := by simpa using hb
    rcases e' with z | z
    · rw [z]; exact ⟨_, he, fun v q => nomatch q⟩
    · rw [z]; exact ⟨o, ho, fun v q => by rw [hd] at q; cases q⟩
  keep := fun i h h' st k => let ⟨⟨old, he⟩, hi, hne⟩ := st; ⟨⟨old, k e (by simp) _ he⟩, hi.at fun o q => k it (by simp) o q, hne⟩
  item := by
    intro X hP hw hK hc i pins s σ H E I hf st hg
    subst hP hw hK
    obtain ⟨⟨old, he⟩, hit, hne, hae, hai⟩ := st
    obtain ⟨xs, x, hq, hx⟩ := hg
    obtain ⟨its, rv, p, hz⟩ := I.tuple hq
    obtain ⟨u, hu, ru⟩ := rv.get hx
    have hel : e < s.heap.objs.size := Heap.lt_size he
    have hil : it < s.heap.objs.size := by obtain ⟨_, q, _⟩ := hit; exact Heap.lt_size q
    have hlt : i < its.toArray.size := by
      rw [List.size_toArray]
      exact (List.getElem?_eq_some_iff.mp hu).1
    refine wpAny_pyNext_enum_itemD (Draws.tuple (show X.A.in1.handled = none from I.ok.hd hc) it a hai its.toArray) he ⟨hit, show s.heap.IsTuple a its.toArray from p⟩ hlt hne (by simp [hne, Ne.symm hae]) fun y h' tk hy ho hst hT hsz hk => ?_
    have ey : y = u := by
      have : its.toArray[i]? = some y := hy
      simp only [List.getElem?_toArray] at this
      rw [hu] at this
      exact (Option.some.inj this).symm
    subst ey
    refine ⟨_, rfl, wpAny_letOwnedTupleGo_enum (s := { s with heap := h', toks := tk + 1 }) ho fun h'' he' sb => ?_⟩
    have hT2 : h''.get? s.heap.objs.size = some { cls := .type "tuple", data := .seq #[.int i tk, y] } := (sb.2 _ (Nat.ne_of_gt hel)).trans hT
    have new : ObjOk X.prog X.w (upd H s.heap.objs.size (.tup [.int (i : Nat), x])) h'' s.heap.objs.size (.tup [.int (i : Nat), x]) :=
      ⟨by show 2 ≤ sizeLine; decide, [.int i tk, y], .cons ⟨_, rfl⟩ (.cons ru .nil), ⟨_, hT2, rfl, _, rfl⟩⟩
    have I1 : Inv X pins σ (upd H s.heap.objs.size (.tup [.int (i : Nat), x])) { s with heap := h'', toks := tk + 1 } :=
      I.turnedNew (ch := [e, it]) (fun b ob hb q => (sb.2 b (fun z => hb (by simp [z]))).trans (hk b ob (fun z => hb (by simp [z])) (fun z => hb (by simp [z])) q)) hf (Nat.le_refl _) new
    refine ⟨.ref s.heap.objs.size, _, I1, rfl, ⟨_, x, rfl, I.hok.fresh (Nat.le_refl _), rfl, fun ys hy => by rw [I.tuple_inj hy hq]; exact hx⟩, ⟨⟨y, ?_⟩, hst.1.at fun o q => (sb.2 it (Ne.symm hne)).trans q, hne, hae, hai⟩, fun b hb => ?_⟩
    · have e1 : ((i + 1 : Nat) : Int) = (i : Int) + 1 := by omega
      rw [e1]; exact he'
    · have hb' : b < s.heap.objs.size := by
        have e' : b = e ∨ b = it := by simpa using hb
        rcases e' with z | z
        · rw [z]; exact hel
        · rw [z]; exact hil
      rw [upd_ne (Nat.ne_of_lt hb')]
      exact (hf b hb).1
  done := by
    intro X hP hw hK hc i pins s σ H E I hf st hg
    subst hP hw hK
    obtain ⟨⟨old, he⟩, hit, hne, hae, hai⟩ := st
    obtain ⟨xs, hq, hx⟩ := hg
    obtain ⟨its, rv, p, hz⟩ := I.tuple hq
    obtain ⟨f0, f1, f2, f3, f4, f5⟩ := hf it (by simp)
    have hl := rv.length
    unfold pyNext
    have hT : s.TypeIs (.ref e) "enumerate" := ⟨_, he, rfl⟩
    refine wpAny_bind (wpAny_attempt (wpAny_callSpecial?_slot (name := Str.ofString "__next__") hT F.slot_enumerate_next
      (wpAny_call_entry F.slot_enumerate_next hT F.entry_enumerate_next ?_ (F.args_enumerate_next_1 _))))
    show wpAny _ _ (field (.ref e) 2 >>= _) _ _ _
    refine wpAny_bind (wpAny_field he rfl (x := .ref it) rfl ?_)
    refine wpAny_bind (wpAny_nextOf_tuple_end (show X.A.in1.handled = none from I.ok.hd hc) hit (show s.heap.IsTuple a its.toArray from p) (by simp; omega) fun h' y he' hy => ?_)
    obtain ⟨o, ho, hc'⟩ := hy
    refine wpAny_bind (wpAny_isInstance (T := "StopIteration") (b := true) ⟨o, ho, hc'⟩ isSubtype_stop ?_)
    exact wpAny_pure ⟨rfl, I.turned (t' := s.toks) (fun b o hb q => he' b o hb q) f0 f1 f3 f4 f5⟩
  self := fun A i s Q E st h => let ⟨⟨_, he⟩, _⟩ := st; wpAny_pyIter_enum he h
def iEnumA (K : PySem.W.Frag) (ta : TA) : TI := fun σ H R => ta σ H fun vs H1 => ∃ a xs, vs = [.ref a] ∧ ((SqL K H1 a xs ∧ R (Ite K a) H1) ∨ (SqT K H1 a xs ∧ R (IteT K a) H1))
theorem pi_enumA {X : Cx} {e : Expr} {ta : TA} {p pos tpos : Pos} {elts : List Expr} {kk : Nat} (hg : Gl X "enumerate") (hm : X.mg "enumerate" = none) (ha : PA X [e] ta) (hs : starEach [e] X.env = [(false, eval e X.env)] := by rfl) :
    PI X (.Tuple elts kk tpos) (.Call (.Name "enumerate" p) [e] [] pos) (iEnumA X.K ta) := by
  refine ⟨fun pins s σ H R I h => ?_⟩
  refine Call_ (ld_blt I hg hm boot_enumerate (PyProof.Rows.callWith_type1 (thn (ha.run pos pins s σ H _ I h) fun us s1 ⟨vs, H1, I1, r1, q1⟩ => ?_) hs rfl))
  obtain ⟨a, xs, ex, q1⟩ := q1
  subst ex
  cases r1 with
  | cons r rr =>
    cases rr
    cases r
    have fresh2 : ∀ b, b ∈ [s1.heap.objs.size + 1, s1.heap.objs.size] → FpOk X pins H1 b := fun b hb => by
      have e' : b = s1.heap.objs.size + 1 ∨ b = s1.heap.objs.size := by simpa using hb
      have hle : s1.heap.objs.size ≤ b := by
        rcases e' with z | z
        · rw [z]; exact Nat.le_add_right _ _
        · rw [z]; exact Nat.le_refl _
      exact I1.fpOk hle (I1.hok.fresh hle)
    rcases q1 with ⟨hq, q⟩ | ⟨hq, q⟩
    · obtain ⟨its, rv, p', hz⟩ := I1.list hq
      refine call_enumerate_list p'.isList fun h' he hit hsz hk => wpAny_pyIter_enum he ?_
      have I2 : Inv X pins σ H1 { s1 with heap := h' } := I1.kept (t' := s1.toks) hk
      exact ⟨s1.heap.objs.size + 1, [s1.heap.objs.size + 1, s1.heap.objs.size], _, _, H1, rfl, I2, turn_enum a (s1.heap.objs.size + 1) s1.heap.objs.size, ⟨⟨.none, he⟩, hit, Nat.succ_ne_self _⟩, fresh2, q⟩
    · obtain ⟨its, rv, p', hz⟩ := I1.tuple hq
      have hlt : a < s1.heap.objs.size := by
        obtain ⟨o, ho, _⟩ := id p'
        exact Heap.lt_size ho
      refine fx_call_enumT (show s1.heap.IsTuple a its.toArray from p') fun h' he hit hsz hk => wpAny_pyIter_enum he ?_
      have I2 : Inv X pins σ H1 { s1 with heap := h' } := I1.kept (t' := s1.toks) hk
      exact ⟨s1.heap.objs.size + 1, [s1.heap.objs.size + 1, s1.heap.objs.size], _, _, H1, rfl, I2, turn_enumT a (s1.heap.objs.size + 1) s1.heap.objs.size, ⟨⟨.none, he⟩, hit, Nat.succ_ne_self _, Nat.ne_of_lt (Nat.lt_succ_of_lt hlt), Nat.ne_of_lt hlt⟩, fresh2, q⟩
def iSeqA (K : PySem.W.Frag) (te : TE) : TI := fun σ H R => te σ H fun x H1 => ∃ a, x = .ref a ∧ (((∃ xs, SqL K H1 a xs) ∧ R (Itl K a) H1) ∨ ((∃ xs, SqT K H1 a xs) ∧ R (Itt K a) H1))
theorem pi_seqA {X : Cx} {tg l : Expr} {tl : TE} (hl : PE X l tl) : PI X tg l (iSeqA X.K tl) := by
  refine ⟨fun pins s σ H R I h => ?_⟩
  refine thn (hl.run pins s σ H _ I h) fun v s1 ⟨x, H1, I1, r1, q1⟩ => ?_
  obtain ⟨a, e, q1⟩ := q1
  subst e
  cases r1
  have fresh1 : ∀ b, b ∈ [s1.heap.objs.size] → FpOk X pins H1 b := fun b hb => by
    have e : b = s1.heap.objs.size := by simpa using hb
    subst e
    exact I1.fpOk (Nat.le_refl _) (I1.hok.fresh (Nat.le_refl _))
  rcases q1 with ⟨⟨xs, hq⟩, q⟩ | ⟨⟨xs, hq⟩, q⟩
  · obtain ⟨its, rv, p, hz⟩ := I1.list hq
    refine wpAny_pyIter_list p.isList ?_
    exact ⟨s1.heap.objs.size, [s1.heap.objs.size], _, _, H1, rfl, I1.kept (t' := s1.toks) fun b o e => Heap.get?_push_of_some _ e, turn_list a _, ⟨_, Heap.get?_push_size _ rfl, rfl, rfl⟩, fresh1, q⟩
  · obtain ⟨its, rv, p, hz⟩ := I1.tuple hq
    refine wpAny_pyIter_tuple (show s1.heap.IsTuple a its.toArray from p) ?_
    exact ⟨s1.heap.objs.size, [s1.heap.objs.size], _, _, H1, rfl, I1.kept (t' := s1.toks) fun b o e => Heap.get?_push_of_some _ e, turn_tuple a _, ⟨_, Heap.get?_push_size _ rfl, rfl, rfl⟩, fresh1, q⟩
def srcOf : PV → M Src
  | .tup xs => M.ret (srcL xs)
  | .kl _ xs => M.ret (srcL xs)
  | .ref n => mAt n fun o => match o with
    | .lst _ => M.ret (srcH n)
    | _ => M.bad
  | _ => M.bad
def iSeq (f : EF) : IF := fun ρ => (f ρ).bind srcOf
def iEnu (f : EF) : IF := fun ρ => (f ρ).bind fun x => (srcOf x).bind fun s => M.ret (enumS s)
def rngOk (i : Int) : Bool := decide (-(2 ^ 62) ≤ i ∧ i < 2 ^ 62)
def iRg1 (f : EF) : IF := fun ρ => (f ρ).bind fun x => match x with
  | .int j => if rngOk j then M.ret (srcR 0 j.toNat) else M.bad
  | _ => M.bad
def iRg2 (f g : EF) : IF := fun ρ => (f ρ).bind fun x => (g ρ).bind fun y => match x, y with
  | .int i, .int j => if rngOk i && rngOk j then M.ret (srcR i (j - i).toNat) else M.bad
  | _, _ => M.bad
/-- both lists, both tuples -/
def zipOf (x y : PV) : M Src := match x, y with
  | .tup xs, .tup ys => M.ret (zipS (srcL xs) (srcL ys))
  | .ref n, .ref m => mAt n fun o => match o with
    | .lst _ => mAt m fun o' => match o' with
      | .lst _ => M.ret (zipS (srcH n) (srcH m))
      | _ => M.bad
    | _ => M.bad
  | _, _ => M.bad
def iZip (f g : EF) : IF := fun ρ => (f ρ).bind fun x => (g ρ).bind fun y => zipOf x y
section
variable {X : Cx} {ca : Ca} {W : WX} {e e2 tg : Expr} {f f2 : EF} {K : PySem.W.Frag} {ν0 ν : Nu} {H0 H : Hp} {h : MH}
/-- what a value that is walked is -/
theorem srcOf_post {x : PV} {v : V} {σ : L2.St} {Φ : Nu → Hp → MH → Src → Prop} (A : Ab K ca ν h H) (r : Rep K ν H x v) (P : Post K ca W σ ν H (srcOf x h) Φ) :
    ∃ a s, v = .ref a ∧ Φ ν H h s ∧ (((∃ xs, SqL K H a xs) ∧ SrcR K ca ν H (Itl K a) s ∧ SrcR K ca ν H (Ite K a) (enumS s)) ∨ ((∃ xs, SqT K H a xs) ∧ SrcR K ca ν H (Itt K a) s ∧ SrcR K ca ν H (IteT K a) (enumS s))) := by
  -- both walks, given what stands at a
  have both : ∀ (s : Src) (a : Addr), (∀ ν' h' H' i, Ext ν ν' H H' → Ab K ca ν' h' H' → ∃ xs vs, s i h' = some xs[i]? ∧ SqL K H' a vs ∧ RepL K ν' H' xs vs) → SrcR K ca ν H (Itl K a) s ∧ SrcR K ca ν H (Ite K a) (enumS s) := by
    intro s a hs
    constructor
    · intro ν' h' H' i e' A'
      obtain ⟨xs, vs, e1, q, rl⟩ := hs ν' h' H' i e' A'
      rw [e1]
      refine ⟨fun z => ⟨vs, q, ?_⟩, fun x z => ?_⟩
      · have := Option.some.inj z
        rw [← rl.length]; exact List.getElem?_eq_none_iff.mp this
      · obtain ⟨w, hw, rw'⟩ := rl.get (Option.some.inj z)
        refine ⟨⟨vs, w, q, hw⟩, fun y H'' hy => ?_⟩
        obtain ⟨rfl, hy2⟩ := hy
        have := hy2 vs q
        rw [hw] at this; cases this
        exact ⟨ν', Ext.refl _ _, A', rw'⟩
    · intro ν' h' H' i e' A'
      obtain ⟨xs, vs, e1, q, rl⟩ := hs ν' h' H' i e' A'
      unfold enumS
      rw [e1]
      refine ⟨fun z => ⟨vs, q, ?_⟩, fun x z => ?_⟩
      · cases ex : xs[i]? with
        | none => rw [← rl.length]; exact List.getElem?_eq_none_iff.mp ex
        | some w => rw [ex] at z; cases z
      · cases ex : xs[i]? with
        | none => rw [ex] at z; cases z
        | some w0 =>
          rw [ex] at z
          cases z
          obtain ⟨w, hw, rw'⟩ := rl.get ex
          refine ⟨⟨vs, w, q, hw⟩, fun y H'' hy => ?_⟩
          obtain ⟨T, u, rfl, hT, rfl, hy2⟩ := hy
          have := hy2 vs q
          rw [hw] at this; cases this
          obtain ⟨e3, A3⟩ := A'.oth (o := .tup [.int (i : Nat), w]) hT
          exact ⟨ν', e3, A3, .tup upd_same (.cons .int (.cons (rw'.ext e3) .nil))⟩
  have bothT : ∀ (s : Src) (a : Addr), (∀ ν' h' H' i, Ext ν ν' H H' → Ab K ca ν' h' H' → ∃ xs vs, s i h' = some xs[i]? ∧ SqT K H' a vs ∧ RepL K ν' H' xs vs) → SrcR K ca ν H (Itt K a) s ∧ SrcR K ca ν H (IteT K a) (enumS s) := by
    intro s a hs
    constructor
    · intro ν' h' H' i e' A'
      obtain ⟨xs, vs, e1, q, rl⟩ := hs ν' h' H' i e' A'
      rw [e1]
      refine ⟨fun z => ⟨vs, q, ?_⟩, fun x z => ?_⟩
      · have := Option.some.inj z
        rw [← rl.length]; exact List.getElem?_eq_none_iff.mp this
      · obtain ⟨w, hw, rw'⟩ := rl.get (Option.some.inj z)
        refine ⟨⟨vs, w, q, hw⟩, fun y H'' hy => ?_⟩
        obtain ⟨rfl, hy2⟩ := hy
        have := hy2 vs q
        rw [hw] at this; cases this
        exact ⟨ν', Ext.refl _ _, A', rw'⟩
    · intro ν' h' H' i e' A'
      obtain ⟨xs, vs, e1, q, rl⟩ := hs ν' h' H' i e' A'
      unfold enumS
      rw [e1]
      refine ⟨fun z => ⟨vs, q, ?_⟩, fun x z => ?_⟩
      · cases ex : xs[i]? with
        | none => rw [← rl.length]; exact List.getElem?_eq_none_iff.mp ex
        | some w => rw [ex] at z; cases z
      · cases ex : xs[i]? with
        | none => rw [ex] at z; cases z
        | some w0 =>
          rw [ex] at z
          cases z
          obtain ⟨w, hw, rw'⟩ := rl.get ex
          refine ⟨⟨vs, w, q, hw⟩, fun y H'' hy => ?_⟩
          obtain ⟨T, u, rfl, hT, rfl, hy2⟩ := hy
          have := hy2 vs q
          rw [hw] at this; cases this
          obtain ⟨e3, A3⟩ := A'.oth (o := .tup [.int (i : Nat), w]) hT
          exact ⟨ν', e3, A3, .tup upd_same (.cons .int (.cons (rw'.ext e3) .nil))⟩
  cases r with
  | @tup xs a vs q rl => exact ⟨a, _, rfl, Post.ret P A, .inr ⟨⟨vs, .of q⟩, bothT _ a fun ν' h' H' i e' A' => ⟨xs, vs, rfl, e'.toMon.sqT (.of q), rl.ext e'⟩⟩⟩
  | @kl a xs vs q rl => exact ⟨a, _, rfl, Post.ret P A, .inl ⟨⟨vs, q.sq⟩, both _ a fun ν' h' H' i e' A' => ⟨xs, vs, rfl, (e'.toMon.sqC q).sq, rl.ext e'⟩⟩⟩
  | @ref n a l e =>
    cases ho : h.get n with
    | none =>
      have P' : Post K ca W σ ν H (mAt n (fun o => match o with
        | .lst _ => M.ret (srcH n)
        | _ => M.bad) h) Φ := P
      unfold mAt at P'
      rw [ho] at P'
      exact P'.elim
    | some o =>
      have P' : Post K ca W σ ν H (mAt n (fun o => match o with
        | .lst _ => M.ret (srcH n)
        | _ => M.bad) h) Φ := P
      rw [mAt_ok ho] at P'
      have q := A.at_ _ o ho
      rw [e] at q
      cases o with
      | lst xs =>
        obtain ⟨a', vs, e1, e2, rl⟩ := q
        cases e1
        refine ⟨a, _, rfl, Post.ret P' A, ?_⟩
        -- the list as it stands at each turn
        have J1 : SrcR K ca ν H (Itl K a) (srcH n) := by
          intro ν' h' H' i e' A'
          have en : ν' n = [a] := (e'.nu n (by rw [e]; exact List.cons_ne_nil _ _)).trans e
          unfold srcH
          cases ho' : h'.get n with
          | none => exact ⟨fun z => (nomatch z), fun x z => (nomatch z)⟩
          | some o' =>
            have q' := A'.at_ n o' ho'
            rw [en] at q'
            cases o' with
            | lst ys =>
              obtain ⟨a2, ws, e3, e4, rl'⟩ := q'
              cases e3
              refine ⟨fun z => ⟨ws, .of e4, ?_⟩, fun x z => ?_⟩
              · have := Option.some.inj z
                rw [← rl'.length]; exact List.getElem?_eq_none_iff.mp this
              · obtain ⟨w, hw, rw'⟩ := rl'.get (Option.some.inj z)
                refine ⟨⟨ws, w, .of e4, hw⟩, fun y H'' hy => ?_⟩
                obtain ⟨rfl, hy2⟩ := hy
                have := hy2 ws (.of e4)
                rw [hw] at this; cases this
                exact ⟨ν', Ext.refl _ _, A', rw'⟩
            | _ => exact ⟨fun z => (nomatch z), fun x z => (nomatch z)⟩
        have J2 : SrcR K ca ν H (Ite K a) (enumS (srcH n)) := by
          intro ν' h' H' i e' A'
          have en : ν' n = [a] := (e'.nu n (by rw [e]; exact List.cons_ne_nil _ _)).trans e
          unfold enumS srcH
          cases ho' : h'.get n with
          | none => exact ⟨fun z => (nomatch z), fun x z => (nomatch z)⟩
          | some o' =>
            have q' := A'.at_ n o' ho'
            rw [en] at q'
            cases o' with
            | lst ys =>
              obtain ⟨a2, ws, e3, e4, rl'⟩ := q'
              cases e3
              refine ⟨fun z => ⟨ws, .of e4, ?_⟩, fun x z => ?_⟩
              · cases ex : ys[i]? with
                | none => rw [← rl'.length]; exact List.getElem?_eq_none_iff.mp ex
                | some w =>
                  have z' : (match (some ys[i]? : Option (Option PV)) with
                    | some (some x) => some (some (PV.tup [.int i, x]))
                    | r => r) = some none := z
                  rw [ex] at z'; cases z'
              · cases ex : ys[i]? with
                | none =>
                  have z' : (match (some ys[i]? : Option (Option PV)) with
                    | some (some x) => some (some (PV.tup [.int i, x]))
                    | r => r) = some (some x) := z
                  rw [ex] at z'; cases z'
                | some w0 =>
                  have z' : (match (some ys[i]? : Option (Option PV)) with
                    | some (some x) => some (some (PV.tup [.int i, x]))
                    | r => r) = some (some x) := z
                  rw [ex] at z'
                  cases z'
                  obtain ⟨w, hw, rw'⟩ := rl'.get ex
                  refine ⟨⟨ws, w, .of e4, hw⟩, fun y H'' hy => ?_⟩
                  obtain ⟨T, u, rfl, hT, rfl, hy2⟩ := hy
                  have := hy2 ws (.of e4)
                  rw [hw] at this; cases this
                  obtain ⟨e5, A5⟩ := A'.oth (o := .tup [.int (i : Nat), w]) hT
                  exact ⟨ν', e5, A5, .tup upd_same (.cons .int (.cons (rw'.ext e5) .nil))⟩
            | _ => exact ⟨fun z => (nomatch z), fun x z => (nomatch z)⟩
        exact .inl ⟨⟨vs, .of e2⟩, J1, J2⟩
      | _ => exact P'.elim
  | _ => exact P.elim
theorem pxi_seq (he : PX X ca W e f) : PXI X ca W tg e (iSeq f) :=
  PI.imp (pi_seqA he) fun σ H Rr ⟨ν, ρ, h, A, E, P⟩ => ⟨ν, ρ, h, A, E, (Post.bind P).mono fun ν1 H1 h1 x e1 A1 P1 v rv => by
    obtain ⟨a, s, rfl, q, z⟩ := srcOf_post A1 rv P1
    rcases z with ⟨z1, z2, _⟩ | ⟨z1, z2, _⟩
    · exact ⟨a, rfl, .inl ⟨z1, q _ z2⟩⟩
    · exact ⟨a, rfl, .inr ⟨z1, q _ z2⟩⟩⟩
theorem pxa_one (he : PX X ca W e f) (hs : starEach [e] X.env = (false, eval e X.env) :: starEach [] X.env := by rfl) : PXA X ca W [e] (aCons f aNil) := pxa_cons he pxa_nil hs
theorem aOne_post {ρ : Env} {σ : L2.St} {Φ : Nu → Hp → MH → List PV → Prop} (P : Post K ca W σ ν H ((f ρ).bind (fun x => M.ret [x]) h) Φ) : Post K ca W σ ν H (aCons f aNil ρ h) Φ := P
theorem pxi_enum {p pos tpos : Pos} {elts : List Expr} {kk : Nat} (hg : Gl X "enumerate") (hm : X.mg "enumerate" = none) (he : PX X ca W e f) (hs : starEach [e] X.env = [(false, eval e X.env)] := by rfl) :
    PXI X ca W (.Tuple elts kk tpos) (.Call (.Name "enumerate" p) [e] [] pos) (iEnu f) :=
  PI.imp (pi_enumA hg hm (pa_cons he pa_nil hs) hs) fun σ H Rr ⟨ν, ρ, h, A, E, P⟩ => ⟨ν, ρ, h, A, E, (Post.bind P).mono fun ν1 H1 h1 x e1 A1 P1 v rv => by
    obtain ⟨a, s, rfl, q, z⟩ := srcOf_post A1 rv (Post.bind P1)
    have q' := Post.ret q A1
    rcases z with ⟨⟨xs, z1⟩, _, z2⟩ | ⟨⟨xs, z1⟩, _, z2⟩
    · exact ⟨a, xs, rfl, .inl ⟨z1, q' _ z2⟩⟩
    · exact ⟨a, xs, rfl, .inr ⟨z1, q' _ z2⟩⟩⟩
theorem srcR_range {lo : Int} {n : Nat} : SrcR K ca ν H (Itr lo n) (srcR lo n) := by
  intro ν' h' H' i e' A'
  unfold srcR
  constructor
  · intro z
    by_cases hi : i < n
    · rw [if_pos hi] at z; cases z
    · exact Nat.le_of_not_lt hi
  · intro x z
    by_cases hi : i < n
    · rw [if_pos hi] at z
      cases z
      refine ⟨hi, fun y H'' hy => ?_⟩
      obtain ⟨rfl, rfl⟩ := hy
      exact ⟨ν', Ext.refl _ _, A', .int⟩
    · rw [if_neg hi] at z; cases z
theorem pxi_range1 {p pos : Pos} (hg : Gl X "range") (hm : X.mg "range" = none) (he : PX X ca W e f) (hs : starEach [e] X.env = [(false, eval e X.env)] := by rfl) : PXI X ca W tg (.Call (.Name "range" p) [e] [] pos) (iRg1 f) :=
  PI.imp (pi_range1 hg hm (pa_cons he pa_nil hs) hs) fun σ H Rr ⟨ν, ρ, h, A, E, P⟩ => ⟨ν, ρ, h, A, E, (Post.bind P).mono fun ν1 H1 h1 x e1 A1 P1 v rv => by
    cases rv with
    | @int j =>
      have P2 : Post X.K ca W σ ν1 H1 ((if rngOk j then M.ret (srcR 0 j.toNat) else M.bad : M Src) h1) fun ν' H' _ nxt => ∀ J, SrcR X.K ca ν' H' J nxt → Rr J H' := P1
      cases hj : rngOk j with
      | false => rw [hj] at P2; exact P2.elim
      | true =>
        rw [hj] at P2
        obtain ⟨h1, h2⟩ := of_decide_eq_true hj
        exact ⟨j, rfl, h1, h2, Post.ret P2 A1 _ srcR_range⟩
    | _ => exact P1.elim⟩
theorem pxi_range2 {p pos : Pos} (hg : Gl X "range") (hm : X.mg "range" = none) (he : PX X ca W e f) (he2 : PX X ca W e2 f2) (hs : starEach [e, e2] X.env = [(false, eval e X.env), (false, eval e2 X.env)] := by rfl) (hs2 : starEach [e2] X.env = [(false, eval e2 X.env)] := by rfl) :
    PXI X ca W tg (.Call (.Name "range" p) [e, e2] [] pos) (iRg2 f f2) :=
  PI.imp (pi_range2 hg hm (pa_cons he (pa_cons he2 pa_nil hs2) (hs.trans (by rw [hs2]))) hs hs2) fun σ H Rr ⟨ν, ρ, h, A, E, P⟩ => ⟨ν, ρ, h, A, E, (Post.bind P).mono fun ν1 H1 h1 x e1 A1 P1 v rv => ⟨ν1, ρ, h1, A1, E.ext e1, (Post.bind P1).mono fun ν2 H2 h2 y e2 A2 P2 w rw' => by
    cases rv with
    | @int i =>
      cases rw' with
      | @int j =>
        have P3 : Post X.K ca W σ ν2 H2 ((if rngOk i && rngOk j then M.ret (srcR i (j - i).toNat) else M.bad : M Src) h2) fun ν' H' _ nxt => ∀ J, SrcR X.K ca ν' H' J nxt → Rr J H' := P2
        cases hj : (rngOk i && rngOk j) with
        | false => rw [hj] at P3; exact P3.elim
        | true =>
          rw [hj] at P3
          obtain ⟨hi, hj⟩ := Bool.and_eq_true_iff.mp hj
          obtain ⟨h1, h2⟩ := of_decide_eq_true hi
          obtain ⟨h3, h4⟩ := of_decide_eq_true hj
          exact ⟨i, j, rfl, ⟨h1, h2, h3, h4⟩, Post.ret P3 A2 _ srcR_range⟩
      | _ => exact P2.elim
    | _ => exact P2.elim⟩⟩
end
end FX

set_option Elab.async false
set_option linter.all false
set_option maxRecDepth 100000
set_option maxHeartbeats 2000000
namespace FX
open PySem PySem.Spec PyProof.Rows L2 SlX
section
variable {K : PySem.W.Frag} {ν : Nu} {H : Hp}
theorem wipeE_length (ρ : Env) : ∀ vs : List Nat, (wipeE ρ vs).length = ρ.length
  | [] => rfl
  | v :: vs => by
    show ((wipeE ρ vs).set v none).length = _
    rw [List.length_set, wipeE_length ρ vs]
theorem EnvR.none {ρ : Env} {σ : L2.St} (r : EnvR K ν H ρ σ) (i : Nat) : EnvR K ν H (ρ.set i none) (σ.set i none) := by
  refine ⟨by rw [List.length_set, List.length_set]; exact r.1, fun j y hy => ?_⟩
  by_cases hj : j = i
  · subst hj
    by_cases hl : j < ρ.length
    · rw [List.getElem?_set_self hl] at hy; cases hy
    · rw [List.getElem?_eq_none_iff.mpr (by rw [List.length_set]; omega)] at hy; cases hy
  · rw [List.getElem?_set_ne (Ne.symm hj)] at hy
    obtain ⟨w, h1, h2⟩ := r.2 j y hy
    exact ⟨w, by rw [List.getElem?_set_ne (Ne.symm hj)]; exact h1, h2⟩
theorem EnvR.wipe {ρ : Env} {σ : L2.St} (r : EnvR K ν H ρ σ) : ∀ vs : List Nat, EnvR K ν H (wipeE ρ vs) (L2.wipe σ vs)
  | [] => r
  | v :: vs => (EnvR.wipe r vs).none v
end
/-- in a comprehension's block -/
abbrev Blk (X : Cx) (scope : Scope) (P : Cx → Prop) : Prop := ∀ (s : Shared) (H : Hp) (C : Addr) (cl : List (Str × Addr)) (fp : List Addr), P (X.blk s H scope (compEnvC scope cl C X.env) fp)
def PXTs (X : Cx) (ca : Ca) (W : WX) (ts : List Expr) (t : TF) : Prop := PTs X ts (tT ca W X.K t)
section
variable {X : Cx} {ca : Ca} {W : WX} {t : TF} {a : Expr}
theorem pxts_nil : PXTs X ca W [] tYes := by
  have h := pts_nil (X := X)
  exact ⟨fun pins s σ H Q I ⟨ν, ρ, hp, A, E, P⟩ => h.run pins s σ H Q I (Post.ret P A)⟩
theorem pxts_one (ha : PXT X ca W a t) : PXTs X ca W [a] t := pts_one ha
end
section
variable {X : Cx} {ca : Ca} {W : WX} {elt tg iter : Expr} {ifs : List Expr} {scope : Scope} {own : List (Str × Nat)} {pos : Pos} {i : IF} {g : GF} {t : TF} {e : EF}
/-- an object that stands already becomes ours -/
theorem Ab.adopt {K : PySem.W.Frag} {ν1 ν : Nu} {H1 H : Hp} {h : MH} {D : Addr} {acc : List PV} {vacc : List V} (x : Ext ν1 ν H1 H) (A : Ab K ca ν h H) (hD : H1 D = none) (dead : ∀ n, D ∉ ν n) (hl : H D = some (.lst vacc)) (r : RepL K ν H acc vacc) :
    Ext ν1 (nuN ν h.nx [D]) H1 H ∧ Ab K ca (nuN ν h.nx [D]) (h.new (.lst acc)) H ∧ ∀ n, ν n ≠ [] → nuN ν h.nx [D] n = ν n := by
  have nx : ν h.nx = [] := A.dom _ MH.get_nx
  have keep : ∀ n, ν n ≠ [] → nuN ν h.nx [D] n = ν n := fun n hn => nuN_ne fun z => hn (by rw [z]; exact nx)
  have m : Mon ν (nuN ν h.nx [D]) H H := ⟨keep, fun _ _ z => z, fun _ _ _ z => z⟩
  refine ⟨⟨⟨fun n hn => ?_, x.tups, x.frzs⟩, x.fr, fun n a h1 h2 => ?_, x.live⟩, ⟨fun n hn => ?_, fun n om hm => ?_, fun n k a h1 h2 => ?_⟩, keep⟩
  · have e := x.nu n hn
    rw [keep n (by rw [e]; exact hn), e]
  · by_cases hn : n = h.nx
    · rw [hn, nuN_same] at h2
      rw [List.mem_singleton.mp h2]; exact hD
    · rw [nuN_ne hn] at h2
      exact x.new n a h1 h2
  · by_cases hm : n = h.nx
    · rw [hm, MH.get_new] at hn; cases hn
    · rw [MH.get_new_ne hm] at hn
      rw [nuN_ne hm]; exact A.dom n hn
  · by_cases hmn : n = h.nx
    · subst hmn
      rw [MH.get_new] at hm
      cases hm
      rw [nuN_same]
      exact ⟨D, vacc, rfl, hl, r.mon m⟩
    · rw [MH.get_new_ne hmn] at hm
      rw [nuN_ne hmn]
      exact (A.at_ n om hm).mon m fun _ _ => rfl
  · by_cases h3 : n = h.nx
    · by_cases h4 : k = h.nx
      · rw [h3, h4]
      · rw [h3, nuN_same] at h1
        rw [nuN_ne h4, List.mem_singleton.mp h1] at h2
        exact absurd h2 (dead k)
    · rw [nuN_ne h3] at h1
      by_cases h4 : k = h.nx
      · rw [h4, nuN_same] at h2
        rw [List.mem_singleton.mp h2] at h1
        exact absurd h1 (dead n)
      · rw [nuN_ne h4] at h2
        exact A.inj n k a h1 h2
theorem wipe_set {x : Option V} : ∀ (us : List Nat) (τ : L2.St) (i : Nat), (L2.wipe (τ.set i x) us).set i none = (L2.wipe τ us).set i none
  | [], τ, i => by
    show (τ.set i x).set i none = τ.set i none
    rw [List.set_set]
  | a :: us, τ, i => by
    show ((L2.wipe (τ.set i x) us).set a none).set i none = ((L2.wipe τ us).set a none).set i none
    by_cases ha : a = i
    · rw [ha, List.set_set, List.set_set, wipe_set us τ i]
    · rw [List.set_comm _ _ ha, List.set_comm _ _ ha, wipe_set us τ i]
theorem wipe_wipe : ∀ (vs : List Nat) (σ : L2.St), L2.wipe (L2.wipe σ vs) vs = L2.wipe σ vs
  | [], _ => rfl
  | v :: vs, σ => by
    show (L2.wipe ((L2.wipe σ vs).set v none) vs).set v none = (L2.wipe σ vs).set v none
    rw [wipe_set vs (L2.wipe σ vs) v, wipe_wipe vs σ]
theorem lst_line {n : Nat} (h : n < 10000000) : n < sizeLine := by
  rw [sizeLine_eq]; omega
/-- the reading of a comprehension: from the list that is walked to the list that is made -/
theorem lc_read {K : PySem.W.Frag} {ν : Nu} {ρ : Env} {h : MH} {σ : L2.St} {H : Hp} {Q : VK} {vs : List Nat} (A : Ab K ca ν h H) (E : EnvR K ν H ρ σ) (P : Post K ca W σ ν H (eLc i vs g t e ρ h) fun ν' H' _ x => ∀ v, Rep K ν' H' x v → Q v H') :
    tLc (tI ca W K i) (tG ca W0 K vs g) (tT ca W0 K t) (tE ca W0 K e) vs σ H Q := by
  refine ⟨ν, ρ, h, A, E, (Post.bind P).mono fun ν1 H1 h1 nxt e1 A1 P1 J hJ D hD => ?_⟩
  have E1 := (E.ext e1).wipe vs
  have dead : ∀ n, D ∉ ν1 n := fun n hn => A1.live hn hD
  let Tot (acc : List PV) (r : R (List PV)) : Prop := match r with
    | .ok xs h' => Post K ca W σ ν1 H1 (mNew (.lst (acc ++ xs)) h') fun ν' H' _ x => ∀ v, Rep K ν' H' x v → Q v H'
    | _ => False
  have P2 : Tot [] (compN nxt g t e fuel 0 0 (wipeE ρ vs) h1) := by
    unfold M.bind noX at P1
    revert P1
    show _ → Tot [] _
    cases compN nxt g t e fuel 0 0 (wipeE ρ vs) h1 with
    | ok xs h' => exact fun p => p
    | exc c x h' => exact fun p => p
    | bad => exact fun p => p
  let Wi (j m : Nat) (H : Hp) : Prop := ∃ ν h acc vacc, Ext ν1 ν H1 H ∧ Ab K ca ν h H ∧ (∀ n, D ∉ ν n) ∧ H D = some (.lst vacc) ∧ RepL K ν H acc vacc ∧ Tot acc (compN nxt g t e m j vacc.length (wipeE ρ vs) h)
  obtain ⟨e2, A2⟩ := A1.oth (o := .lst []) hD
  refine ⟨Wi, ⟨fuel, ν1, h1, [], [], e2, A2, dead, upd_same, .nil, P2⟩, ?_⟩
  rintro j m Hc ⟨νc, hc, acc, vacc, xc, Ac, dc, lc, rc, T⟩
  cases m with
  | zero => exact T.elim
  | succ m =>
    obtain ⟨hstop, hgo⟩ := hJ νc hc Hc j xc Ac
    unfold compN at T
    generalize nxt j hc = z at T hstop hgo
    rcases z with _ | _ | x
    · exact T.elim
    · refine .inl ⟨hstop rfl, ?_⟩
      have T' : Post K ca W σ ν1 H1 (mNew (.lst (acc ++ [])) hc) fun ν' H' _ x => ∀ v, Rep K ν' H' x v → Q v H' := T
      rw [List.append_nil] at T'
      obtain ⟨x3, A3, _⟩ := Ab.adopt xc Ac hD dc lc rc
      exact T' _ _ x3 A3 _ (.ref (l := []) nuN_same)
    · obtain ⟨hg1, hy⟩ := hgo x rfl
      refine .inr ⟨hg1, Wi (j + 1) m, fun H' w => ⟨m, Nat.lt_succ_self m, w⟩, fun y H' hyl => ?_⟩
      obtain ⟨ν2, x2, A2, r2⟩ := hy y H' hyl
      have d2 : ∀ n, D ∉ ν2 n := fun n hn => by
        by_cases hz : νc n = []
        · have := x2.new n D hz hn
          rw [lc] at this; cases this
        · rw [x2.nu n hz] at hn
          exact dc n hn
      have l2 : H' D = some (.lst vacc) := x2.fr D _ lc dc
      have E2 := E1.ext (xc.trans x2)
      refine ⟨ν2, wipeE ρ vs, hc, x, A2, E2, r2, ?_⟩
      have T1 : Tot acc (((g x (wipeE ρ vs)).bind fun ρ2 => (t ρ2).bind fun b => if b then (e ρ2).bind fun y => if vacc.length < 10000000 then (compN nxt g t e m (j + 1) (vacc.length + 1) (wipeE ρ vs)).bind fun ys => M.ret (y :: ys) else M.bad
        else compN nxt g t e m (j + 1) vacc.length (wipeE ρ vs)) hc) := T
      unfold M.bind at T1
      cases eg : g x (wipeE ρ vs) hc with
      | exc c x h' => rw [eg] at T1; exact T1.elim
      | bad => rw [eg] at T1; exact T1.elim
      | ok ρ2 h2 =>
        rw [eg] at T1
        intro ν3 H3 x3 A3 σ3 E3 hw
        have d3 : ∀ n, D ∉ ν3 n := fun n hn => by
          by_cases hz : ν2 n = []
          · have := x3.new n D hz hn
            rw [l2] at this; cases this
          · rw [x3.nu n hz] at hn
            exact d2 n hn
        have l3 : H3 D = some (.lst vacc) := x3.fr D _ l2 d2
        refine ⟨hw.trans (wipe_wipe vs σ), ν3, ρ2, h2, A3, E3, ?_⟩
        cases et : t ρ2 h2 with
        | exc c x h' =>
          have T2 := T1
          simp only [et] at T2
          exact (show False from T2).elim
        | bad =>
          have T2 := T1
          simp only [et] at T2
          exact (show False from T2).elim
        | ok b h4 =>
          intro ν4 H4 x4 A4
          have d4 : ∀ n, D ∉ ν4 n := fun n hn => by
            by_cases hz : ν3 n = []
            · have := x4.new n D hz hn
              rw [l3] at this; cases this
            · rw [x4.nu n hz] at hn
              exact d3 n hn
          have l4 : H4 D = some (.lst vacc) := x4.fr D _ l3 d3
          have T2 := T1
          simp only [et] at T2
          have x14 := ((xc.trans x2).trans x3).trans x4
          cases b with
          | false =>
            exact ⟨ν4, h4, acc, vacc, x14, A4, d4, l4, ((rc.ext x2).ext x3).ext x4, T2⟩
          | true =>
            refine ⟨ν4, ρ2, h4, A4, E3.ext x4, ?_⟩
            cases ee : e ρ2 h4 with
            | exc c x h' =>
              have T3 := T2
              simp only [ee, if_true] at T3
              exact (show False from T3).elim
            | bad =>
              have T3 := T2
              simp only [ee, if_true] at T3
              exact (show False from T3).elim
            | ok yv h5 =>
              intro ν5 H5 x5 A5 v rv
              have d5 : ∀ n, D ∉ ν5 n := fun n hn => by
                by_cases hz : ν4 n = []
                · have := x5.new n D hz hn
                  rw [l4] at this; cases this
                · rw [x5.nu n hz] at hn
                  exact d4 n hn
              have l5 : H5 D = some (.lst vacc) := x5.fr D _ l4 d4
              have T3 := T2
              simp only [ee, if_true] at T3
              have x15 := x14.trans x5
              have r5 := (((rc.ext x2).ext x3).ext x4).ext x5
              by_cases hl : vacc.length < 10000000
              · rw [if_pos hl] at T3
                refine ⟨vacc, l5, lst_line hl, ?_⟩
                obtain ⟨m6, A6⟩ := A5.side (o := .lst (vacc ++ [v])) d5 l5
                refine ⟨ν5, h5, acc ++ [yv], vacc ++ [v], x15.side hD, A6, d5, upd_same, (r5.append (.cons rv .nil)).mon m6, ?_⟩
                rw [List.length_append]
                show Tot (acc ++ [yv]) (compN nxt g t e m (j + 1) (vacc.length + 1) (wipeE ρ vs) h5)
                revert T3
                cases compN nxt g t e m (j + 1) (vacc.length + 1) (wipeE ρ vs) h5 with
                | ok xs h' =>
                  intro T3
                  have T4 : Post K ca W σ ν1 H1 (mNew (.lst (acc ++ (yv :: xs))) h') fun ν' H' _ x => ∀ v, Rep K ν' H' x v → Q v H' := T3
                  show Post K ca W σ ν1 H1 (mNew (.lst ((acc ++ [yv]) ++ xs)) h') fun ν' H' _ x => ∀ v, Rep K ν' H' x v → Q v H'
                  rw [List.append_assoc]
                  exact T4
                | exc c x h' => exact fun p => p
                | bad => exact fun p => p
              · rw [if_neg hl] at T3
                exact T3.elim
theorem px_lc (hc : X.calm = true) (hN : X.N.Nodup) (hi : PXI X ca W tg iter i) (ok : BlkOk X.N X.env.scope scope own) (hg : Blk X scope fun Y => PXG Y ca W0 (own.map (·.2)) tg g) (ht : Blk X scope fun Y => PXTs Y ca W0 ifs t) (he : Blk X scope fun Y => PX Y ca W0 elt e)
    (hs : ∀ x, foldedSetIterable iter X.env x = pure x := by intro _; rfl) : PX X ca W (.ListComp elt [⟨tg, iter, ifs, 0⟩] scope pos) (eLc i (own.map (·.2)) g t e) :=
  PE.imp (pe_lc (g := tG ca W0 X.K (List.map (fun p : Str × Nat => p.2) own) g) (tt := tT ca W0 X.K t) (te := tE ca W0 X.K e) hc hN hi ok hg ht he hs) fun σ H Q ⟨ν, ρ, h, A, E, P⟩ => lc_read A E P
theorem pxs_setLc {k : Nat} {y : Str} {py spos : Pos} (hc : X.calm = true) (hN : X.N.Nodup) (hy : X.N[k]? = some y) (hyl : X.env.scope.names.lookup y = some .local)
    (hsw : swapsWith (.ListComp elt [⟨tg, iter, ifs, 0⟩] scope pos) (some (.Name y py)) spos.line X.env = pure true) (hi : PXI X ca W tg iter i) (ok : BlkOk X.N X.env.scope scope own) (hg : Blk X scope fun Y => PXG Y ca W0 (own.map (·.2)) tg g) (ht : Blk X scope fun Y => PXTs Y ca W0 ifs t) (he : Blk X scope fun Y => PX Y ca W0 elt e)
    (hs : ∀ x, foldedSetIterable iter X.env x = pure x := by intro _; rfl) : PXS X ca W (.Assign [.Name y py] (.ListComp elt [⟨tg, iter, ifs, 0⟩] scope pos) spos) (sAsg (eLc i (own.map (·.2)) g t e) (gSet k)) :=
  PS.imp (ps_setLc (i := k) (g := tG ca W0 X.K (List.map (fun p : Str × Nat => p.2) own) g) (tt := tT ca W0 X.K t) (te := tE ca W0 X.K e) hc hN hy hyl hsw hi ok hg ht he hs) fun D σ H ⟨ν, ρ, h, A, E, P⟩ => by
    refine lc_read (W := W) A E ((sThen_post E P).mono fun ν1 H1 h1 x e1 A1 P1 v rv => ?_)
    exact Post.ret P1 A1 _ ((E.ext e1).set rv k)
end
end FX

set_option Elab.async false
set_option linter.all false
set_option maxRecDepth 100000
set_option maxHeartbeats 2000000
namespace FX
open PySem PySem.Spec PyProof.Rows L2 SlX
abbrev FF := List PV → M PV
/-- what stands at a place, if it is an instance of the class c -/
def mIns {α : Type} (c : Nat) (x : PV) (k : Nat → List (Option PV) → M α) : M α := match x with
  | .ref n => mAt n fun o => match o with
    | .ins c' fs => if c' = c then k n fs else M.bad
    | _ => M.bad
  | _ => M.bad
def slGet (i : Nat) (fs : List (Option PV)) : M PV := match fs[i]? with
  | some (some y) => M.ret y
  | _ => M.bad
def putE (i : Nat) (y : PV) (fs : List (Option PV)) : List (Option PV) := (fs ++ List.replicate (i + 1 - fs.length) none).set i (some y)
/-- an attribute: a slot, a property -/
def atSl (c i : Nat) : PV → M PV := fun x => mIns c x fun _ fs => slGet i fs
def atPr (c : Nat) (F : FF) : PV → M PV := fun x => mIns c x fun _ _ => noX (F [x])
/-- by the class -/
def isC (c : Nat) (x : PV) (h : MH) : Bool := match x with
  | .ref n => (match h.get n with
    | some (.ins c' _) => c' == c
    | _ => false)
  | _ => false
def atOr (c : Nat) (g g' : PV → M PV) : PV → M PV := fun x h => if isC c x h then g x h else g' x h
/-- o.f = y -/
def slPut (c i : Nat) (x y : PV) : M Unit := mIns c x fun n fs => mPut n (.ins c (putE i y fs))
def sFld (c i : Nat) (fo fv : EF) : SF := fun ρ => sThen (fv ρ) ρ fun y => sThen (fo ρ) ρ fun x => sThen (slPut c i x y) ρ fun _ => M.ret (.nx ρ)
/-- o.m(..) -/
def eMet (c : Nat) (F : FF) (fo : EF) (ra : AF) : EF := fun ρ => (fo ρ).bind fun x => (mIns c x fun _ _ => M.ret ()).bind fun _ => (ra ρ).bind fun xs => F (x :: xs)
/-- C(..) -/
def mMake (c : Nat) (F : FF) : FF := fun xs => (mNew (.ins c [])).bind fun x => (F (x :: xs)).bind fun r => match r with
  | .non => M.ret x
  | _ => M.bad
section
variable (P : Program) (w : World) (K : PySem.W.Frag) (mg : Str → Option Value) (base : Heap) (ca : Ca)
def spM (F : FF) : Sp := fun vs H Q E => ∃ ν h xs, Ab K ca ν h H ∧ RepL K ν H xs vs ∧ Post K ca (fun c d _ H => E c d H) [] ν H (F xs h) fun ν' H' _ x => ∀ v, Rep K ν' H' x v → Q v H'
structure FnX (k : Nat) (f : Addr) (F : FF) : Prop where
  fn : FnR P w K mg base (L2.CX P w) k f (spM K ca F)
  kp : PySem.W.keepIn K (.ref f) = true
end
section
variable {P : Program} {w : World} {K : PySem.W.Frag} {mg : Str → Option Value} {base : Heap} {ca : Ca} {j k : Nat} {f : Addr} {F F' : FF}
theorem FnX.mono (h : FnX P w K mg base ca j f F) (l : j ≤ k) : FnX P w K mg base ca k f F := ⟨h.fn.mono l, h.kp⟩
/-- a less defined meaning -/
def Less (F' F : FF) : Prop := ∀ xs h, F' xs h = .bad ∨ F' xs h = F xs h
theorem FnX.less (h : FnX P w K mg base ca k f F) (l : Less F' F) : FnX P w K mg base ca k f F' := ⟨h.fn.imp fun vs H Q E ⟨ν, hp, xs, A, r, p⟩ => by
  rcases l xs hp with e | e
  · rw [e] at p; exact p.elim
  · rw [e] at p; exact ⟨ν, hp, xs, A, r, p⟩, h.kp⟩
end
section
variable {X : Cx} {ca : Ca} {W : WX} {pins : List (Addr × Obj)} {σ : L2.St} {H : Hp} {s : Shared} {k : Nat} {f C : Addr} {F : FF}
theorem Post.sig {α : Type} {K : PySem.W.Frag} {W' : WX} {σ' : L2.St} {ν : Nu} {r : R α} {Φ : Nu → Hp → MH → α → Prop} (p : Post K ca W σ ν H r Φ) (hw : ∀ c d H, W c d σ H → W' c d σ' H) : Post K ca W' σ' ν H r Φ := by
  cases r with
  | ok x h => exact p
  | exc c x h => exact fun ν' H' d v e A hd r => hw _ _ _ (p ν' H' d v e A hd r)
  | bad => exact p
theorem run_fnS {sp : Sp} {E : XK} {Q : VK} {us : List Value} {vs : List V} {CX : CXT} (Fn : FnR X.prog X.w X.K X.mg X.base CX k f sp) (hr : Room k X.A) (hx : PassesAt CX X σ E) (I : Inv X pins σ H s) (r : Vals vs us) (h : sp vs H Q E) :
    codeAny (model X.prog X.w) X.A (.call (.ref f) ⟨us, []⟩) (fun r s' => match r with | .ok (.ret v) => EP X pins σ Q v s' | .ok _ => False | .error e => X.xe e s') s := by
  refine codeAny_mono (Fn X.A X.stack s H us vs Q E hr I.env0 r h) fun r s' hq => ?_
  cases r with
  | error e => exact hx pins H s e s' I hq
  | ok fl =>
    cases fl with
    | ret u => exact I.after hq
    | next => exact False.elim hq
    | brk => exact False.elim hq
    | cont => exact False.elim hq
/-- a call with values -/
theorem call_x {Q : VK} {us : List Value} {vs : List V} {xs : List PV} {ν : Nu} {h : MH} (Fn : FnX X.prog X.w X.K X.mg X.base ca k f F) (hr : Room k X.A) (tk : Takes X W) (I : Inv X pins σ H s) (r : Vals vs us) (A : Ab X.K ca ν h H) (rx : RepL X.K ν H xs vs)
    (P : Post X.K ca W σ ν H (F xs h) fun ν' H' _ x => ∀ v, Rep X.K ν' H' x v → Q v H') :
    codeAny (model X.prog X.w) X.A (.call (.ref f) ⟨us, []⟩) (fun r s' => match r with | .ok (.ret v) => EP X pins σ Q v s' | .ok _ => False | .error e => X.xe e s') s :=
  run_fnS Fn.fn hr (passAt tk σ) I r ⟨ν, h, xs, A, rx, P.sig fun _ _ _ h => h⟩
section
variable {x : Str} {e o : Expr} {es : List Expr} {p pos apos : Pos} {ra : AF} {fo : EF}
theorem app_post {ρ : Env} {ν : Nu} {h : MH} {Q : VK} (A : Ab X.K ca ν h H) (E : EnvR X.K ν H ρ σ) (P : Post X.K ca W σ ν H (eApp F ra ρ h) fun ν' H' _ x => ∀ v, Rep X.K ν' H' x v → Q v H') :
    tA ca W X.K ra σ H fun vs H1 => ∃ ν1 h1 xs, Ab X.K ca ν1 h1 H1 ∧ RepL X.K ν1 H1 xs vs ∧ Post X.K ca W σ ν1 H1 (F xs h1) fun ν' H' _ x => ∀ v, Rep X.K ν' H' x v → Q v H' :=
  ⟨ν, ρ, h, A, E, (Post.bind P).mono fun ν1 H1 h1 xs e1 A1 P1 vs r => ⟨ν1, h1, xs, A1, r, P1⟩⟩
theorem px_call (Fn : FnX X.prog X.w X.K X.mg X.base ca k f F) (hr : Room k X.A) (tk : Takes X W) (hg : Gl X x) (hm : X.mg x = some (.ref f)) (ha : PXA X ca W (e :: es) ra)
    (hdb : (x == ("__debug__" : Str)) = false := by decide) (he : starEach (e :: es) X.env = (false, eval e X.env) :: starEach es X.env := by rfl) (hpl : (backTo pos (starEach es X.env)).any (·.1) = false := by rfl) :
    PX X ca W (.Call (.Name x p) (e :: es) [] pos) (eApp F ra) := by
  refine ⟨fun pins s σ H Q I ⟨ν, ρ, h, A, E, P⟩ => ?_⟩
  refine wpAny_Call_Name_kw (ld_glob I hg hm ?_ hdb)
  refine PySem.W.callWith_K (h₀ := X.base) I.ok.mod.kin Fn.kp (thn (ha.run pos pins s σ H _ I (app_post A E P)) fun us s1 ⟨vs, H1, I1, r, ν1, h1, xs, A1, rx, P1⟩ => ⟨I1.kIn, ?_⟩) he hpl
  exact wpAny_call (call_x Fn hr tk I1 r A1 rx P1)
theorem px_call0 (Fn : FnX X.prog X.w X.K X.mg X.base ca k f F) (hr : Room k X.A) (tk : Takes X W) (hg : Gl X x) (hm : X.mg x = some (.ref f)) (hdb : (x == ("__debug__" : Str)) = false := by decide) :
    PX X ca W (.Call (.Name x p) [] [] pos) (eApp F aNil) := by
  refine ⟨fun pins s σ H Q I ⟨ν, ρ, h, A, E, P⟩ => ?_⟩
  refine wpAny_Call_Name_kw (ld_glob I hg hm ?_ hdb)
  exact PySem.W.callWith_K0 I.kIn Fn.kp (wpAny_call (call_x (us := []) (vs := []) (xs := []) Fn hr tk I .nil A .nil P))
theorem new_ins {K : PySem.W.Frag} {ν : Nu} {h : MH} {c : Nat} {a dx : Addr} (A : Ab K ca ν h H) (ha : H a = none) (hd : H dx = none) (ne : dx ≠ a) :
    Ext ν (nuN ν h.nx [a, dx]) H (upd (upd H dx (.own a)) a (.ins (ca c) dx [])) ∧ Ab K ca (nuN ν h.nx [a, dx]) (h.new (.ins c [])) (upd (upd H dx (.own a)) a (.ins (ca c) dx [])) := by
  refine A.nw (fun b hb => ?_) (fun b hb => ?_) (fun b hb => ?_) fun x => ⟨a, dx, [], rfl, ⟨.inl ⟨upd_same, rfl⟩, .inl (by rw [upd_ne ne, upd_same])⟩, fun i y hy => by simp at hy⟩
  · rcases List.mem_cons.mp hb with rfl | hb
    · exact ha
    · rw [List.mem_singleton.mp hb]; exact hd
  · have h1 : b ≠ a := fun z => hb (by rw [z]; exact List.mem_cons_self)
    have h2 : b ≠ dx := fun z => hb (by rw [z]; exact List.mem_cons_of_mem _ List.mem_cons_self)
    rw [upd_ne h1, upd_ne h2]
  · rcases List.mem_cons.mp hb with rfl | hb
    · rw [upd_same]; exact fun z => nomatch z
    · rw [List.mem_singleton.mp hb, upd_ne ne, upd_same]; exact fun z => nomatch z
theorem make_x {c : Nat} {Q : VK} {us : List Value} {vs : List V} {xs : List PV} {ν : Nu} {h : MH} (Mk' : Mk X.K (ca c) f) (Fn : FnX X.prog X.w X.K X.mg X.base ca k f F) (hr : Room (k + 1) X.A) (tk : Takes X W) (I : Inv X pins σ H s) (r : Vals vs us) (A : Ab X.K ca ν h H)
    (rx : RepL X.K ν H xs vs) (P : Post X.K ca W σ ν H (mMake c F xs h) fun ν' H' _ x => ∀ v, Rep X.K ν' H' x v → Q v H') : wpAny (model X.prog X.w) X.A (call (.ref (ca c)) us) (EP X pins σ Q) X.xe s := by
  have ha := I.hok.fresh (Nat.le_succ s.heap.objs.size)
  have hd := I.hok.fresh (Nat.le_refl s.heap.objs.size)
  obtain ⟨e1, A1⟩ := new_ins (c := c) A ha hd (Nat.ne_of_lt (Nat.lt_succ_self _))
  have P1 : Post X.K ca W σ ν H ((mNew (.ins c [])).bind (fun x => (F (x :: xs)).bind fun r => match r with
    | .non => M.ret x
    | _ => M.bad) h) fun ν' H' _ x => ∀ v, Rep X.K ν' H' x v → Q v H' := P
  have P2 := Post.bind ((Post.bind P1) _ _ e1 A1)
  have I2 := Inv.made (C := ca c) I
  have r2 : Vals (V.ref (s.heap.objs.size + 1) :: vs) (Value.ref (s.heap.objs.size + 1) :: us) := .cons rfl r
  have rn : Rep X.K (nuN ν h.nx [s.heap.objs.size + 1, s.heap.objs.size]) (upd (upd H s.heap.objs.size (.own (s.heap.objs.size + 1))) (s.heap.objs.size + 1) (.ins (ca c) s.heap.objs.size [])) (.ref h.nx) (.ref (s.heap.objs.size + 1)) := .ref (l := [s.heap.objs.size]) nuN_same
  have q : spM X.K ca F (V.ref (s.heap.objs.size + 1) :: vs) (upd (upd H s.heap.objs.size (.own (s.heap.objs.size + 1))) (s.heap.objs.size + 1) (.ins (ca c) s.heap.objs.size [])) (fun v H2 => v = .non ∧ Q (.ref (s.heap.objs.size + 1)) H2) (WE W σ) := by
    refine ⟨_, _, _, A1, .cons rn (rx.ext e1), (P2.mono fun ν3 H3 h3 z e3 A3 P3 v rv => ?_).sig fun _ _ _ h => h⟩
    cases rv with
    | non => exact ⟨rfl, Post.ret P3 A3 _ (rn.ext e3)⟩
    | _ => exact P3.elim
  refine wpAny_call (make_map (f := f) I.kIn Mk'.makes Mk'.init (beq_iff_eq.mp Mk'.fn) (codeAny_mono (Fn.fn _ X.stack _ _ (Value.ref (s.heap.objs.size + 1) :: us) _ _ (WE W σ) (hr.make (ca c) us []) (I2.env0.make (ca c) us []) r2 q) fun r s' hq' => ?_))
  cases r with
  | error e => exact (passAt tk σ) pins _ _ e s' I2 hq'
  | ok fl =>
    cases fl with
    | ret u =>
      obtain ⟨v, H', I3, rv, ev, q3⟩ := I2.after hq'
      subst ev
      exact ⟨rv, ⟨V.ref (s.heap.objs.size + 1), H', I3, rfl, q3⟩⟩
    | next => exact False.elim hq'
    | brk => exact False.elim hq'
    | cont => exact False.elim hq'
theorem px_make {c : Nat} (Mk' : Mk X.K (ca c) f) (Fn : FnX X.prog X.w X.K X.mg X.base ca k f F) (hr : Room (k + 1) X.A) (tk : Takes X W) (hg : Gl X x) (hm : X.mg x = some (.ref (ca c))) (ha : PXA X ca W (e :: es) ra)
    (hdb : (x == ("__debug__" : Str)) = false := by decide) (he : starEach (e :: es) X.env = (false, eval e X.env) :: starEach es X.env := by rfl) (hpl : (backTo pos (starEach es X.env)).any (·.1) = false := by rfl) :
    PX X ca W (.Call (.Name x p) (e :: es) [] pos) (eApp (mMake c F) ra) := by
  refine ⟨fun pins s σ H Q I ⟨ν, ρ, h, A, E, P⟩ => ?_⟩
  refine wpAny_Call_Name_kw (ld_glob I hg hm ?_ hdb)
  refine PySem.W.callWith_K (h₀ := X.base) I.ok.mod.kin Mk'.kp (thn (ha.run pos pins s σ H _ I (app_post A E P)) fun us s1 ⟨vs, H1, I1, r, ν1, h1, xs, A1, rx, P1⟩ => ⟨I1.kIn, ?_⟩) he hpl
  exact make_x Mk' Fn hr tk I1 r A1 rx P1
end
theorem mIns_post {α : Type} {K : PySem.W.Frag} {c : Nat} {x : PV} {v : V} {kk : Nat → List (Option PV) → M α} {ν : Nu} {h : MH} {Φ : Nu → Hp → MH → α → Prop} (A : Ab K ca ν h H) (r : Rep K ν H x v) (P : Post K ca W σ ν H (mIns c x kk h) Φ) :
    ∃ n a dx vs fs, x = .ref n ∧ v = .ref a ∧ h.get n = some (.ins c fs) ∧ ν n = [a, dx] ∧ Slt H a (ca c) dx vs ∧ (H dx = some (.own a) ∨ H dx = some (.xd [])) ∧ RepO K ν H fs vs ∧ Post K ca W σ ν H (kk n fs h) Φ := by
  cases r with
  | @ref n a l e =>
    cases ho : h.get n with
    | none =>
      have P' : Post K ca W σ ν H (mAt n (fun o => match o with
        | .ins c' fs => if c' = c then kk n fs else M.bad
        | _ => M.bad) h) Φ := P
      unfold mAt at P'
      rw [ho] at P'
      exact P'.elim
    | some o =>
      have P' : Post K ca W σ ν H (mAt n (fun o => match o with
        | .ins c' fs => if c' = c then kk n fs else M.bad
        | _ => M.bad) h) Φ := P
      rw [mAt_ok ho] at P'
      have q := A.at_ _ o ho
      rw [e] at q
      cases o with
      | ins c' fs =>
        have P2 : Post K ca W σ ν H ((if c' = c then kk n fs else M.bad : M α) h) Φ := P'
        by_cases hc : c' = c
        · subst hc
          rw [if_pos rfl] at P2
          obtain ⟨a', dx, vs, e1, ⟨e2, e3⟩, ro⟩ := q
          cases e1
          exact ⟨n, _, dx, vs, fs, rfl, rfl, ho, e, e2, e3, ro, P2⟩
        · rw [if_neg hc] at P2
          exact P2.elim
      | _ => exact P'.elim
  | _ => exact P.elim
variable (X ca W) in
/-- an attribute that is read -/
def AtM (fl : Str) (g : PV → M PV) : Prop := ∀ b pins s σ H ν h x xv v Q, Inv X pins σ H s → RelV xv v → Ab X.K ca ν h H → Rep X.K ν H x xv →
  Post X.K ca W σ ν H (g x h) (fun ν' H' _ z => ∀ w, Rep X.K ν' H' z w → Q w H') → wpAny (model X.prog X.w) X.A (getAttr v fl b) (EP X pins σ Q) X.xe s
theorem at_slot {c i : Nat} {fl : Str} {p : Addr} (sc : SCls X.K (ca c)) (sl : Slot1 X.K (ca c) fl p i) : AtM X ca W fl (atSl c i) := by
  intro b pins s σ H ν h x xv v Q I rv A r P
  obtain ⟨n, a, dx, vs, fs, rfl, rfl, ho, en, hs, hd, ro, P1⟩ := mIns_post A r P
  cases rv
  unfold slGet at P1
  cases ef : fs[i]? with
  | none => rw [ef] at P1; exact P1.elim
  | some oy =>
    cases oy with
    | none => rw [ef] at P1; exact P1.elim
    | some y =>
      rw [ef] at P1
      obtain ⟨u, hu, ru⟩ := ro i y ef
      exact getslot_ok I hs sc sl hu fun w s' I' rw' => ⟨u, H, I', rw', Post.ret P1 A u ru⟩
theorem cx_false {P : Program} {w : World} {outer : List PySem.Env} {H : Hp} {s s' : Shared} {e : Value} (h : L2.CX P w outer H s (fun _ _ _ => False) e s') : False := by
  obtain ⟨_, _, _, _, _, _, _, _, _, _, _, _, z⟩ := h
  exact z
theorem noX_post {α : Type} {K : PySem.W.Frag} {m : M α} {ν : Nu} {h : MH} {W' : WX} {σ' : L2.St} {Φ : Nu → Hp → MH → α → Prop} (P : Post K ca W σ ν H (noX m h) Φ) : Post K ca W' σ' ν H (m h) Φ := by
  unfold noX at P
  revert P
  cases m h with
  | ok x h' => exact fun p => p
  | exc c x h' => exact fun p => p.elim
  | bad => exact fun p => p
/-- a property of a class with slots -/
structure PrS (K : PySem.W.Frag) (C : Addr) (fl : Str) (p g : Addr) : Prop where
  at_ : PySem.W.findIn K (.ref C) fl = some (some (.ref p))
  get : PySem.W.specialIn K (.ref p) "__get__" = some (some (.builtin "property.__get__"))
  tk : PySem.W.takesIn K (.ref p) = some true
  rc : ∃ rest, PySem.W.recIn K p "property" = some (.ref g :: rest)
theorem at_prop {c : Nat} {fl : Str} {p : Addr} (sc : SCls X.K (ca c)) (pr : PrS X.K (ca c) fl p f) (Fn : FnX X.prog X.w X.K X.mg X.base ca k f F) (hr : Room (k + 1) X.A) : AtM X ca W fl (atPr c F) := by
  intro b pins s σ H ν h x xv v Q I rv A r P
  obtain ⟨n, a, dx, vs, fs, rfl, rfl, ho, en, hs, hd, ro, P1⟩ := mIns_post A r P
  cases rv
  refine getprop_sl (CX := L2.CX X.prog X.w) (E := fun _ _ _ => False) I hs sc pr.at_ pr.get pr.tk pr.rc Fn.fn hr (fun _ _ _ _ z => cx_false z) ⟨ν, h, [.ref n], A, .cons r .nil, noX_post P1⟩
theorem at_or {c : Nat} {fl : Str} {g g' : PV → M PV} (h1 : AtM X ca W fl g) (h2 : AtM X ca W fl g') : AtM X ca W fl (atOr c g g') := by
  intro b pins s σ H ν h x xv v Q I rv A r P
  unfold atOr at P
  cases e : isC c x h with
  | true => rw [e] at P; exact h1 b pins s σ H ν h x xv v Q I rv A r P
  | false => rw [e] at P; exact h2 b pins s σ H ν h x xv v Q I rv A r P
section
variable {e o : Expr} {fl m : Str} {pos apos pos' : Pos} {fe fo fv : EF} {g : PV → M PV} {es : List Expr} {ra : AF} {c i : Nat}
theorem px_attr (ha : AtM X ca W fl g) (he : PX X ca W e fe) (hb : attributeBase e fl X.env (eval e X.env) = eval e X.env := by rfl) : PX X ca W (.Attribute e fl pos) (eUn g fe) := by
  refine ⟨fun pins s σ H Q I ⟨ν, ρ, h, A, E, P⟩ => ?_⟩
  refine attr_of hb (thn (he.run pins s σ H _ I ⟨ν, ρ, h, A, E, (Post.bind P).mono fun ν1 H1 h1 px e1 A1 P1 v rv => (⟨ν1, h1, px, A1, rv, P1⟩ : ∃ ν1 h1 px, Ab X.K ca ν1 h1 H1 ∧ Rep X.K ν1 H1 px v ∧ Post X.K ca W σ ν1 H1 (g px h1) fun ν' H' _ x => ∀ v, Rep X.K ν' H' x v → Q v H')⟩) fun w s1 ⟨x, H1, I1, rx, ν1, h1, px, A1, rp, P1⟩ => ?_)
  exact ha _ pins s1 σ H1 ν1 h1 px x w Q I1 rx A1 rp P1
theorem RepO.put {K : PySem.W.Frag} {ν : Nu} {fs : List (Option PV)} {vs : List (Option V)} (ro : RepO K ν H fs vs) {y : PV} {v : V} (r : Rep K ν H y v) (i : Nat) : RepO K ν H (putE i y fs) (putS i v vs) := by
  intro j z hz
  by_cases hj : j = i
  · subst hj
    have hl : j < (fs ++ List.replicate (j + 1 - fs.length) none).length := by
      rw [List.length_append, List.length_replicate]; omega
    have : (putE j y fs)[j]? = some (some y) := List.getElem?_set_self hl
    rw [this] at hz
    cases hz
    exact ⟨v, putS_get j v vs, r⟩
  · have e1 : (putE i y fs)[j]? = (fs ++ List.replicate (i + 1 - fs.length) none)[j]? := List.getElem?_set_ne (Ne.symm hj)
    rw [e1] at hz
    have e2 : fs[j]? = some (some z) := by
      by_cases hl : j < fs.length
      · rw [List.getElem?_append_left hl] at hz; exact hz
      · rw [List.getElem?_append_right (by omega), List.getElem?_replicate] at hz
        split at hz <;> cases hz
    obtain ⟨u, hu, ru⟩ := ro j z e2
    exact ⟨u, (putS_ne hj).mpr hu, ru⟩
theorem pxs_fld {p : Addr} (sc : SCls X.K (ca c)) (sl : Slot1 X.K (ca c) fl p i) (ho : PX X ca W o fo) (hv : PX X ca W e fv) (hs : swapsWith e (some (.Attribute o fl pos')) pos.line X.env = pure false := by rfl) : PXS X ca W (.Assign [.Attribute o fl pos'] e pos) (sFld c i fo fv) := by
  refine PS.imp (ps_sl ho hv hs) fun D σ H ⟨ν, ρ, h, A, E, P⟩ => ?_
  refine ⟨ν, ρ, h, A, E, (sThen_post E P).mono fun ν1 H1 h1 y e1 A1 P1 v rv => ⟨ν1, ρ, h1, A1, E.ext e1, (sThen_post (E.ext e1) P1).mono fun ν2 H2 h2 x e2 A2 P2 u ru => ?_⟩⟩
  have P3 := sThen_post ((E.ext e1).ext e2) P2
  obtain ⟨n, a, dx, vs, fs, rfl, rfl, hn, en, hs, hd, ro, P4⟩ := mIns_post (W := W) A2 ru P3
  have ne : dx ≠ a := by
    rintro rfl
    rcases hs with ⟨h1, _⟩ | ⟨h1, _⟩
    · rcases hd with h2 | h2 <;> (rw [h1] at h2; cases h2)
    · rcases hd with h2 | h2 <;> (rw [h1] at h2; unfold SlO at h2; cases h2)
  refine ⟨a, ca c, dx, p, vs, i, rfl, hs, sc, sl, ?_⟩
  have wr : Ext ν2 ν2 H2 (slH H2 a (ca c) dx (putS i v vs)) ∧ Ab X.K ca ν2 (h2.put n (.ins c (putE i y fs))) (slH H2 a (ca c) dx (putS i v vs)) := by
    refine A2.wr hn (fun b hb => ?_) (fun b hb => ?_) fun x => ?_
    · rw [en] at hb
      exact slH_ne (fun z => hb (by rw [z]; exact List.mem_cons_self)) fun z => hb (by rw [z]; exact List.mem_cons_of_mem _ List.mem_cons_self)
    · rw [en] at hb
      rcases List.mem_cons.mp hb with rfl | hb
      · unfold slH; rw [upd_same]; exact fun z => nomatch z
      · rw [List.mem_singleton.mp hb]; unfold slH; rw [upd_ne ne, upd_same]; exact fun z => nomatch z
    · rw [en]
      refine ⟨a, dx, putS i v vs, rfl, ⟨slH_slt ne, .inr (by unfold slH; rw [upd_ne ne, upd_same])⟩, ?_⟩
      exact (ro.put (rv.ext e2) i).mon x.toMon
  have P5 := P4 ν2 _ wr.1 wr.2
  exact Post.ret P5 wr.2 σ (((E.ext e1).ext e2).ext wr.1)
theorem px_meth {pl : Sem Bool} (sc : SCls X.K (ca c)) (hm : Meth X.K (ca c) m f) (Fn : FnX X.prog X.w X.K X.mg X.base ca k f F) (hr : Room k X.A) (tk : Takes X W) (ho : PX X ca W o fo) (ha : PXA X ca W (e :: es) ra)
    (hst : starEach (e :: es) X.env = (false, eval e X.env) :: starEach es X.env := by rfl) (hpl : (backTo pos (starEach es X.env)).any (·.1) = false := by rfl)
    (ht : eval (.Call (.Attribute o m apos) (e :: es) [] pos) X.env = (do
      let ov ← eval o X.env
      standAt apos.atName
      let (f, first) ← holding [ov] (getMethod ov m pl)
      callWith pos f first (backTo pos (starEach (e :: es) X.env)) (backToKw pos (keywordEach [] X.env))) := by rfl) :
    PX X ca W (.Call (.Attribute o m apos) (e :: es) [] pos) (eMet c F fo ra) := by
  refine ⟨fun pins s σ H Q I ⟨ν, ρ, h, A, E, P⟩ => ?_⟩
  refine PySem.W.methodCall_KW (pl := pl) (thn (ho.run pins s σ H _ I ⟨ν, ρ, h, A, E, (Post.bind P).mono fun ν1 H1 h1 px e1 A1 P1 v rv => (⟨ν1, h1, px, A1, E.ext e1, rv, P1⟩ : ∃ ν1 h1 px, Ab X.K ca ν1 h1 H1 ∧ EnvR X.K ν1 H1 ρ σ ∧ Rep X.K ν1 H1 px v ∧ Post X.K ca W σ ν1 H1 (((mIns c px fun _ _ => M.ret ()).bind fun _ => (ra ρ).bind fun xs => F (px :: xs)) h1) fun ν' H' _ x => ∀ v, Rep X.K ν' H' x v → Q v H')⟩) fun u s1 ⟨x, H1, I1, rx, ν1, h1, px, A1, E1, rp, P1⟩ => ?_) ht
  obtain ⟨n, a, dx, vs, fs, rfl, rfl, hn, en, hs, hd, ro, P2⟩ := mIns_post A1 rp (Post.bind P1)
  cases rx
  refine getmethsl_ok I1 hs sc hm ?_
  have P3 := Post.ret P2 A1
  refine PySem.W.callWith_K (first := [.ref a]) (h₀ := X.base) I.ok.mod.kin hm.kp (thn (ha.run pos pins s1 σ H1 _ I1 ⟨ν1, ρ, h1, A1, E1, (Post.bind P3).mono fun ν2 H2 h2 xs e2 A2 P4 ws rws => (⟨ν2, h2, xs, A2, rp.ext e2, rws, P4⟩ : ∃ ν2 h2 xs, Ab X.K ca ν2 h2 H2 ∧ Rep X.K ν2 H2 (.ref n) (.ref a) ∧ RepL X.K ν2 H2 xs ws ∧ Post X.K ca W σ ν2 H2 (F (.ref n :: xs) h2) fun ν' H' _ x => ∀ v, Rep X.K ν' H' x v → Q v H')⟩) fun us s2 ⟨ws, H2, I2, r, ν2, h2, xs, A2, r2, rws, P4⟩ => ⟨I2.kIn, ?_⟩) hst hpl
  exact wpAny_call (call_x (us := .ref a :: us) (vs := .ref a :: ws) Fn hr tk I2 (.cons rfl r) A2 (.cons r2 rws) P4)
theorem px_meth0 {pl : Sem Bool} (sc : SCls X.K (ca c)) (hm : Meth X.K (ca c) m f) (Fn : FnX X.prog X.w X.K X.mg X.base ca k f F) (hr : Room k X.A) (tk : Takes X W) (ho : PX X ca W o fo)
    (ht : eval (.Call (.Attribute o m apos) [] [] pos) X.env = (do
      let ov ← eval o X.env
      standAt apos.atName
      let (f, first) ← holding [ov] (getMethod ov m pl)
      callWith pos f first (backTo pos (starEach [] X.env)) (backToKw pos (keywordEach [] X.env))) := by rfl) :
    PX X ca W (.Call (.Attribute o m apos) [] [] pos) (eMet c F fo aNil) := by
  refine ⟨fun pins s σ H Q I ⟨ν, ρ, h, A, E, P⟩ => ?_⟩
  refine PySem.W.methodCall_KW (pl := pl) (thn (ho.run pins s σ H _ I ⟨ν, ρ, h, A, E, (Post.bind P).mono fun ν1 H1 h1 px e1 A1 P1 v rv => (⟨ν1, h1, px, A1, E.ext e1, rv, P1⟩ : ∃ ν1 h1 px, Ab X.K ca ν1 h1 H1 ∧ EnvR X.K ν1 H1 ρ σ ∧ Rep X.K ν1 H1 px v ∧ Post X.K ca W σ ν1 H1 (((mIns c px fun _ _ => M.ret ()).bind fun _ => (aNil ρ).bind fun xs => F (px :: xs)) h1) fun ν' H' _ x => ∀ v, Rep X.K ν' H' x v → Q v H')⟩) fun u s1 ⟨x, H1, I1, rx, ν1, h1, px, A1, E1, rp, P1⟩ => ?_) ht
  obtain ⟨n, a, dx, vs, fs, rfl, rfl, hn, en, hs, hd, ro, P2⟩ := mIns_post A1 rp (Post.bind P1)
  cases rx
  refine getmethsl_ok I1 hs sc hm ?_
  have P3 : Post X.K ca W σ ν1 H1 (F (.ref n :: []) h1) fun ν' H' _ x => ∀ v, Rep X.K ν' H' x v → Q v H' := Post.ret P2 A1
  exact PySem.W.callWith_K0 (first := [.ref a]) I1.kIn hm.kp (wpAny_call (call_x (us := [.ref a]) (vs := [.ref a]) Fn hr tk I1 (.cons rfl .nil) A1 (.cons rp .nil) P3))
end
end
/-- a def's meaning by its body: n slots, m parameters that are given, the others' defaults -/
def defB (n m : Nat) (dxs : List PV) (b : SF) : FF := fun xs => if xs.length = m then runB n b (xs ++ dxs) else M.bad
section
variable {P : Program} {w : World} {K : PySem.W.Frag} {mg : Str → Option Value} {base : Heap} {ca : Ca}
theorem body_read {K : PySem.W.Frag} {n : Nat} {g : SF} {vs : List V} {H : Hp} {Q : VK} {E : XK} {ν : Nu} {h : MH} {xs : List PV} {σ : L2.St} (A : Ab K ca ν h H) (r : RepL K ν H xs vs)
    (p : Post K ca (fun c d _ H => E c d H) σ ν H (runB n g xs h) fun ν' H' _ x => ∀ v, Rep K ν' H' x v → Q v H') {N : List Str} (hN : N.length = n) : tS ca (fun c d _ H => E c d H) K g { nx := fun _ H' => Q .non H', rt := Q } (L2.start N vs) H := by
  subst hN
  refine ⟨ν, xs.map some ++ List.replicate (N.length - xs.length) none, h, A, ⟨?_, ?_⟩, ?_⟩
  · unfold L2.start
    rw [List.length_append, List.length_append, List.length_map, List.length_map, List.length_replicate, List.length_replicate, r.length]
  · intro i x hx
    have hi : i < xs.length := by
      by_cases hi : i < xs.length
      · exact hi
      · rw [List.getElem?_append_right (by rw [List.length_map]; omega), List.getElem?_replicate] at hx
        split at hx <;> cases hx
    rw [List.getElem?_append_left (by rw [List.length_map]; exact hi), List.getElem?_map] at hx
    cases ex : xs[i]? with
    | none => rw [ex] at hx; cases hx
    | some y =>
      rw [ex] at hx
      have : y = x := by simpa using hx
      subst this
      obtain ⟨v, hv, rv⟩ := r.get ex
      refine ⟨v, ?_, rv⟩
      unfold L2.start
      rw [List.getElem?_append_left (by rw [List.length_map, ← r.length]; exact hi), List.getElem?_map, hv]
      rfl
  · unfold runB at p
    have q := noX_post (W' := W0) (σ' := σ) (Post.bind p)
    refine q.mono fun ν1 H1 h1 o e1 A1 q1 => ?_
    cases o with
    | nx ρ => exact fun σ' _ => Post.ret q1 A1 _ .non
    | rt x => exact fun v rv => Post.ret q1 A1 v rv
    | bk ρ => exact q1.elim
    | ct ρ => exact q1.elim
    | xc c x ρ => exact fun σ' d v _ hd rv => q1 ν1 H1 d v (Ext.refl _ _) A1 hd rv
/-- THE RULE: a def by its body. F: the def stands; b: how its arguments bind, the last ones by the defaults ds -/
theorem fnX_of {name qual : Str} {params : Arguments} {body : List Stmt} {scope : Scope} {dvs : List V} {kws : List (Str × V)} {f : Addr} {fd : FuncData} {N ps : List Str} {k m : Nat} {g : SF} {ds : List Value} {dws : List V} {dxs : List PV}
    (Fd : FunD K name qual params body scope dvs kws f fd) (S : FnScope N ps scope) (b : Binds K fd ps ds) (hd : Vals dws ds) (hx : ∀ ν H, RepL K ν H dxs dws) (hm : m + dxs.length = ps.length)
    (hb : ∀ (cdv : Value) (A : Around) (outer : List PySem.Env) (s : Shared) (H : Hp) (E : XK), Room k (A.deeper (envOfC qual scope s.heap.objs.size f cdv)) → Takes (cxOf (L2.CX P w) P w K mg base N qual scope f cdv A outer s H E) (fun c d _ H => E c d H) →
      PassesOwn (model P w) (A.deeper (envOfC qual scope s.heap.objs.size f cdv)) (envOfC qual scope s.heap.objs.size f cdv) (cxOf (L2.CX P w) P w K mg base N qual scope f cdv A outer s H E).xe →
      PXSs (cxOf (L2.CX P w) P w K mg base N qual scope f cdv A outer s H E) ca (fun c d _ H => E c d H) body g) : FnX P w K mg base ca (k + 1) f (defB N.length m dxs g) := by
  have ok : FnOk P w K mg base (L2.CX P w) (k + 1) f fd ps (fun vs H Q E => vs.length = ps.length ∧ ∃ ν h xs, Ab K ca ν h H ∧ RepL K ν H xs vs ∧ Post K ca (fun c d _ H => E c d H) [] ν H (runB N.length g xs h) fun ν' H' _ x => ∀ v, Rep K ν' H' x v → Q v H') := by
    refine Fd.ok S (fun vs H Q E h => h.1) fun cdv A outer s H vs Q E hr h => ?_
    obtain ⟨hl, ν, hp, xs, A1, r, p⟩ := h
    exact ⟨_, hb cdv A outer s H E hr (takes_of rfl rfl rfl rfl) (passes_of (X := cxOf (L2.CX P w) P w K mg base N qual scope f cdv A outer s H E) rfl), body_read A1 r p rfl⟩
  refine ⟨(ok.raw b hd).imp fun vs H Q E ⟨ν, hp, xs, A, r, p⟩ => ?_, Fd.kp⟩
  unfold defB at p
  by_cases hl : xs.length = m
  · rw [if_pos hl] at p
    refine ⟨?_, ν, hp, xs ++ dxs, A, r.append (hx ν H), p⟩
    rw [List.length_append, ← r.length, ← (hx ν H).length, hl, hm]
  · rw [if_neg hl] at p
    exact p.elim
end
end FX

set_option Elab.async false
set_option linter.all false
set_option maxRecDepth 100000
set_option maxHeartbeats 2000000
namespace FX
open PySem PySem.Spec PyProof.Rows L2 SlX
/-- plain data of depth below n -/
def okD : Nat → PV → Bool
  | _, .non => true
  | _, .bl _ => true
  | _, .int _ => true
  | _, .str x => x.all fun c => decide (c < 0x110000)
  | n + 1, .tup xs => xs.all (okD n)
  | _, _ => false
def pdOf : Nat → PV → PyData
  | _, .bl b => .bool b
  | _, .int i => .int i
  | _, .str x => .str (mkS x)
  | n + 1, .tup xs => .tuple (xs.map (pdOf n))
  | _, _ => .none
def eqL : List Nat → List Nat → Bool
  | [], [] => true
  | a :: x, b :: y => Nat.beq a b && eqL x y
  | _, _ => false
mutual
/-- == of data -/
def eqv : PV → PV → Bool
  | .non, .non => true
  | .bl a, .bl b => a == b
  | .bl a, .int j => (if a then 1 else 0) == j
  | .int i, .bl b => i == (if b then 1 else 0)
  | .int i, .int j => decide (i = j)
  | .str x, .str y => eqL x y
  | .tup xs, .tup ys => eqvL xs ys
  | _, _ => false
def eqvL : List PV → List PV → Bool
  | [], [] => true
  | x :: xs, y :: ys => eqv x y && eqvL xs ys
  | _, _ => false
end
theorem eqL_iff : ∀ {x y : List Nat}, eqL x y = true ↔ x = y
  | [], [] => by simp [eqL]
  | [], _ :: _ => by simp [eqL]
  | _ :: _, [] => by simp [eqL]
  | a :: x, b :: y => by
    unfold eqL
    rw [Bool.and_eq_true, eqL_iff (x := x) (y := y), Nat.beq_eq]
    simp
theorem eqL_dec (x y : List Nat) : eqL x y = decide (x = y) := by
  by_cases h : x = y
  · rw [decide_eq_true h]; exact eqL_iff.mpr h
  · rw [decide_eq_false h]
    cases e : eqL x y
    · rfl
    · exact absurd (eqL_iff.mp e) h
theorem mkS_inj {x y : List Nat} (h : mkS x = mkS y) : x = y := by
  unfold mkS at h
  injection h with h
  simpa using congrArg Array.toList h
theorem mkS_eq {x y : List Nat} : (mkS x == mkS y) = eqL x y := by
  rw [eqL_dec]
  by_cases h : x = y
  · subst h; simp
  · rw [decide_eq_false h]
    exact beq_eq_false_iff_ne.mpr fun e => h (mkS_inj e)
section
variable {K : PySem.W.Frag} {ν : Nu} {H : Hp}
theorem strOk_of {x : List Nat} (h : (x.all fun c => decide (c < 0x110000)) = true) : PyData.strOk (mkS x) = true := by
  unfold PyData.strOk mkS
  simp only [List.all_toArray]
  exact h
mutual
theorem dp_of : ∀ (n : Nat) (x : PV) (v : V), okD n x = true → Rep K ν H x v → Dp K H v (pdOf n x)
  | 0, .non, _, _, .non => .non
  | _ + 1, .non, _, _, .non => .non
  | 0, .bl b, _, _, .bl => .bl _
  | _ + 1, .bl b, _, _, .bl => .bl _
  | 0, .int b, _, _, .int => .int _
  | _ + 1, .int b, _, _, .int => .int _
  | 0, .str b, _, _, .str => .str _
  | _ + 1, .str b, _, _, .str => .str _
  | n + 1, .tup xs, _, h, .tup q r => .tup (.of q) (dpL_of n xs _ (by simpa [okD] using h) r)
theorem dpL_of : ∀ (n : Nat) (xs : List PV) (vs : List V), (∀ x ∈ xs, okD n x = true) → RepL K ν H xs vs → DpAll K H vs (xs.map (pdOf n))
  | _, [], _, _, .nil => .nil
  | n, x :: xs, _, h, .cons r t => .cons (dp_of n x _ (h x List.mem_cons_self) r) (dpL_of n xs _ (fun y hy => h y (List.mem_cons_of_mem _ hy)) t)
end
mutual
theorem lay_of : ∀ (n : Nat) (x : PV), okD n x = true → (pdOf n x).canLay0 = true ∧ (pdOf n x).depth ≤ n
  | 0, .non, _ => ⟨rfl, Nat.zero_le _⟩
  | _ + 1, .non, _ => ⟨rfl, Nat.zero_le _⟩
  | 0, .bl b, _ => ⟨rfl, Nat.zero_le _⟩
  | _ + 1, .bl b, _ => ⟨rfl, Nat.zero_le _⟩
  | 0, .int b, _ => ⟨rfl, Nat.zero_le _⟩
  | _ + 1, .int b, _ => ⟨rfl, Nat.zero_le _⟩
  | 0, .str b, h => ⟨strOk_of (by simpa [okD] using h), Nat.zero_le _⟩
  | _ + 1, .str b, h => ⟨strOk_of (by simpa [okD] using h), Nat.zero_le _⟩
  | n + 1, .tup xs, h => by
    obtain ⟨h1, h2⟩ := layL_of n xs (by simpa [okD] using h)
    exact ⟨h1, Nat.succ_le_succ h2⟩
  | 0, .tup xs, h => by simp [okD] at h
  | 0, .ref _, h => by simp [okD] at h
  | 0, .ty _, h => by simp [okD] at h
  | 0, .kl _ _, h => by simp [okD] at h
  | _ + 1, .ref _, h => by simp [okD] at h
  | _ + 1, .ty _, h => by simp [okD] at h
  | _ + 1, .kl _ _, h => by simp [okD] at h
theorem layL_of : ∀ (n : Nat) (xs : List PV), (∀ x ∈ xs, okD n x = true) → PyData.canLayAll0 (xs.map (pdOf n)) = true ∧ PyData.depthAll (xs.map (pdOf n)) ≤ n
  | _, [], _ => ⟨rfl, Nat.zero_le _⟩
  | n, x :: xs, h => by
    obtain ⟨h1, h2⟩ := lay_of n x (h x List.mem_cons_self)
    obtain ⟨h3, h4⟩ := layL_of n xs fun y hy => h y (List.mem_cons_of_mem _ hy)
    refine ⟨?_, Nat.max_le.mpr ⟨h2, h4⟩⟩
    show ((pdOf n x).canLay0 && PyData.canLayAll0 (xs.map (pdOf n))) = true
    rw [h1, h3]; rfl
end
theorem shaped_of {n : Nat} {x : PV} (h : okD n x = true) (hn : n ≤ 64) : SeqAt.shaped (pdOf n x) = true := by
  obtain ⟨h1, h2⟩ := lay_of n x h
  unfold SeqAt.shaped
  rw [h1, decide_eq_true (Nat.le_trans h2 hn)]; rfl
mutual
theorem eqv_of : ∀ (n : Nat) (x y : PV), okD n x = true → okD n y = true → PyData.eqv (pdOf n x) (pdOf n y) = eqv x y
  | n, x, y, hx, hy => by
    cases x with
    | non => cases y <;> cases n <;> first | rfl | simp [okD] at hy
    | bl a => cases y <;> cases n <;> first | rfl | simp [okD] at hy
    | int i =>
      cases y with
      | int j =>
        have e : PyData.eqv (.int i) (.int j) = decide (i = j) := by
          show (i == j) = decide (i = j)
          rw [Bool.beq_eq_decide_eq]
        cases n <;> exact e
      | _ => cases n <;> first | rfl | simp [okD] at hy
    | str a =>
      cases y with
      | str b =>
        have e : PyData.eqv (.str (mkS a)) (.str (mkS b)) = eqL a b := mkS_eq
        cases n <;> exact e
      | _ => cases n <;> first | rfl | simp [okD] at hy
    | tup xs =>
      cases n with
      | zero => simp [okD] at hx
      | succ n =>
        cases y with
        | tup ys => exact eqvL_of n xs ys (by simpa [okD] using hx) (by simpa [okD] using hy)
        | _ => first | rfl | simp [okD] at hy
    | ref _ => cases n <;> simp [okD] at hx
    | ty _ => cases n <;> simp [okD] at hx
    | kl _ _ => cases n <;> simp [okD] at hx
theorem eqvL_of : ∀ (n : Nat) (xs ys : List PV), (∀ x ∈ xs, okD n x = true) → (∀ y ∈ ys, okD n y = true) → PyData.eqvAll (xs.map (pdOf n)) (ys.map (pdOf n)) = eqvL xs ys
  | _, [], [], _, _ => rfl
  | _, [], _ :: _, _, _ => rfl
  | _, _ :: _, [], _, _ => rfl
  | n, x :: xs, y :: ys, hx, hy => by
    show (PyData.eqv (pdOf n x) (pdOf n y) && PyData.eqvAll (xs.map (pdOf n)) (ys.map (pdOf n))) = (eqv x y && eqvL xs ys)
    rw [eqv_of n x y (hx x List.mem_cons_self) (hy y List.mem_cons_self), eqvL_of n xs ys (fun z hz => hx z (List.mem_cons_of_mem _ hz)) fun z hz => hy z (List.mem_cons_of_mem _ hz)]
end
end
def lim : Nat := 10000000
def pEq : PV → PV → M PV := fun x y => if okD 40 x && okD 40 y then M.ret (.bl (eqv x y)) else M.bad
def pNe : PV → PV → M PV := fun x y => if okD 40 x && okD 40 y then M.ret (.bl (!eqv x y)) else M.bad
def pLt : PV → PV → M PV
  | .int i, .int j => M.ret (.bl (decide (i < j)))
  | _, _ => M.bad
def pLe : PV → PV → M PV
  | .int i, .int j => M.ret (.bl (decide (i ≤ j)))
  | _, _ => M.bad
def pGt : PV → PV → M PV
  | .int i, .int j => M.ret (.bl (decide (j < i)))
  | _, _ => M.bad
def pGe : PV → PV → M PV
  | .int i, .int j => M.ret (.bl (decide (j ≤ i)))
  | _, _ => M.bad
def isNon : PV → Bool
  | .non => true
  | _ => false
def pIsN : PV → PV → M PV
  | x, .non => M.ret (.bl (isNon x))
  | _, _ => M.bad
def pNotN : PV → PV → M PV
  | x, .non => M.ret (.bl (!isNon x))
  | _, _ => M.bad
/-- a list or a tuple -/
def mSeq {α : Type} (x : PV) (k : List PV → M α) : M α := match x with
  | .tup xs => k xs
  | .kl _ xs => k xs
  | .ref n => mAt n fun o => match o with
    | .lst xs => k xs
    | _ => M.bad
  | _ => M.bad
/-- a list -/
def mLst {α : Type} (x : PV) (k : List PV → M α) : M α := match x with
  | .kl _ xs => k xs
  | .ref n => mAt n fun o => match o with
    | .lst xs => k xs
    | _ => M.bad
  | _ => M.bad
/-- a list that may be changed -/
def mMut {α : Type} (x : PV) (k : Nat → List PV → M α) : M α := match x with
  | .ref n => mAt n fun o => match o with
    | .lst xs => k n xs
    | _ => M.bad
  | _ => M.bad
def pAdd : PV → PV → M PV
  | .int i, .int j => M.ret (.int (i + j))
  | .tup xs, .tup ys => if xs.length + ys.length ≤ lim then M.ret (.tup (xs ++ ys)) else M.bad
  | .str x, .str y => if x.length + y.length ≤ lim then M.ret (.str (x ++ y)) else M.bad
  | x, y => mMut x fun _ xs => mMut y fun _ ys => if xs.length + ys.length ≤ lim then mNew (.lst (xs ++ ys)) else M.bad
def pSub : PV → PV → M PV
  | .int i, .int j => M.ret (.int (i - j))
  | _, _ => M.bad
def smallI (i : Int) : Bool := decide (-(2 ^ 64) < i ∧ i < 2 ^ 64)
def pMul : PV → PV → M PV
  | .int i, .int j => if smallI i || smallI j then M.ret (.int (i * j)) else M.bad
  | _, _ => M.bad
def pDiv : PV → PV → M PV
  | .int i, .int j => if decide (0 < j ∧ j < 1073741824) then M.ret (.int (i / j)) else M.bad
  | _, _ => M.bad
def pMod : PV → PV → M PV
  | .int i, .int j => if decide (0 < j) then M.ret (.int (i % j)) else M.bad
  | _, _ => M.bad
def pPow : PV → PV → M PV
  | .int i, .int j => if decide (0 ≤ j ∧ (Builtin.Int.intBits i : Int) * j ≤ 2 ^ 27) then M.ret (.int (i ^ j.toNat)) else M.bad
  | _, _ => M.bad
def pNeg : PV → M PV
  | .int i => M.ret (.int (-i))
  | _ => M.bad
def pLen : FF := fun xs => match xs with
  | [.str y] => if y.length ≤ lim then M.ret (.int y.length) else M.bad
  | [x] => mSeq x fun ys => M.ret (.int ys.length)
  | _ => M.bad
def pAbs : FF := fun xs => match xs with
  | [.int i] => M.ret (.int (if i < 0 then -i else i))
  | _ => M.bad
def pMax2 : FF := fun xs => match xs with
  | [.int i, .int j] => M.ret (.int (if j > i then j else i))
  | _ => M.bad
def pMin2 : FF := fun xs => match xs with
  | [.int i, .int j] => M.ret (.int (if j < i then j else i))
  | _ => M.bad
def pInt : FF := fun xs => match xs with
  | [.int i] => M.ret (.int i)
  | [.bl b] => M.ret (.int (if b then 1 else 0))
  | _ => M.bad
def toBs : List PV → Option (List Bool)
  | [] => some []
  | .bl b :: xs => (toBs xs).map (b :: ·)
  | _ :: _ => none
def pAll : FF := fun xs => match xs with
  | [x] => mLst x fun ys => match toBs ys with
    | some bs => M.ret (.bl (bs.all id))
    | none => M.bad
  | _ => M.bad
def pAny : FF := fun xs => match xs with
  | [x] => mLst x fun ys => match toBs ys with
    | some bs => M.ret (.bl (bs.any id))
    | none => M.bad
  | _ => M.bad
def pTuple : FF := fun xs => match xs with
  | [.tup ys] => M.ret (.tup ys)
  | [x] => mLst x fun ys => M.ret (.tup ys)
  | _ => M.bad
def pList : FF := fun xs => match xs with
  | [x] => mSeq x fun ys => mNew (.lst ys)
  | _ => M.bad
/-- xs[i] -/
def pIx : PV → PV → M PV := fun x y => match y with
  | .int i => mSeq x fun xs => match atI xs i with
    | some z => M.ret z
    | none => M.bad
  | _ => M.bad
def mApp : FF := fun xs => match xs with
  | [x, y] => mMut x fun n ys => if ys.length < lim then (mPut n (.lst (ys ++ [y]))).bind fun _ => M.ret .non else M.bad
  | _ => M.bad
def mExt : FF := fun xs => match xs with
  | [x, y] => mMut x fun n ys => mMut y fun _ zs => if ys.length + zs.length ≤ lim then (mPut n (.lst (ys ++ zs))).bind fun _ => M.ret .non else M.bad
  | _ => M.bad
/-- xs[i] = v -/
def stIx : PV → PV → PV → M Unit := fun x y v => match y with
  | .int i => mMut x fun n xs => match ixN xs.length i with
    | some j => mPut n (.lst (xs.set j v))
    | none => M.bad
  | _ => M.bad
/-- isinstance with a built-in class -/
def isTy (T : String) : PV → MH → Bool := fun x h => match x with
  | .bl _ => T == "bool" || T == "int"
  | .int _ => T == "int"
  | .str _ => T == "str"
  | .tup _ => T == "tuple"
  | .kl _ _ => T == "list"
  | .ref n => (match h.get n with
    | some (.lst _) => T == "list"
    | some (.dct _) => T == "dict"
    | _ => false)
  | _ => false
def pIsi (T : String) : FF := fun xs => match xs with
  | [x, _] => fun h => .ok (.bl (isTy T x h)) h
  | _ => M.bad
section
variable {K : PySem.W.Frag} {ca : Ca} {W : WX} {σ : L2.St} {ν : Nu} {H : Hp} {h : MH} {α : Type}
theorem mAt_none {n : Nat} {f : MO → M α} (e : h.get n = none) : mAt n f h = .bad := by unfold mAt; rw [e]
theorem mAt_post {n : Nat} {f : MO → M α} {Φ : Nu → Hp → MH → α → Prop} (P : Post K ca W σ ν H (mAt n f h) Φ) : ∃ o, h.get n = some o ∧ Post K ca W σ ν H (f o h) Φ := by
  cases ho : h.get n with
  | none => rw [mAt_none ho] at P; exact P.elim
  | some o => rw [mAt_ok ho] at P; exact ⟨o, rfl, P⟩
theorem mSeq_post {x : PV} {v : V} {k : List PV → M α} {Φ : Nu → Hp → MH → α → Prop} (A : Ab K ca ν h H) (r : Rep K ν H x v) (P : Post K ca W σ ν H (mSeq x k h) Φ) :
    ∃ a xs vs, v = .ref a ∧ (SqL K H a vs ∨ SqT K H a vs) ∧ RepL K ν H xs vs ∧ Post K ca W σ ν H (k xs h) Φ := by
  cases r with
  | @tup xs a vs q r => exact ⟨a, xs, vs, rfl, .inr (.of q), r, P⟩
  | @kl a xs vs q r => exact ⟨a, xs, vs, rfl, .inl q.sq, r, P⟩
  | @ref n a l e =>
    unfold mSeq at P
    obtain ⟨o, ho, P⟩ := mAt_post P
    have q := A.at_ _ o ho
    rw [e] at q
    cases o with
    | lst xs =>
      obtain ⟨a', vs, e1, e2, rl⟩ := q
      cases e1
      exact ⟨_, xs, vs, rfl, .inl (.of e2), rl, P⟩
    | _ => exact P.elim
  | _ => exact P.elim
theorem mLst_post {x : PV} {v : V} {k : List PV → M α} {Φ : Nu → Hp → MH → α → Prop} (A : Ab K ca ν h H) (r : Rep K ν H x v) (P : Post K ca W σ ν H (mLst x k h) Φ) :
    ∃ a xs vs, v = .ref a ∧ SqL K H a vs ∧ RepL K ν H xs vs ∧ Post K ca W σ ν H (k xs h) Φ := by
  cases r with
  | @kl a xs vs q r => exact ⟨a, xs, vs, rfl, q.sq, r, P⟩
  | @ref n a l e =>
    unfold mLst at P
    obtain ⟨o, ho, P⟩ := mAt_post P
    have q := A.at_ _ o ho
    rw [e] at q
    cases o with
    | lst xs =>
      obtain ⟨a', vs, e1, e2, rl⟩ := q
      cases e1
      exact ⟨_, xs, vs, rfl, .of e2, rl, P⟩
    | _ => exact P.elim
  | _ => exact P.elim
theorem mMut_post {x : PV} {v : V} {k : Nat → List PV → M α} {Φ : Nu → Hp → MH → α → Prop} (A : Ab K ca ν h H) (r : Rep K ν H x v) (P : Post K ca W σ ν H (mMut x k h) Φ) :
    ∃ n a xs vs, x = .ref n ∧ v = .ref a ∧ h.get n = some (.lst xs) ∧ ν n = [a] ∧ H a = some (.lst vs) ∧ RepL K ν H xs vs ∧ Post K ca W σ ν H (k n xs h) Φ := by
  cases r with
  | @ref n a l e =>
    unfold mMut at P
    obtain ⟨o, ho, P⟩ := mAt_post P
    have q := A.at_ _ o ho
    rw [e] at q
    cases o with
    | lst xs =>
      obtain ⟨a', vs, e1, e2, rl⟩ := q
      cases e1
      exact ⟨n, _, xs, vs, rfl, rfl, ho, e, e2, rl, P⟩
    | _ => exact P.elim
  | _ => exact P.elim
/-- a list written -/
theorem wr_lst {n : Nat} {a : Addr} {xs ys : List PV} {vs : List V} (A : Ab K ca ν h H) (ho : h.get n = some (.lst xs)) (e : ν n = [a]) (r : RepL K ν H ys vs) : Ext ν ν H (upd H a (.lst vs)) ∧ Ab K ca ν (h.put n (.lst ys)) (upd H a (.lst vs)) := by
  refine A.wr ho (fun b hb => ?_) (fun b hb => ?_) fun x => ?_
  · rw [e] at hb
    exact upd_ne fun z => hb (by rw [z]; exact List.mem_cons_self)
  · rw [e] at hb
    rw [List.mem_singleton.mp hb, upd_same]; exact fun z => nomatch z
  · rw [e]
    exact ⟨a, vs, rfl, upd_same, r.ext x⟩
theorem RepL.atI {xs : List PV} {vs : List V} {i : Int} {z : PV} (r : RepL K ν H xs vs) (e : L2.atI xs i = some z) : ∃ u, L2.atI vs i = some u ∧ Rep K ν H z u := by
  unfold L2.atI at e ⊢
  rw [← r.length]
  cases q : ixN xs.length i with
  | none => rw [q] at e; cases e
  | some j =>
    rw [q] at e
    obtain ⟨u, hu, ru⟩ := r.get (show xs[j]? = some z from e)
    exact ⟨u, hu, ru⟩
theorem lim_line {n : Nat} (h : n ≤ lim) : n ≤ sizeLine := small_line h
theorem toBs_map : ∀ {xs : List PV} {bs : List Bool} {vs : List V}, toBs xs = some bs → RepL K ν H xs vs → vs = bs.map V.bl
  | [], _, _, e, .nil => by
    cases e; rfl
  | x :: xs, bs, _, e, .cons r t => by
    cases r with
    | @bl b =>
      cases q : toBs xs with
      | none => simp [toBs, q] at e
      | some bs' =>
        simp [toBs, q] at e
        subst e
        rw [toBs_map q t]
        rfl
    | _ => simp [toBs] at e
end
end FX

set_option Elab.async false
set_option linter.all false
set_option maxRecDepth 100000
set_option maxHeartbeats 2000000
namespace FX
open PySem PySem.Spec PyProof.Rows L2 SlX
def ckLst : PV → M Unit := fun x => mLst x fun _ => M.ret ()
def ckStr : PV → M Unit := fun x => match x with
  | .str _ => M.ret ()
  | _ => M.bad
def eBm (ck : PV → M Unit) (g : FF) (fo : EF) (ra : AF) : EF := fun ρ => (fo ρ).bind fun x => (ck x).bind fun _ => (ra ρ).bind fun xs => g (x :: xs)
def sSub (fo fi fv : EF) (st : PV → PV → PV → M Unit) : SF := fun ρ => sThen (fv ρ) ρ fun v => sThen (fo ρ) ρ fun o => sThen (fi ρ) ρ fun i => sThen (st o i v) ρ fun _ => M.ret (.nx ρ)
section
variable (X : Cx) (ca : Ca) (W : WX)
def CaM (f : Value) (g : FF) : Prop := ∀ pins s σ H ν h xs vs us Q, Inv X pins σ H s → Vals vs us → Ab X.K ca ν h H → RepL X.K ν H xs vs →
  Post X.K ca W σ ν H (g xs h) (fun ν' H' _ z => ∀ w, Rep X.K ν' H' z w → Q w H') → wpAny (model X.prog X.w) X.A (call f us) (EP X pins σ Q) X.xe s
def IxM (g : PV → PV → M PV) : Prop := ∀ (value slice : Expr) pins s σ H ν h x y xv yv v u Q, Inv X pins σ H s → RelV xv v → RelV yv u → Ab X.K ca ν h H → Rep X.K ν H x xv → Rep X.K ν H y yv →
  Post X.K ca W σ ν H (g x y h) (fun ν' H' _ z => ∀ w, Rep X.K ν' H' z w → Q w H') → subscripted slice false v u = operate [v, u] (getItem v u) → wpAny (model X.prog X.w) X.A (subscriptTail value slice v u) (EP X pins σ Q) X.xe s
def StM (st : PV → PV → PV → M Unit) : Prop := ∀ pins s σ H ν h x y z xv yv zv v u w (Q : Hp → Prop), Inv X pins σ H s → RelV xv v → RelV yv u → RelV zv w → Ab X.K ca ν h H → Rep X.K ν H x xv → Rep X.K ν H y yv → Rep X.K ν H z zv →
  Post X.K ca W σ ν H (st x y z h) (fun _ H' _ _ => Q H') → wpAny (model X.prog X.w) X.A (setItem v u w) (fun _ s' => ∃ H', Inv X pins σ H' s' ∧ Q H') X.xe s
end
section
variable {X : Cx} {ca : Ca} {W : WX}
theorem CaM.of {f : Value} {g : FF} {r : List V → Hp → VK → Prop} (h : CallR X f r) (hr : ∀ σ H ν hp xs vs Q, Ab X.K ca ν hp H → RepL X.K ν H xs vs → Post X.K ca W σ ν H (g xs hp) (fun ν' H' _ z => ∀ w, Rep X.K ν' H' z w → Q w H') → r vs H Q) : CaM X ca W f g :=
  fun pins s σ H ν hp xs vs us Q I rv A rx P => h pins s σ H vs us Q I rv (hr σ H ν hp xs vs Q A rx P)
theorem OpM.of {f : Value → Value → Sem Value} {g : PV → PV → M PV} {r : R2} (h : OpR X f r) (hr : ∀ σ H ν hp x y xv yv Q, Ab X.K ca ν hp H → Rep X.K ν H x xv → Rep X.K ν H y yv → Post X.K ca W σ ν H (g x y hp) (fun ν' H' _ z => ∀ w, Rep X.K ν' H' z w → Q w H') → r xv yv H Q) : OpM X ca W f g :=
  fun pins s σ H ν hp x y xv yv v u Q I rv ru A rx ry P => h pins s σ H xv yv v u Q I rv ru (hr σ H ν hp x y xv yv Q A rx ry P)
theorem om_eq (hu : X.A.units + 64 < cLine) : OpM X ca W (compareOp .Eq) pEq := OpM.of (op_eqD hu) fun σ H ν hp x y xv yv Q A rx ry P => by
  have P' : Post X.K ca W σ ν H ((if (okD 40 x && okD 40 y) = true then M.ret (.bl (eqv x y)) else M.bad : M PV) hp) (fun ν' H' _ z => ∀ w, Rep X.K ν' H' z w → Q w H') := P
  by_cases hc : (okD 40 x && okD 40 y) = true
  · rw [if_pos hc] at P'
    obtain ⟨h1, h2⟩ := Bool.and_eq_true_iff.mp hc
    refine ⟨_, _, dp_of 40 x xv h1 rx, dp_of 40 y yv h2 ry, shaped_of h1 (by decide), shaped_of h2 (by decide), ?_⟩
    rw [eqv_of 40 x y h1 h2]
    exact Post.ret P' A _ .bl
  · rw [if_neg hc] at P'
    exact P'.elim
theorem om_ne (hu : X.A.units + 64 < cLine) : OpM X ca W (compareOp .NotEq) pNe := OpM.of (op_neD hu) fun σ H ν hp x y xv yv Q A rx ry P => by
  have P' : Post X.K ca W σ ν H ((if (okD 40 x && okD 40 y) = true then M.ret (.bl (!eqv x y)) else M.bad : M PV) hp) (fun ν' H' _ z => ∀ w, Rep X.K ν' H' z w → Q w H') := P
  by_cases hc : (okD 40 x && okD 40 y) = true
  · rw [if_pos hc] at P'
    obtain ⟨h1, h2⟩ := Bool.and_eq_true_iff.mp hc
    refine ⟨_, _, dp_of 40 x xv h1 rx, dp_of 40 y yv h2 ry, shaped_of h1 (by decide), shaped_of h2 (by decide), ?_⟩
    rw [eqv_of 40 x y h1 h2]
    exact Post.ret P' A _ .bl
  · rw [if_neg hc] at P'
    exact P'.elim
theorem om_lt : OpM X ca W (compareOp .Lt) pLt := OpM.of op_lt fun σ H ν hp x y xv yv Q A rx ry P => by
  cases rx <;> cases ry <;> first | exact ⟨_, _, rfl, rfl, Post.ret P A _ .bl⟩ | exact P.elim
theorem om_le : OpM X ca W (compareOp .LtE) pLe := OpM.of op_le fun σ H ν hp x y xv yv Q A rx ry P => by
  cases rx <;> cases ry <;> first | exact ⟨_, _, rfl, rfl, Post.ret P A _ .bl⟩ | exact P.elim
theorem om_gt : OpM X ca W (compareOp .Gt) pGt := OpM.of op_gt fun σ H ν hp x y xv yv Q A rx ry P => by
  cases rx <;> cases ry <;> first | exact ⟨_, _, rfl, rfl, Post.ret P A _ .bl⟩ | exact P.elim
theorem om_ge : OpM X ca W (compareOp .GtE) pGe := OpM.of op_ge fun σ H ν hp x y xv yv Q A rx ry P => by
  cases rx <;> cases ry <;> first | exact ⟨_, _, rfl, rfl, Post.ret P A _ .bl⟩ | exact P.elim
theorem isNon_dec {K : PySem.W.Frag} {ν : Nu} {H : Hp} {x : PV} {v : V} (r : Rep K ν H x v) : decide (v = .non) = isNon x := by
  cases r <;> rfl
theorem om_isN : OpM X ca W (compareOp .Is) pIsN := OpM.of op_isN fun σ H ν hp x y xv yv Q A rx ry P => by
  cases ry with
  | non =>
    refine ⟨rfl, ?_⟩
    rw [isNon_dec rx]
    exact Post.ret (x := PV.bl (isNon x)) P A _ .bl
  | _ => exact P.elim
theorem om_notN : OpM X ca W (compareOp .IsNot) pNotN := OpM.of op_notN fun σ H ν hp x y xv yv Q A rx ry P => by
  cases ry with
  | non =>
    refine ⟨rfl, ?_⟩
    rw [isNon_dec rx]
    exact Post.ret (x := PV.bl (!isNon x)) P A _ .bl
  | _ => exact P.elim
theorem om_sub : OpM X ca W (binaryOp .Sub) pSub := OpM.of op_sub fun σ H ν hp x y xv yv Q A rx ry P => by
  cases rx <;> cases ry <;> first | exact ⟨_, _, rfl, rfl, Post.ret P A _ .int⟩ | exact P.elim
theorem post_if {α : Type} {K : PySem.W.Frag} {σ : L2.St} {ν : Nu} {H : Hp} {h : MH} {c : Bool} {m : M α} {Φ : Nu → Hp → MH → α → Prop} (P : Post K ca W σ ν H ((if c = true then m else M.bad : M α) h) Φ) : c = true ∧ Post K ca W σ ν H (m h) Φ := by
  cases c with
  | true => exact ⟨rfl, P⟩
  | false => exact P.elim
theorem post_ifp {α : Type} {K : PySem.W.Frag} {σ : L2.St} {ν : Nu} {H : Hp} {h : MH} {c : Prop} [Decidable c] {m : M α} {Φ : Nu → Hp → MH → α → Prop} (P : Post K ca W σ ν H ((if c then m else M.bad : M α) h) Φ) : c ∧ Post K ca W σ ν H (m h) Φ := by
  by_cases hc : c
  · rw [if_pos hc] at P; exact ⟨hc, P⟩
  · rw [if_neg hc] at P; exact P.elim
theorem om_mul : OpM X ca W (binaryOp .Mult) pMul := OpM.of op_mul fun σ H ν hp x y xv yv Q A rx ry P => by
  cases rx with
  | @int i =>
    cases ry with
    | @int j =>
      obtain ⟨hc, P'⟩ := post_if P
      refine ⟨i, j, rfl, rfl, ?_, Post.ret P' A _ .int⟩
      rcases Bool.or_eq_true_iff.mp hc with h | h
      · exact .inl (of_decide_eq_true h)
      · exact .inr (of_decide_eq_true h)
    | _ => exact P.elim
  | _ => exact P.elim
theorem om_div : OpM X ca W (binaryOp .FloorDiv) pDiv := OpM.of op_fdiv fun σ H ν hp x y xv yv Q A rx ry P => by
  cases rx with
  | @int i =>
    cases ry with
    | @int j =>
      obtain ⟨hc, P'⟩ := post_if P
      exact ⟨i, j, rfl, rfl, (show CDiv i j from of_decide_eq_true (p := 0 < j ∧ j < 1073741824) hc), Post.ret P' A _ .int⟩
    | _ => exact P.elim
  | _ => exact P.elim
theorem om_mod : OpM X ca W (binaryOp .Mod) pMod := OpM.of op_mod fun σ H ν hp x y xv yv Q A rx ry P => by
  cases rx with
  | @int i =>
    cases ry with
    | @int j =>
      obtain ⟨hc, P'⟩ := post_if P
      exact ⟨i, j, rfl, rfl, of_decide_eq_true hc, Post.ret P' A _ .int⟩
    | _ => exact P.elim
  | _ => exact P.elim
theorem op_powW : OpR X (binaryOp .Pow) (rI (fun i j => 0 ≤ j ∧ (Builtin.Int.intBits i : Int) * j ≤ 2 ^ 27) fun i j => .int (i ^ j.toNat)) := opI fun _ _ _ _ _ _ _ hc q => pow_int hc.1 hc.2 q
theorem om_pow : OpM X ca W (binaryOp .Pow) pPow := OpM.of op_powW fun σ H ν hp x y xv yv Q A rx ry P => by
  cases rx with
  | @int i =>
    cases ry with
    | @int j =>
      obtain ⟨hc, P'⟩ := post_if P
      exact ⟨i, j, rfl, rfl, of_decide_eq_true hc, Post.ret P' A _ .int⟩
    | _ => exact P.elim
  | _ => exact P.elim
theorem um_neg : UnM X ca W (unaryOp .USub) pNeg := fun pins s σ H ν h x xv v Q I rv A rx P => un_neg pins s σ H xv v Q I rv (by
  cases rx <;> first | exact ⟨_, rfl, Post.ret P A _ .int⟩ | exact P.elim)
theorem cat_lists {σ : L2.St} {ν : Nu} {H : Hp} {hp : MH} {x y : PV} {xv yv : V} {Q : VK} (A : Ab X.K ca ν hp H) (rx : Rep X.K ν H x xv) (ry : Rep X.K ν H y yv)
    (P : Post X.K ca W σ ν H ((mMut x fun _ xs => mMut y fun _ ys => if xs.length + ys.length ≤ lim then mNew (.lst (xs ++ ys)) else M.bad) hp) (fun ν' H' _ z => ∀ w, Rep X.K ν' H' z w → Q w H')) :
    ∃ a b vs us, xv = .ref a ∧ yv = .ref b ∧ H a = some (.lst vs) ∧ H b = some (.lst us) ∧ vs.length + us.length ≤ sizeLine ∧ ∀ p, H p = none → Q (.ref p) (upd H p (.lst (vs ++ us))) := by
  obtain ⟨_, a, xs, vs, rfl, rfl, _, _, q1, r1, P1⟩ := mMut_post A rx P
  obtain ⟨_, b, ys, us, rfl, rfl, _, _, q2, r2, P2⟩ := mMut_post A ry P1
  obtain ⟨hl, P3⟩ := post_ifp P2
  refine ⟨a, b, vs, us, rfl, rfl, q1, q2, by rw [← r1.length, ← r2.length]; exact lim_line hl, fun p hp => ?_⟩
  obtain ⟨q, r⟩ := new_lst A (r1.append r2) hp P3
  exact q _ r
theorem om_add : OpM X ca W (binaryOp .Add) pAdd := by
  intro pins s σ H ν hp x y xv yv v u Q I rv ru A rx ry P
  -- two lists
  have lists : (Post X.K ca W σ ν H ((mMut x fun _ xs => mMut y fun _ ys => if xs.length + ys.length ≤ lim then mNew (.lst (xs ++ ys)) else M.bad) hp) (fun ν' H' _ z => ∀ w, Rep X.K ν' H' z w → Q w H')) → wpAny (model X.prog X.w) X.A (binaryOp .Add v u) (EP X pins σ Q) X.xe s := fun P => by
    obtain ⟨a, b, vs, us, rfl, rfl, q1, q2, hz, q⟩ := cat_lists A rx ry P
    exact op_cat pins s σ H _ _ v u Q I rv ru ⟨a, b, vs, us, rfl, rfl, q1, q2, hz, q⟩
  cases rx with
  | @int i =>
    cases ry with
    | @int j => exact op_add pins s σ H _ _ v u Q I rv ru ⟨i, j, rfl, rfl, Post.ret P A _ .int⟩
    | _ => exact P.elim
  | @str i =>
    cases ry with
    | @str j =>
      obtain ⟨hl, P'⟩ := post_ifp P
      refine op_add_str pins s σ H _ _ v u Q I rv ru ⟨mkS i, mkS j, rfl, rfl, ?_, ?_⟩
      · show (i.toArray).size + (j.toArray).size ≤ sizeLine
        rw [List.size_toArray, List.size_toArray]
        exact lim_line hl
      · have e : mkS i ++ mkS j = mkS (i ++ j) := by
          unfold mkS
          show (⟨i.toArray ++ j.toArray⟩ : Str) = ⟨(i ++ j).toArray⟩
          simp
        rw [e]
        exact Post.ret P' A _ .str
    | _ => exact P.elim
  | @tup xs a vs q r =>
    cases ry with
    | @tup ys b us q2 r2 =>
      obtain ⟨hl, P'⟩ := post_ifp P
      refine op_catA pins s σ H _ _ v u Q I rv ru ⟨a, b, vs, us, rfl, rfl, .of q, .of q2, by rw [← r.length, ← r2.length]; exact lim_line hl, fun e => ?_, fun e e2 => ?_, fun e e2 p hp => ?_⟩
      · subst e
        cases r
        exact Post.ret P' A _ (.tup q2 r2)
      · subst e2
        cases r2
        rw [List.append_nil] at P'
        exact Post.ret P' A _ (.tup q r)
      · obtain ⟨x2, A2⟩ := A.oth (o := .tup (vs ++ us)) hp
        exact P' ν _ x2 A2 _ (.tup upd_same ((r.append r2).ext x2))
    | ref e => exact lists P
    | kl q r => exact lists P
    | _ => exact P.elim
  | ref e => cases ry <;> exact lists P
  | kl q r => cases ry <;> exact lists P
  | _ => cases ry <;> exact P.elim
section
variable {x id T : String} {nm : Str} {e o : Expr} {es : List Expr} {p pos apos cpos : Pos} {ra : AF} {fo fi fv : EF} {g : FF} {fa fb : EF} {a b : Expr}
theorem px_callB {id : String} (hc : CaM X ca W (.builtin id) g) (hg : Gl X nm) (hm : X.mg nm = none) (hv : bootBuiltins nm = some (.builtin id)) (ha : PXA X ca W (e :: es) ra) (hn : nm ≠ "__name__" := by decide) (hdb : (nm == ("__debug__" : Str)) = false := by decide)
    (he : starEach (e :: es) X.env = (false, eval e X.env) :: starEach es X.env := by rfl) (hpl : (backTo pos (starEach es X.env)).any (·.1) = false := by rfl) : PX X ca W (.Call (.Name nm p) (e :: es) [] pos) (eApp g ra) := by
  refine ⟨fun pins s σ H Q I ⟨ν, ρ, h, A, E, P⟩ => ?_⟩
  refine wpAny_Call_Name_kw (ld_blt I hg hm hv ?_ hn hdb)
  exact PyProof.Rows.callWith_builtin1 (thn (ha.run pos pins s σ H _ I (app_post A E P)) fun us s1 ⟨vs, H1, I1, r1, ν1, h1, xs, A1, rx, P1⟩ => hc pins s1 σ H1 ν1 h1 xs vs us Q I1 r1 A1 rx P1) he hpl
theorem px_callT {T : String} (hc : CaM X ca W (.type T) g) (hg : Gl X nm) (hm : X.mg nm = none) (hv : bootBuiltins nm = some (.type T)) (ha : PXA X ca W (e :: es) ra) (hn : nm ≠ "__name__" := by decide) (hdb : (nm == ("__debug__" : Str)) = false := by decide)
    (he : starEach (e :: es) X.env = (false, eval e X.env) :: starEach es X.env := by rfl) (hpl : (backTo pos (starEach es X.env)).any (·.1) = false := by rfl) : PX X ca W (.Call (.Name nm p) (e :: es) [] pos) (eApp g ra) := by
  refine ⟨fun pins s σ H Q I ⟨ν, ρ, h, A, E, P⟩ => ?_⟩
  refine wpAny_Call_Name_kw (ld_blt I hg hm hv ?_ hn hdb)
  exact PyProof.Rows.callWith_type1 (thn (ha.run pos pins s σ H _ I (app_post A E P)) fun us s1 ⟨vs, H1, I1, r1, ν1, h1, xs, A1, rx, P1⟩ => hc pins s1 σ H1 ν1 h1 xs vs us Q I1 r1 A1 rx P1) he hpl
/-- a method of a built-in type: id by values, the receiver first -/
theorem px_bm {ck : PV → M Unit} {T id : String} (pa : PlainAttrs T) (slot : Slot T nm id) (hty : typeOf (.builtin id) = pure (.type "method_descriptor")) (hck : ∀ σ H ν h x v Φ, Ab X.K ca ν h H → Rep X.K ν H x v → Post X.K ca W σ ν H (ck x h) Φ → tyV X.K T v H ∧ Φ ν H h ())
    (hc : CaM X ca W (.builtin id) g) (ho : PX X ca W o fo) (ha : PXA X ca W (e :: es) ra) (hbase : attributeBase o nm X.env (eval o X.env) = eval o X.env := by rfl)
    (hfew : ((backTo cpos (starEach (e :: es) X.env)).all (fun x => !x.1) && (backToKw cpos (keywordEach [] X.env)).all (fun x => x.1.isSome)
      && decide ((e :: es).length + ([] : List Keyword).length + (if ([] : List Keyword).isEmpty then 0 else 1) < 30)) = true := by rfl)
    (hline : (apos.endLine == cpos.line) = true := by rfl) (hs : starEach (e :: es) X.env = (false, eval e X.env) :: starEach es X.env := by rfl) (hplain : (backTo cpos (starEach es X.env)).any (·.1) = false := by rfl) :
    PX X ca W (.Call (.Attribute o nm apos) (e :: es) [] cpos) (eBm ck g fo ra) := by
  refine ⟨fun pins s σ H Q I ⟨ν, ρ, h, A, E, P⟩ => ?_⟩
  refine wpAny_Call_method_late hbase hfew hline rfl (thn (ho.run pins s σ H _ I ⟨ν, ρ, h, A, E, (Post.bind P).mono fun ν1 H1 h1 px e1 A1 P1 v rv => (⟨ν1, h1, px, A1, E.ext e1, rv, P1⟩ : ∃ ν1 h1 px, Ab X.K ca ν1 h1 H1 ∧ EnvR X.K ν1 H1 ρ σ ∧ Rep X.K ν1 H1 px v ∧ Post X.K ca W σ ν1 H1 (((ck px).bind fun _ => (ra ρ).bind fun xs => g (px :: xs)) h1) fun ν' H' _ x => ∀ v, Rep X.K ν' H' x v → Q v H')⟩) fun v s1 ⟨x, H1, I1, r1, ν1, h1, px, A1, E1, rp, P1⟩ => ?_)
  obtain ⟨ty, P2⟩ := hck σ H1 ν1 h1 px x _ A1 rp (Post.bind P1)
  obtain ⟨t1, t2⟩ := tyV_is I1 r1 ty
  refine ⟨T, id, pa, slot, hty, t1, t2, ?_⟩
  have hA := ha.run cpos pins s1 σ H1 _ I1 ⟨ν1, ρ, h1, A1, E1, (Post.bind P2).mono fun ν2 H2 h2 xs e2 A2 P4 ws rws => (⟨ν2, h2, xs, A2, rp.ext e2, rws, P4⟩ : ∃ ν2 h2 xs, Ab X.K ca ν2 h2 H2 ∧ Rep X.K ν2 H2 px x ∧ RepL X.K ν2 H2 xs ws ∧ Post X.K ca W σ ν2 H2 (g (px :: xs) h2) fun ν' H' _ x => ∀ v, Rep X.K ν' H' x v → Q v H')⟩
  rw [hs] at hA ⊢
  refine Calls.callWith_builtin (by show (false || (backTo cpos (starEach es X.env)).any (·.1)) = false; rw [hplain] <;> rfl) (Calls.evalArgs_plain ?_)
  exact thn hA fun us s2 ⟨vs, H2, I2, r2, ν2, h2, xs, A2, rp2, rxs, P4⟩ => hc pins s2 σ H2 ν2 h2 (px :: xs) (x :: vs) (v :: us) Q I2 (.cons r1 r2) A2 (.cons rp2 rxs) P4
theorem ckLst_ok {σ : L2.St} {H : Hp} {ν : Nu} {h : MH} {x : PV} {v : V} {Φ : Nu → Hp → MH → Unit → Prop} (A : Ab X.K ca ν h H) (r : Rep X.K ν H x v) (P : Post X.K ca W σ ν H (ckLst x h) Φ) : tyV X.K "list" v H ∧ Φ ν H h () := by
  obtain ⟨a, xs, vs, rfl, q, _, P'⟩ := mLst_post A r P
  exact ⟨.inl ⟨rfl, _, q⟩, Post.ret P' A⟩
theorem ckStr_ok {σ : L2.St} {H : Hp} {ν : Nu} {h : MH} {x : PV} {v : V} {Φ : Nu → Hp → MH → Unit → Prop} (A : Ab X.K ca ν h H) (r : Rep X.K ν H x v) (P : Post X.K ca W σ ν H (ckStr x h) Φ) : tyV X.K "str" v H ∧ Φ ν H h () := by
  cases r <;> first | exact ⟨rfl, Post.ret P A⟩ | exact P.elim
theorem px_ix {g : PV → PV → M PV} (hr : IxM X ca W g) (ha : PX X ca W a fa) (hb : PX X ca W b fb) (hs : PlainIx b := by intro _ _; rfl) : PX X ca W (.Subscript a b pos) (eOp g fa fb) := by
  refine ⟨fun pins s σ H Q I ⟨ν, ρ, h, A, E, P⟩ => ?_⟩
  exact Subscript_ (binT ha hb I (bind2 A E P) fun v u s2 x y H2 I2 rx ry ⟨ν2, h2, px, py, A2, r1, r2, P2⟩ => hr a b pins s2 σ H2 ν2 h2 px py x y v u Q I2 rx ry A2 r1 r2 P2 (hs _ _))
theorem ixm_seq : IxM X ca W pIx := by
  intro value slice pins s σ H ν h x y xv yv v u Q I rv ru A rx ry P hs
  cases ry with
  | @int i =>
    obtain ⟨a, xs, vs, rfl, q, r, P1⟩ := mSeq_post A rx P
    cases hz : atI xs i with
    | none =>
      have P2 : Post X.K ca W σ ν H ((match atI xs i with
        | some z => M.ret z
        | none => M.bad : M PV) h) (fun ν' H' _ z => ∀ w, Rep X.K ν' H' z w → Q w H') := P1
      rw [hz] at P2
      exact P2.elim
    | some z =>
      have P2 : Post X.K ca W σ ν H ((match atI xs i with
        | some z => M.ret z
        | none => M.bad : M PV) h) (fun ν' H' _ z => ∀ w, Rep X.K ν' H' z w → Q w H') := P1
      rw [hz] at P2
      obtain ⟨w, hw, rw'⟩ := r.atI hz
      have q' := Post.ret P2 A w rw'
      refine ix_seq value slice pins s σ H _ _ v u Q I rv ru ?_ hs
      rcases q with q | q
      · exact .inl ⟨a, vs, i, w, rfl, rfl, q, hw, q'⟩
      · exact .inr (.inl ⟨a, vs, i, w, rfl, rfl, q, hw, q'⟩)
  | _ => exact P.elim
theorem pxs_sub {st : PV → PV → PV → M Unit} {vE : Expr} (hst : StM X ca W st) (hv : PX X ca W vE fv) (ho : PX X ca W o fo) (hi : PX X ca W b fi)
    (ha : ∀ v, assign (.Subscript o b apos) X.env v = (do
      let ov ← holding [v] (eval o X.env)
      let iv ← holding [v, ov] (eval b X.env)
      standAt apos
      holding [v, ov, iv] (setItem ov iv v)
      release [v, ov, iv] []) := by intro _; rfl)
    (hs : swapsWithSole [.Subscript o b apos] vE pos.line X.env = pure false := by rfl) (hw : swappedStores [.Subscript o b apos] vE X.env = pure none := by rfl)
    (hq1 : (assignEach [.Subscript o b apos] X.env).map (·.2) = [assign (.Subscript o b apos) X.env] := by rfl) : PXS X ca W (.Assign [.Subscript o b apos] vE pos) (sSub fo fi fv st) := by
  refine ⟨fun pins s σ H D I ⟨ν, ρ, h, A, E, P⟩ => ?_⟩
  refine wpAny_Assign_stores (thn (hv.run pins s σ H _ I ⟨ν, ρ, h, A, E, (sThen_post E P).mono fun ν1 H1 h1 v e1 A1 P1 vv rv => (⟨ν1, h1, v, A1, E.ext e1, rv, P1⟩ : ∃ ν1 h1 v, Ab X.K ca ν1 h1 H1 ∧ EnvR X.K ν1 H1 ρ σ ∧ Rep X.K ν1 H1 v vv ∧ Post X.K ca W0 σ ν1 H1 (sThen (fo ρ) ρ (fun o => sThen (fi ρ) ρ fun i => sThen (st o i v) ρ fun _ => M.ret (.nx ρ)) h1) fun ν' H' _ o => Done ca W X.K D ν' H' o)⟩) fun w s1 ⟨zv, H1, I1, r1, ν1, h1, v, A1, E1, rv, P1⟩ => ?_) hs hw
  rw [hq1]
  show wpAny _ _ (assign (.Subscript o b apos) X.env w) _ _ _
  rw [ha]
  refine wpAny_bind (wpAny_holding (thn (ho.run pins s1 σ H1 _ I1 ⟨ν1, ρ, h1, A1, E1, (sThen_post E1 P1).mono fun ν2 H2 h2 x e2 A2 P2 xv rx => (⟨ν2, h2, x, A2, E1.ext e2, rv.ext e2, rx, P2⟩ : ∃ ν2 h2 x, Ab X.K ca ν2 h2 H2 ∧ EnvR X.K ν2 H2 ρ σ ∧ Rep X.K ν2 H2 v zv ∧ Rep X.K ν2 H2 x xv ∧ Post X.K ca W0 σ ν2 H2 (sThen (fi ρ) ρ (fun i => sThen (st x i v) ρ fun _ => M.ret (.nx ρ)) h2) fun ν' H' _ o => Done ca W X.K D ν' H' o)⟩) fun ov s2 ⟨xv, H2, I2, r2, ν2, h2, x, A2, E2, rv2, rx, P2⟩ => ?_))
  refine wpAny_bind (wpAny_holding (thn (hi.run pins s2 σ H2 _ I2 ⟨ν2, ρ, h2, A2, E2, (sThen_post E2 P2).mono fun ν3 H3 h3 y e3 A3 P3 yv ry => (⟨ν3, h3, y, A3, E2.ext e3, rv2.ext e3, rx.ext e3, ry, P3⟩ : ∃ ν3 h3 y, Ab X.K ca ν3 h3 H3 ∧ EnvR X.K ν3 H3 ρ σ ∧ Rep X.K ν3 H3 v zv ∧ Rep X.K ν3 H3 x xv ∧ Rep X.K ν3 H3 y yv ∧ Post X.K ca W0 σ ν3 H3 (sThen (st x y v) ρ (fun _ => M.ret (.nx ρ)) h3) fun ν' H' _ o => Done ca W X.K D ν' H' o)⟩) fun iv s3 ⟨yv, H3, I3, r3, ν3, h3, y, A3, E3, rv3, rx3, ry, P3⟩ => ?_))
  refine wpAny_bind (wpAny_standAt (wpAny_bind (wpAny_holding (thn (hst pins s3 σ H3 ν3 h3 x y v xv yv zv ov iv w (fun H' => D.nx σ H') I3 r2 r3 r1 A3 rx3 ry rv3 ((sThen_post E3 P3).mono fun ν4 H4 h4 _ e4 A4 P4 => Post.ret P4 A4 σ (E3.ext e4))) fun _ s4 ⟨H4, I4, q4⟩ => ?_))))
  exact wpAny_release ⟨σ, H4, I4, q4⟩
theorem stm_list : StM X ca W stIx := by
  intro pins s σ H ν h x y z xv yv zv v u w Q I rv ru rw' A rx ry rz P
  cases ry with
  | @int i =>
    obtain ⟨n, a, xs, vs, rfl, rfl, ho, e, ha, r, P1⟩ := mMut_post A rx P
    cases hj : ixN xs.length i with
    | none =>
      have P2 : Post X.K ca W σ ν H ((match ixN xs.length i with
        | some j => mPut n (.lst (xs.set j z))
        | none => M.bad : M Unit) h) (fun _ H' _ _ => Q H') := P1
      rw [hj] at P2
      exact P2.elim
    | some j =>
      have P2 : Post X.K ca W σ ν H ((match ixN xs.length i with
        | some j => mPut n (.lst (xs.set j z))
        | none => M.bad : M Unit) h) (fun _ H' _ _ => Q H') := P1
      rw [hj] at P2
      refine set_list pins s σ H _ _ _ v u w Q I rv ru rw' ⟨a, vs, i, j, rfl, rfl, ha, by rw [← r.length]; exact hj, ?_⟩
      obtain ⟨x2, A2⟩ := wr_lst A ho e (r.set rz j)
      exact P2 ν _ x2 A2
  | _ => exact P.elim
end
theorem ca_len : CaM X ca W (.builtin "len") pLen := CaM.of call_len fun σ H ν hp xs vs Q A r P => by
  cases r with
  | nil => exact P.elim
  | @cons x v xs vs r t =>
    cases t with
    | cons _ _ => cases r <;> exact P.elim
    | nil =>
      have seq : Post X.K ca W σ ν H ((mSeq x fun ys => M.ret (.int ys.length)) hp) (fun ν' H' _ z => ∀ w, Rep X.K ν' H' z w → Q w H') → ∃ x n, [v] = [x] ∧ LenV X.K x H n ∧ Q (.int n) H := fun P => by
        obtain ⟨a, ys, ws, rfl, q, rl, P1⟩ := mSeq_post A r P
        refine ⟨.ref a, ws.length, rfl, ?_, ?_⟩
        · rcases q with q | q
          · exact .inl ⟨_, q, rfl⟩
          · exact .inr ⟨_, q, rfl⟩
        · rw [← rl.length]
          exact Post.ret P1 A _ .int
      cases r with
      | @str y =>
        obtain ⟨hl, P'⟩ := post_ifp P
        have e : (mkS y).length = y.length := by
          show (y.toArray).size = y.length
          rw [List.size_toArray]
        refine ⟨_, y.length, rfl, ⟨by rw [e]; exact lim_line hl, e.symm⟩, Post.ret P' A _ .int⟩
      | _ => exact seq P
theorem ca_abs : CaM X ca W (.builtin "abs") pAbs := CaM.of call_abs fun σ H ν hp xs vs Q A r P => by
  cases r with
  | nil => exact P.elim
  | cons r t =>
    cases t with
    | nil => cases r <;> first | exact ⟨_, rfl, Post.ret P A _ .int⟩ | exact P.elim
    | cons _ _ => cases r <;> exact P.elim
theorem ca_max2 (hc : X.calm = true) : CaM X ca W (.builtin "max") pMax2 := CaM.of (call_max2 hc) fun σ H ν hp xs vs Q A r P => by
  cases r with
  | nil => exact P.elim
  | cons r t =>
    cases t with
    | nil => cases r <;> exact P.elim
    | cons r2 t2 =>
      cases t2 with
      | nil => cases r <;> cases r2 <;> first | exact ⟨_, _, rfl, Post.ret P A _ .int⟩ | exact P.elim
      | cons _ _ => cases r <;> cases r2 <;> exact P.elim
theorem ca_min2 (hc : X.calm = true) : CaM X ca W (.builtin "min") pMin2 := CaM.of (call_min2 hc) fun σ H ν hp xs vs Q A r P => by
  cases r with
  | nil => exact P.elim
  | cons r t =>
    cases t with
    | nil => cases r <;> exact P.elim
    | cons r2 t2 =>
      cases t2 with
      | nil => cases r <;> cases r2 <;> first | exact ⟨_, _, rfl, Post.ret P A _ .int⟩ | exact P.elim
      | cons _ _ => cases r <;> cases r2 <;> exact P.elim
theorem ca_int : CaM X ca W (.type "int") pInt := CaM.of call_int1 fun σ H ν hp xs vs Q A r P => by
  cases r with
  | nil => exact P.elim
  | cons r t =>
    cases t with
    | nil => cases r <;> first | exact .inl ⟨_, rfl, Post.ret P A _ .int⟩ | exact .inr ⟨_, rfl, Post.ret P A _ .int⟩ | exact P.elim
    | cons _ _ => cases r <;> exact P.elim
theorem ca_all (hc : X.calm = true) : CaM X ca W (.builtin "all") pAll := CaM.of (cr_all hc) fun σ H ν hp xs vs Q A r P => by
  cases r with
  | nil => exact P.elim
  | @cons x v xs vs r t =>
    cases t with
    | cons _ _ => exact P.elim
    | nil =>
      obtain ⟨a, ys, ws, rfl, q, rl, P1⟩ := mLst_post A r P
      cases hb : toBs ys with
      | none =>
        have P2 : Post X.K ca W σ ν H ((match toBs ys with
          | some bs => M.ret (.bl (bs.all id))
          | none => M.bad : M PV) hp) (fun ν' H' _ z => ∀ w, Rep X.K ν' H' z w → Q w H') := P1
        rw [hb] at P2
        exact P2.elim
      | some bs =>
        have P2 : Post X.K ca W σ ν H ((match toBs ys with
          | some bs => M.ret (.bl (bs.all id))
          | none => M.bad : M PV) hp) (fun ν' H' _ z => ∀ w, Rep X.K ν' H' z w → Q w H') := P1
        rw [hb] at P2
        have e := toBs_map hb rl
        subst e
        exact ⟨a, bs, rfl, q, Post.ret P2 A _ .bl⟩
theorem ca_any (hc : X.calm = true) : CaM X ca W (.builtin "any") pAny := CaM.of (cr_any hc) fun σ H ν hp xs vs Q A r P => by
  cases r with
  | nil => exact P.elim
  | @cons x v xs vs r t =>
    cases t with
    | cons _ _ => exact P.elim
    | nil =>
      obtain ⟨a, ys, ws, rfl, q, rl, P1⟩ := mLst_post A r P
      cases hb : toBs ys with
      | none =>
        have P2 : Post X.K ca W σ ν H ((match toBs ys with
          | some bs => M.ret (.bl (bs.any id))
          | none => M.bad : M PV) hp) (fun ν' H' _ z => ∀ w, Rep X.K ν' H' z w → Q w H') := P1
        rw [hb] at P2
        exact P2.elim
      | some bs =>
        have P2 : Post X.K ca W σ ν H ((match toBs ys with
          | some bs => M.ret (.bl (bs.any id))
          | none => M.bad : M PV) hp) (fun ν' H' _ z => ∀ w, Rep X.K ν' H' z w → Q w H') := P1
        rw [hb] at P2
        have e := toBs_map hb rl
        subst e
        exact ⟨a, bs, rfl, q, Post.ret P2 A _ .bl⟩
theorem ca_tuple : CaM X ca W (.type "tuple") pTuple := CaM.of call_tuple_of fun σ H ν hp xs vs Q A r P => by
  cases r with
  | nil => exact P.elim
  | @cons x v xs vs r t =>
    cases t with
    | cons _ _ => cases r <;> exact P.elim
    | nil =>
      have lst : Post X.K ca W σ ν H ((mLst x fun ys => M.ret (.tup ys)) hp) (fun ν' H' _ z => ∀ w, Rep X.K ν' H' z w → Q w H') → ∃ p ys, [v] = [.ref p] ∧ ((SqL X.K H p ys ∧ ∀ l, H l = none → Q (.ref l) (upd H l (.tup ys))) ∨ (SqT X.K H p ys ∧ Q (.ref p) H)) := fun P => by
        obtain ⟨a, ys, ws, rfl, q, rl, P1⟩ := mLst_post A r P
        refine ⟨a, ws, rfl, .inl ⟨q, fun l hl => ?_⟩⟩
        obtain ⟨x2, A2⟩ := A.oth (o := .tup ws) hl
        exact P1 ν _ x2 A2 _ (.tup upd_same (rl.ext x2))
      cases r with
      | @tup ys a ws q rl => exact ⟨a, ws, rfl, .inr ⟨.of q, Post.ret P A _ (.tup q rl)⟩⟩
      | ref e => exact lst P
      | kl q rl => exact lst P
      | _ => exact P.elim
theorem ca_list : CaM X ca W (.type "list") pList := CaM.of call_list_of fun σ H ν hp xs vs Q A r P => by
  cases r with
  | nil => exact P.elim
  | @cons x v xs vs r t =>
    cases t with
    | cons _ _ => exact P.elim
    | nil =>
      obtain ⟨a, ys, ws, rfl, q, rl, P1⟩ := mSeq_post A r P
      refine ⟨a, ws, rfl, q, fun l hl => ?_⟩
      obtain ⟨q', r'⟩ := new_lst A rl hl P1
      exact q' _ r'
theorem ca_append : CaM X ca W (.builtin "list.append") mApp := by
  intro pins s σ H ν hp xs vs us Q I rv A r P
  cases r with
  | nil => exact P.elim
  | @cons x v xs vs r t =>
    cases t with
    | nil => exact P.elim
    | @cons y u ys ws r2 t2 =>
      cases t2 with
      | cons _ _ => exact P.elim
      | nil =>
        obtain ⟨n, a, zs, us', rfl, rfl, ho, e, ha, rl, P1⟩ := mMut_post A r P
        obtain ⟨hl, P2⟩ := post_ifp P1
        cases rv with
        | cons rv rvs =>
          refine mt_append pins s σ H _ _ _ _ Q I rv rvs ⟨a, us', u, rfl, rfl, ha, by rw [← rl.length]; exact lst_line hl, ?_⟩
          obtain ⟨x2, A2⟩ := wr_lst A ho e (rl.append (.cons r2 .nil))
          exact Post.ret ((Post.bind P2) ν _ x2 A2) A2 _ .non
theorem ca_extend : CaM X ca W (.builtin "list.extend") mExt := by
  intro pins s σ H ν hp xs vs us Q I rv A r P
  cases r with
  | nil => exact P.elim
  | @cons x v xs vs r t =>
    cases t with
    | nil => exact P.elim
    | @cons y u ys ws r2 t2 =>
      cases t2 with
      | cons _ _ => exact P.elim
      | nil =>
        obtain ⟨n, a, zs, us', rfl, rfl, ho, e, ha, rl, P1⟩ := mMut_post A r P
        obtain ⟨n2, a2, zs2, us2, rfl, rfl, ho2, e2, ha2, rl2, P2⟩ := mMut_post A r2 P1
        obtain ⟨hl, P3⟩ := post_ifp P2
        cases rv with
        | cons rv rvs =>
          refine mt_extend pins s σ H _ _ _ _ Q I rv rvs ⟨a, a2, us', us2, rfl, rfl, ha, ha2, by rw [← rl.length, ← rl2.length]; exact lim_line hl, ?_⟩
          obtain ⟨x2, A2⟩ := wr_lst A ho e (rl.append rl2)
          exact Post.ret ((Post.bind P3) ν _ x2 A2) A2 _ .non
end
end FX

set_option Elab.async false
set_option linter.all false
set_option maxRecDepth 100000
set_option maxHeartbeats 2000000
namespace FX
open PySem PySem.Spec PyProof.Rows L2 SlX
/-- x op y, both of the class c -/
def mTwo (c : Nat) (F : FF) : PV → PV → M PV := fun x y => mIns c x fun _ _ => mIns c y fun _ _ => F [x, y]
/-- x in y, y of the class c -/
def mIn (c : Nat) (F : FF) : PV → PV → M PV := fun x y => mIns c y fun _ _ => (F [y, x]).bind fun r => match r with
  | .bl b => M.ret (.bl b)
  | _ => M.bad
/-- x != y by the class's own == -/
def mNeO (c : Nat) (F : FF) : PV → PV → M PV := fun x y => mIns c x fun _ _ => mIns c y fun _ _ => (F [x, y]).bind fun r => match r with
  | .bl b => M.ret (.bl (!b))
  | _ => M.bad
def opOr (c : Nat) (g g' : PV → PV → M PV) : PV → PV → M PV := fun x y h => if isC c x h then g x y h else g' x y h
/-- isinstance with the class c -/
def isiO (c : Nat) : FF := fun xs => match xs with
  | [x, _] => fun h => .ok (.bl (isC c x h)) h
  | _ => M.bad
section
variable {X : Cx} {ca : Ca} {W : WX} {pins : List (Addr × Obj)} {σ : L2.St} {H : Hp} {s : Shared} {k : Nat} {f C : Addr} {G : FF}
structure OpA (K : PySem.W.Frag) (C f : Addr) (nm : Str) : Prop where
  at_ : PySem.W.findIn K (.ref C) nm = some (some (.ref f))
  fn : PySem.W.isFn K (.ref f) = true
/-- a call at any place around -/
theorem call_xA {A' : Around} {Q : VK} {us : List Value} {vs : List V} {xs : List PV} {ν : Nu} {h : MH} (Fn : FnX X.prog X.w X.K X.mg X.base ca k f G) (hr : Room k A') (e0 : Env0 X.prog X.w X.K X.mg X.base A' X.stack s H) (tk : Takes X W) (I : Inv X pins σ H s) (r : Vals vs us) (A : Ab X.K ca ν h H) (rx : RepL X.K ν H xs vs)
    (P : Post X.K ca W σ ν H (G xs h) fun ν' H' _ x => ∀ v, Rep X.K ν' H' x v → Q v H') :
    codeAny (model X.prog X.w) A' (.call (.ref f) ⟨us, []⟩) (fun r s' => match r with | .ok (.ret v) => EP X pins σ Q v s' | .ok _ => False | .error e => X.xe e s') s := by
  have h : spM X.K ca G vs H Q (WE W σ) := ⟨ν, h, xs, A, rx, P.sig fun _ _ _ h => h⟩
  refine codeAny_mono (Fn.fn A' X.stack s H us vs Q (WE W σ) hr e0 r h) fun r s' hq => ?_
  cases r with
  | error e => exact (passAt tk σ) pins H s e s' I hq
  | ok fl =>
    cases fl with
    | ret u => exact I.after hq
    | next => exact False.elim hq
    | brk => exact False.elim hq
    | cont => exact False.elim hq
theorem om_own {op : Operator} {c : Nat} (o : OpA X.K (ca c) f (PySem.dunder op.info.2)) (sf : PySem.W.selfFirst X.K (ca c) = true) (Fn : FnX X.prog X.w X.K X.mg X.base ca k f G) (hr : Room k X.A) (tk : Takes X W) : OpM X ca W (binaryOp op) (mTwo c G) := by
  intro pins s σ H ν h x y xv yv v u Q I rv ru A rx ry P
  obtain ⟨n, a, dx, vs, fs, rfl, rfl, hn, en, hs, hd, ro, P1⟩ := mIns_post A rx P
  obtain ⟨m, b, dy, ws, gs, rfl, rfl, hm, em, hs2, hd2, ro2, P2⟩ := mIns_post A ry P1
  cases rv
  cases ru
  obtain ⟨sl, od, _, J, _⟩ := slt_inst I hs
  obtain ⟨sl', od', _, J', _⟩ := slt_inst I hs2
  obtain ⟨m', hF⟩ := I.fr
  refine PySem.W.binop_K hF I.ok.mod.kin J J'.type sf o.at_ o.fn ?_
  refine wpAny_mono (wpAny_call (call_x (us := [.ref a, .ref b]) (vs := [.ref a, .ref b]) Fn hr tk I (.cons rfl (.cons rfl .nil)) A (.cons rx (.cons ry .nil)) P2)) (fun w s' z => ?_) fun _ _ x => x
  obtain ⟨z', H', I', rz, qz⟩ := z
  exact cmpback rz ⟨z', H', I', rz, qz⟩
theorem om_eqO {c : Nat} (o : OpA X.K (ca c) f "__eq__") (hn : PySem.W.notFirst X.K (ca c) (.ref (ca c)) = true) (Fn : FnX X.prog X.w X.K X.mg X.base ca k f G) (hr : Room k X.A) (tk : Takes X W) : OpM X ca W (compareOp .Eq) (mTwo c G) := by
  intro pins s σ H ν h x y xv yv v u Q I rv ru A rx ry P
  obtain ⟨n, a, dx, vs, fs, rfl, rfl, _, en, hs, hd, ro, P1⟩ := mIns_post A rx P
  obtain ⟨m, b, dy, ws, gs, rfl, rfl, _, em, hs2, hd2, ro2, P2⟩ := mIns_post A ry P1
  cases rv
  cases ru
  obtain ⟨sl, od, _, J, _⟩ := slt_inst I hs
  obtain ⟨sl', od', _, J', _⟩ := slt_inst I hs2
  obtain ⟨m', hF⟩ := I.fr
  show wpAny _ _ (richCompare .Eq (.ref a) (.ref b)) _ _ _
  refine PySem.W.cmp_K (op := .Eq) (tb := .ref (ca c)) hr.units0 hF I.ok.mod.kin J J'.type hn o.at_ o.fn ?_
  refine wpAny_mono (wpAny_call (call_x (us := [.ref a, .ref b]) (vs := [.ref a, .ref b]) Fn hr tk I (.cons rfl (.cons rfl .nil)) A (.cons rx (.cons ry .nil)) P2)) (fun w s' z => ?_) fun _ _ x => x
  obtain ⟨z', H', I', rz, qz⟩ := z
  exact cmpback rz ⟨z', H', I', rz, qz⟩
theorem om_in {c : Nat} (o : OpA X.K (ca c) f "__contains__") (Fn : FnX X.prog X.w X.K X.mg X.base ca k f G) (hr : Room k X.A) (tk : Takes X W) : OpM X ca W (compareOp .In) (mIn c G) := by
  intro pins s σ H ν h x y xv yv v u Q I rv ru A rx ry P
  obtain ⟨n, a, dx, vs, fs, rfl, rfl, _, en, hs, hd, ro, P1⟩ := mIns_post A ry P
  cases ru
  obtain ⟨sl, od, _, J, _⟩ := slt_inst I hs
  obtain ⟨m', hF⟩ := I.fr
  refine PySem.W.in_K hF I.ok.mod.kin J o.at_ o.fn ?_
  have P2 := (Post.bind P1).mono fun ν2 H2 h2 r e2 A2 P3 => (show ∀ w, Rep X.K ν2 H2 r w → ∃ b, w = .bl b ∧ Q (.bl b) H2 from fun w rw' => by
    cases rw' with
    | @bl b => exact ⟨b, rfl, Post.ret P3 A2 _ .bl⟩
    | _ => exact P3.elim)
  refine wpAny_mono (wpAny_call (call_x (us := [.ref a, v]) (vs := [.ref a, xv]) Fn hr tk I (.cons rfl (.cons rv .nil)) A (.cons ry (.cons rx .nil)) P2)) (fun w s' z => ?_) fun _ _ x => x
  obtain ⟨z', H', I', rz, b, e, qz⟩ := z
  subst e
  cases rz
  exact wpAny_truthy_bool ⟨.bl b, H', I', rfl, qz⟩
theorem ne_entry {M : Model} {A' : Around} {E : Value → Shared → Prop} {K : PySem.W.Frag} {x C f : Addr} {v : Value} {ox : Obj} {od : Option Obj} {Q : Fin → Shared → Prop} (hu : A'.units < cLine) (X0 : K.In s.heap) (I : PySem.W.InstAt s.heap x ox C od) (o : OpA K C f "__eq__")
    (h : wpAny M A' (call (.ref f) [.ref x, v]) (fun r s' => ∃ b, r = .bool b ∧ Q (.done (.ret (.bool (!b)))) s') E s) : wpAny M A' (Builtin.«object.__ne__» ⟨[.ref x, v], []⟩) Q E s := by
  unfold Builtin.«object.__ne__»
  refine wpAny_bind (wpAny_pure ?_)
  refine wpAny_bind (wpAny_cRoomFor hu ?_)
  refine wpAny_bind (PySem.W.ifBound_K X0 I o.at_ o.fn (wpAny_mono h (fun r s' z => ?_) fun _ _ z => z))
  obtain ⟨b, rfl, q⟩ := z
  exact wpAny_bind (wpAny_truthy_bool (wpAny_pure q))
theorem om_neO {c : Nat} (o : OpA X.K (ca c) f "__eq__") (ne : PySem.W.findIn X.K (.ref (ca c)) "__ne__" = some (some (.builtin "object.__ne__"))) (hm : PySem.W.mroIn X.K (ca c) (.type "object") = some true)
    (Fn : FnX X.prog X.w X.K X.mg X.base ca k f G) (hr : Room (k + 1) X.A) (tk : Takes X W) : OpM X ca W (compareOp .NotEq) (mNeO c G) := by
  intro pins s σ H ν h x y xv yv v u Q I rv ru A rx ry P
  obtain ⟨n, a, dx, vs, fs, rfl, rfl, _, en, hs, hd, ro, P1⟩ := mIns_post A rx P
  obtain ⟨m, b, dy, ws, gs, rfl, rfl, _, em, hs2, hd2, ro2, P2⟩ := mIns_post A ry P1
  cases rv
  cases ru
  obtain ⟨sl, od, _, J, _⟩ := slt_inst I hs
  obtain ⟨sl', od', _, J', _⟩ := slt_inst I hs2
  have P3 := (Post.bind P2).mono fun ν2 H2 h2 r e2 A2 P3 => (show ∀ w, Rep X.K ν2 H2 r w → ∃ b, w = .bl b ∧ Q (.bl (!b)) H2 from fun w rw' => by
    cases rw' with
    | @bl b => exact ⟨b, rfl, Post.ret P3 A2 _ .bl⟩
    | _ => exact P3.elim)
  show wpAny _ _ (richCompare .NotEq (.ref a) (.ref b)) _ _ _
  simp only [richCompare, (rfl : cmpInfo .NotEq = (("!=", "__ne__", "__ne__") : String × Str × Str)), oneThing_ref]
  refine wpAny_holding (wpAny_bind (wpAny_cRoomFor hr.units0 ?_))
  refine wpAny_bind (J.type.here (wpAny_bind (J'.type.here ?_)))
  have call1 : wpAny (model X.prog X.w) X.A (call (.builtin "object.__ne__") [.ref a, .ref b]) (fun r s' => ∃ t, r = .bool t ∧ EP X pins σ Q (.bool t) s') X.xe s := by
    refine wpAny_call (codeAny_call_builtin PySem.F.cmp_object.ne.plain PySem.F.cmpEntry_ne (PySem.W.check_slot PySem.F.cmpKind_ne PySem.F.cmpSplit_ne (J.type.andThen (PySem.W.looks_mroIn I.kIn hm)) (PySem.F.cmpArgs_ne _ _) ?_))
    refine ne_entry (hr.in1).units0 I.kIn J o ?_
    refine wpAny_mono (wpAny_call (call_xA (us := [.ref a, .ref b]) (vs := [.ref a, .ref b]) Fn hr.in1 I.env0.in1 tk I (.cons rfl (.cons rfl .nil)) A (.cons rx (.cons ry .nil)) P3)) (fun w s' z => ?_) fun _ _ x => x
    obtain ⟨z', H', I', rz, t, e, qz⟩ := z
    subst e
    cases rz
    exact ⟨t, rfl, _, rfl, .bl (!t), H', I', rfl, qz⟩
  have one : wpAny (model X.prog X.w) X.A (tryCompare (.ref a) "__ne__" (.ref b)) (fun r s' => ∃ t, r = some (.bool t) ∧ EP X pins σ Q (.bool t) s') X.xe s := by
    unfold tryCompare
    refine wpAny_bind ?_
    simp only [callSpecialIfBound?, bindSpecialIfBound?]
    refine wpAny_holding (wpAny_bind (wpAny_bind (wpAny_bind (J.type.here ((PySem.W.looks_findIn I.kIn ne).here ?_)))))
    refine wpAny_bind (wpAny_askSetting (wpAny_ite ?_))
    have fin : wpAny (model X.prog X.w) X.A (call (.builtin "object.__ne__") ([.ref a] ++ [.ref b]) >>= fun v => pure (some v)) (fun r s' => wpAny (model X.prog X.w) X.A (match r with
      | some .notImplemented | none => pure none
      | some v => pure (some v)) (fun r s' => ∃ t, r = some (.bool t) ∧ EP X pins σ Q (.bool t) s') X.xe s') X.xe s := by
      refine wpAny_bind (wpAny_mono call1 (fun v s' h' => ?_) fun _ _ h' => h')
      obtain ⟨t, rfl, q⟩ := h'
      exact wpAny_pure (wpAny_pure ⟨t, rfl, q⟩)
    split
    · exact wpAny_bind (wpAny_of_eq (PySem.F.cmp_object.ne.bind _) (wpAny_pure (by exact fin)))
    · exact wpAny_tryCatch (wpAny_bind (wpAny_of_eq (PySem.F.cmp_object.ne.bind _) (wpAny_pure (by exact fin))))
  split
  · rename_i q
    simp at q
  · refine wpAny_bind (wpAny_pure ?_)
    simp only [Bool.false_eq_true, if_false]
    refine wpAny_bind (wpAny_mono one (fun r s' z => ?_) fun _ _ e => e)
    obtain ⟨t, rfl, hq⟩ := z
    exact wpAny_pure hq
end
end FX

set_option Elab.async false
set_option linter.all false
set_option maxRecDepth 100000
set_option maxHeartbeats 2000000
namespace FX
open PySem PySem.Spec PyProof.Rows L2 SlX
/-- a value's class -/
inductive Kd where
  | b (T : String)
  | o (c : Nat)
  | e (c : Nat)
  | x (T : String)
def kdOf (x : PV) (h : MH) : Option Kd := match x with
  | .non => some (.b "NoneType")
  | .bl _ => some (.b "bool")
  | .int _ => some (.b "int")
  | .str _ => some (.b "str")
  | .tup _ => some (.b "tuple")
  | .kl _ _ => some (.b "list")
  | .ref n => (match h.get n with
    | some (.lst _) => some (.b "list")
    | some (.dct _) => some (.b "dict")
    | some (.dtt _) => some (.b "dict")
    | some (.ins c _) => some (.o c)
    | some (.exo c _) => some (.e c)
    | some (.bxo T) => some (.x T)
    | _ => none)
  | _ => none
def isiT (tb : Kd → Option Bool) : PV → M PV := fun x h => match (kdOf x h).bind tb with
  | some b => .ok (.bl b) h
  | none => .bad
/-- [*x, ..] -/
def aStar (f : EF) (r : AF) : AF := fun ρ => (f ρ).bind fun x => mSeq x fun xs => (r ρ).bind fun ys => M.ret (xs ++ ys)
/-- list(range(n)) -/
def eLrg (f : EF) : EF := eUn (fun x => match x with
  | .int n => if decide (0 ≤ n ∧ n ≤ 10000000) then mNew (.lst ((List.range n.toNat).map fun i => PV.int (i : Nat))) else M.bad
  | _ => M.bad) f
def toIs : List PV → Option (List Int)
  | [] => some []
  | .int i :: xs => (toIs xs).map (i :: ·)
  | _ :: _ => none
def sIns (i : Int) : List Int → List Int
  | [] => [i]
  | j :: r => if i < j then i :: j :: r else if i = j then j :: r else j :: sIns i r
def sDed : List Int → List Int
  | [] => []
  | i :: r => sIns i (sDed r)
/-- sorted(set(t)) -/
def pSS : PV → M PV := fun x => match x with
  | .tup xs => (match toIs xs with
    | some ns => if ns.length < 64 then mNew (.lst ((sDed ns).map PV.int)) else M.bad
    | none => M.bad)
  | _ => M.bad
theorem mem_sIns {i k : Int} : ∀ {l : List Int}, k ∈ sIns i l ↔ k = i ∨ k ∈ l
  | [] => by simp [sIns]
  | j :: r => by
    unfold sIns
    split
    · simp
    · split
      · rename_i h; subst h; simp
      · simp [mem_sIns (l := r)]
        constructor
        · rintro (h | h | h) <;> simp [h]
        · rintro (h | h | h) <;> simp [h]
theorem sIns_sorted {i : Int} : ∀ {l : List Int}, l.Pairwise (· < ·) → (sIns i l).Pairwise (· < ·)
  | [], _ => by simp [sIns]
  | j :: r, h => by
    unfold sIns
    obtain ⟨h1, h2⟩ := List.pairwise_cons.mp h
    split
    · rename_i hij
      refine List.pairwise_cons.mpr ⟨fun k hk => ?_, h⟩
      rcases List.mem_cons.mp hk with rfl | hk
      · exact hij
      · exact Int.lt_trans hij (h1 k hk)
    · split
      · exact h
      · rename_i h3 h4
        refine List.pairwise_cons.mpr ⟨fun k hk => ?_, sIns_sorted h2⟩
        rcases mem_sIns.mp hk with rfl | hk
        · omega
        · exact h1 k hk
theorem mem_sDed {k : Int} : ∀ {l : List Int}, k ∈ sDed l ↔ k ∈ l
  | [] => Iff.rfl
  | i :: r => by
    unfold sDed
    rw [mem_sIns, mem_sDed (l := r), List.mem_cons]
theorem sDed_sorted : ∀ (l : List Int), (sDed l).Pairwise (· < ·)
  | [] => .nil
  | _ :: r => sIns_sorted (sDed_sorted r)
theorem sorted_unique : ∀ {a b : List Int}, a.Pairwise (· < ·) → b.Pairwise (· < ·) → (∀ k, k ∈ a ↔ k ∈ b) → a = b
  | [], [], _, _, _ => rfl
  | [], y :: b, _, _, h => by simpa using (h y).mpr List.mem_cons_self
  | x :: a, [], _, _, h => by simpa using (h x).mp List.mem_cons_self
  | x :: a, y :: b, ha, hb, h => by
    obtain ⟨a1, a2⟩ := List.pairwise_cons.mp ha
    obtain ⟨b1, b2⟩ := List.pairwise_cons.mp hb
    have e : x = y := by
      rcases List.mem_cons.mp ((h x).mp List.mem_cons_self) with e | hx
      · exact e
      · rcases List.mem_cons.mp ((h y).mpr List.mem_cons_self) with e | hy
        · exact e.symm
        · have := a1 y hy; have := b1 x hx; omega
    subst e
    rw [sorted_unique a2 b2 fun k => ⟨fun hk => ?_, fun hk => ?_⟩]
    · rcases List.mem_cons.mp ((h k).mp (List.mem_cons_of_mem _ hk)) with rfl | q
      · have := a1 k hk; omega
      · exact q
    · rcases List.mem_cons.mp ((h k).mpr (List.mem_cons_of_mem _ hk)) with rfl | q
      · have := b1 k hk; omega
      · exact q
theorem toIs_map {K : PySem.W.Frag} {ν : Nu} {H : Hp} : ∀ {xs : List PV} {ns : List Int} {vs : List V}, toIs xs = some ns → RepL K ν H xs vs → vs = ns.map V.int
  | [], ns, _, e, .nil => by cases e; rfl
  | x :: xs, ns, _, e, .cons r t => by
    cases r with
    | @int b =>
      cases q : toIs xs with
      | none => simp [toIs, q] at e
      | some ms =>
        simp [toIs, q] at e
        subst e
        rw [toIs_map q t]
        rfl
    | _ => simp [toIs] at e
section
variable {X : Cx} {ca : Ca} {W : WX} {k : Nat} {f C : Addr} {G : FF} {e e2 : Expr} {es : List Expr} {fe : EF} {ra : AF} {p p2 pos apos : Pos}
/-- an exception of an own class, of a built-in one -/
structure BxF (T : String) : Prop where
  fx : ExcAttrFacts T
  lk : typeLookup (.type T) "__class__" = pure (some (.builtin "object.__class__"))
  so : isSubtype (.type T) (.type (".".intercalate ("object.__class__".cutAt '.').dropLast)) = pure true
  nb : (Value.type T == Value.type "builtin_function_or_method") = false
theorem bxF_ValueError : BxF "ValueError" := ⟨PySem.F.excAttr_ValueError, PySem.F.lkClass_ValueError, PySem.F.soClass_ValueError, by decide⟩
def rIsiE (K : PySem.W.Frag) (u : Value) : List V → Hp → VK → Prop := fun xs H Q => ∃ (a C d : Addr) (fs : List (Str × V)) (c : V) (b : Bool), xs = [V.ref a, c] ∧ RelV c u ∧ (∀ w, RelV c w → w = u) ∧ H a = some (ExV (.ref C) (some d) a) ∧ H d = some (.xd fs) ∧ L2.ExcC K C ∧ PySem.W.kitOne K (.ref C) u = some b ∧ Q (.bl b) H
def rIsiB (K : PySem.W.Frag) (u : Value) : List V → Hp → VK → Prop := fun xs H Q => ∃ (a : Addr) (T : String) (c : V) (b : Bool), xs = [V.ref a, c] ∧ RelV c u ∧ (∀ w, RelV c w → w = u) ∧ H a = some (ExV (.type T) none a) ∧ BxF T ∧ PySem.W.kitOne K (.type T) u = some b ∧ Q (.bl b) H
theorem call_isiE {X : Cx} (u : Value) : CallR X (.builtin "isinstance") (rIsiE X.K u) := by
  intro pins s σ H xs us Q I r h
  obtain ⟨a, C, d, fs, c, b, rfl, hcv, hcu, ha, hd, hC, e, q⟩ := h
  cases r with
  | cons rx rr =>
    cases rr with
    | cons rt rr =>
      cases rr
      cases rx
      have ec := hcu _ rt
      subst ec
      obtain ⟨oe, vs, he, hz, hv⟩ := exV_at I.hok ha
      have hx : ObjOk X.prog X.w H s.heap d (.xd fs) := I.hok d _ hd
      obtain ⟨mA, hns, hr⟩ := hx
      obtain ⟨od, ho, hl⟩ := lookIn_ns hns
      have J : PySem.W.InstAt s.heap a oe C (some od) := ⟨he, hz.1, by unfold PySem.W.notCls; rw [hv] <;> rfl, by rw [hz.2]; exact ho⟩
      have hcl : (PySem.W.clsIn X.K C).isSome = true := by
        have z := hC.hd
        unfold PySem.W.hasDictIn at z
        cases q : PySem.W.clsIn X.K C with
        | none => rw [q] at z; cases z
        | some _ => rfl
      exact PySem.W.kia_one (PySem.W.kitx_exc hcl hC.hg hC.hk hC.hs hC.ha hC.hn hC.ht hC.hm) I.kIn J e (fun z => nomatch z) fun tk => ⟨.bl b, H, I.kept (t' := tk) fun _ _ z => z, rfl, q⟩
theorem call_isiB {X : Cx} (u : Value) : CallR X (.builtin "isinstance") (rIsiB X.K u) := by
  intro pins s σ H xs us Q I r h
  obtain ⟨a, T, c, b, rfl, hcv, hcu, ha, hT, e, q⟩ := h
  cases r with
  | cons rx rr =>
    cases rr with
    | cons rt rr =>
      cases rr
      cases rx
      have ec := hcu _ rt
      subst ec
      obtain ⟨oe, vs, he, hz, hv⟩ := exV_at I.hok ha
      exact PySem.W.kia_one (PySem.W.kitx_bexc hT.fx hT.lk hT.so hT.nb) I.kIn ⟨oe, he, hz.1⟩ e (fun z => nomatch z) fun tk => ⟨.bl b, H, I.kept (t' := tk) fun _ _ z => z, rfl, q⟩
structure KdF (K : PySem.W.Frag) (ca : Ca) (u : Value) (tb : Kd → Option Bool) : Prop where
  b : ∀ T r, tb (.b T) = some r → PySem.W.kitOne K (.type T) u = some r
  o : ∀ c r, tb (.o c) = some r → SCls K (ca c) ∧ SIsi K (ca c) ∧ PySem.W.kitOne K (.ref (ca c)) u = some r
  e : ∀ c r, tb (.e c) = some r → L2.ExcC K (ca c) ∧ PySem.W.kitOne K (.ref (ca c)) u = some r
  x : ∀ T r, tb (.x T) = some r → BxF T ∧ PySem.W.kitOne K (.type T) u = some r
theorem ClsV.rel {c : V} {u : Value} (k : ClsV c u) : RelV c u := by cases k <;> rfl
theorem isi_post {u : Value} {cv x : V} {px : PV} {tb : Kd → Option Bool} {σ : L2.St} {H : Hp} {ν : Nu} {h : MH} {Q : VK} (hk : ClsV cv u) (hf : KdF X.K ca u tb) (A : Ab X.K ca ν h H) (r : Rep X.K ν H px x)
    (P : Post X.K ca W σ ν H (isiT tb px h) fun ν' H' _ z => ∀ w, Rep X.K ν' H' z w → Q w H') : rIsi X.K [x, cv] H Q ∨ rIsiSl X.K u [x, cv] H Q ∨ rIsiE X.K u [x, cv] H Q ∨ rIsiB X.K u [x, cv] H Q := by
  unfold isiT at P
  cases hd : kdOf px h with
  | none => rw [hd] at P; exact P.elim
  | some kd =>
    rw [hd, Option.bind_some] at P
    cases hb : tb kd with
    | none => rw [hb] at P; exact P.elim
    | some b =>
      rw [hb] at P
      have q := (show Post X.K ca W σ ν H (M.ret (PV.bl b) h) _ from P)
      have q' : Q (.bl b) H := Post.ret q A _ .bl
      have base : ∀ T, kd = .b T → TyX X.K H x (.type T) → rIsi X.K [x, cv] H Q ∨ rIsiSl X.K u [x, cv] H Q ∨ rIsiE X.K u [x, cv] H Q ∨ rIsiB X.K u [x, cv] H Q := fun T e ty => by
        subst e
        exact .inl ⟨x, cv, _, u, b, rfl, hk, ty, hf.b T b hb, q'⟩
      cases r with
      | non => exact base _ (Option.some.inj hd).symm (.base .non)
      | bl => exact base _ (Option.some.inj hd).symm (.base (.bl _))
      | int => exact base _ (Option.some.inj hd).symm (.base (.int _))
      | str => exact base _ (Option.some.inj hd).symm (.base (.str _))
      | ty => cases hd
      | tup e r => exact base _ (Option.some.inj hd).symm (.base (.tup e))
      | kl e r =>
        rcases e with ⟨o, e⟩ | ⟨o, its, n, e1, e2, _⟩
        · exact base _ (Option.some.inj hd).symm (.base (.frz e))
        · exact base _ (Option.some.inj hd).symm (.kList e1 e2)
      | @ref n a l e =>
        have hd' : (match h.get n with
          | some (.lst _) => some (Kd.b "list")
          | some (.dct _) => some (Kd.b "dict")
          | some (.dtt _) => some (Kd.b "dict")
          | some (.ins c _) => some (Kd.o c)
          | some (.exo c _) => some (Kd.e c)
          | some (.bxo T) => some (Kd.x T)
          | _ => none) = some kd := hd
        clear hd
        have hd := hd'
        cases ho : h.get n with
        | none => rw [ho] at hd; cases hd
        | some o =>
          rw [ho] at hd
          have q := A.at_ _ o ho
          rw [e] at q
          cases o with
          | lst xs =>
            obtain ⟨a', vs, e1, e2, rl⟩ := q
            cases e1
            exact base _ (Option.some.inj hd).symm (.base (.lst e2))
          | dct xs =>
            obtain ⟨a', vs, e1, e2, rl⟩ := q
            cases e1
            exact base _ (Option.some.inj hd).symm (.base (.dK e2))
          | dtt xs =>
            obtain ⟨a', vs, e1, e2, rl⟩ := q
            cases e1
            exact base _ (Option.some.inj hd).symm (.base (.dT e2))
          | ins c fs =>
            obtain ⟨a', dx, vs, e1, ⟨e2, _⟩, rl⟩ := q
            cases e1
            obtain rfl := (Option.some.inj hd)
            obtain ⟨h1, h2, h3⟩ := hf.o c b hb
            exact .inr (.inl ⟨_, _, dx, vs, cv, b, rfl, ClsV.rel hk, fun w r => hk.eq r, e2, h1, h2, h3, q'⟩)
          | set _ => cases hd
          | exo c y =>
            obtain ⟨a', d', v', e1, e2, e3, _⟩ := q
            cases e1
            obtain rfl := (Option.some.inj hd)
            obtain ⟨h1, h2⟩ := hf.e c b hb
            exact .inr (.inr (.inl ⟨_, _, d', _, cv, b, rfl, ClsV.rel hk, fun w r => hk.eq r, e2, e3, h1, h2, q'⟩))
          | bxo T =>
            obtain ⟨a', e1, e2⟩ := q
            cases e1
            obtain rfl := (Option.some.inj hd)
            obtain ⟨h1, h2⟩ := hf.x T b hb
            exact .inr (.inr (.inr ⟨_, T, cv, b, rfl, ClsV.rel hk, fun w r => hk.eq r, e2, h1, h2, q'⟩))
theorem px_isi {u : Value} {cv : V} {tb : Kd → Option Bool} (hk : ClsV cv u) (hf : KdF X.K ca u tb) (he : PX X ca W e fe) (h2 : PE X e2 (tC cv)) (hg : Gl X "isinstance") (hm : X.mg "isinstance" = none)
    (hs : starEach [e, e2] X.env = (false, eval e X.env) :: starEach [e2] X.env := by rfl) (hs2 : starEach [e2] X.env = (false, eval e2 X.env) :: starEach [] X.env := by rfl) (hpl : (backTo pos (starEach [e2] X.env)).any (·.1) = false := by rfl) :
    PX X ca W (.Call (.Name "isinstance" p) [e, e2] [] pos) (eUn (isiT tb) fe) := by
  refine ⟨fun pins s σ H Q I ⟨ν, ρ, h, A, E, P⟩ => ?_⟩
  refine wpAny_Call_Name_kw (ld_blt I hg hm PyProof.Rows.boot_isinstance ?_ (by decide) (by decide))
  refine PyProof.Rows.callWith_builtin1 (thn ((pa_cons he (pa_cons h2 pa_nil hs2) hs).run pos pins s σ H (fun vs H1 => rIsi X.K vs H1 Q ∨ rIsiSl X.K u vs H1 Q ∨ rIsiE X.K u vs H1 Q ∨ rIsiB X.K u vs H1 Q) I
    ⟨ν, ρ, h, A, E, (Post.bind P).mono fun ν1 H1 h1 px e1 A1 P1 v rv => isi_post hk hf A1 rv P1⟩) fun us s1 ⟨vs, H1, I1, r1, q⟩ => ?_) hs hpl
  rcases q with q | q | q | q
  · exact call_isi pins s1 σ H1 vs us Q I1 r1 q
  · exact call_isiSl u pins s1 σ H1 vs us Q I1 r1 q
  · exact call_isiE u pins s1 σ H1 vs us Q I1 r1 q
  · exact call_isiB u pins s1 σ H1 vs us Q I1 r1 q
structure StA (K : PySem.W.Frag) (C p f : Addr) (m : Str) : Prop where
  ga : PySem.W.specialIn K (.ref C) "__getattribute__" = some (some (.builtin "type.__getattribute__"))
  rd : PySem.W.readsIn K C (.type "type") = true
  at_ : PySem.W.findCls K (.ref C) (.type "type") m = some (.get (.builtin "staticmethod.__get__") (.ref p) .none (.ref C))
  rc : ∃ rest, PySem.W.recIn K p "staticmethod" = some (.ref f :: rest)
theorem px_sm {pl : Sem Bool} {cn m : Str} {pp : Addr} (st : StA X.K C pp f m) (Fn : FnX X.prog X.w X.K X.mg X.base ca k f G) (hr : Room k X.A) (tk : Takes X W) (hg : Gl X cn) (hm : X.mg cn = some (.ref C)) (ha : PXA X ca W (e :: es) ra)
    (hdb : (cn == ("__debug__" : Str)) = false := by decide) (hst : starEach (e :: es) X.env = (false, eval e X.env) :: starEach es X.env := by rfl) (hpl : (backTo pos (starEach es X.env)).any (·.1) = false := by rfl)
    (ht : eval (.Call (.Attribute (.Name cn p) m apos) (e :: es) [] pos) X.env = (do
      let ov ← eval (.Name cn p) X.env
      standAt apos.atName
      let (f, first) ← holding [ov] (getMethod ov m pl)
      callWith pos f first (backTo pos (starEach (e :: es) X.env)) (backToKw pos (keywordEach [] X.env))) := by rfl) :
    PX X ca W (.Call (.Attribute (.Name cn p) m apos) (e :: es) [] pos) (eApp G ra) := by
  refine ⟨fun pins s σ H Q I ⟨ν, ρ, h, A, E, P⟩ => ?_⟩
  refine PySem.W.methodCall_KW (pl := pl) (ld_glob I hg hm ?_ hdb) ht
  refine PySem.W.method_cls I.kIn st.ga ?_
  obtain ⟨rest, hp⟩ := st.rc
  refine PySem.W.cls_bind I.kIn st.rd st.at_ (wpAny_call (PySem.W.sm_get (s := { s with toks := s.toks + 1 }) I.kIn hp (PySem.W.handed_on rfl ?_)))
  have I1 : Inv X pins σ H { s with toks := s.toks + 1 } := I.tok (s.toks + 1)
  refine PySem.W.callWith_K (first := []) (h₀ := X.base) I1.ok.mod.kin Fn.kp (thn (ha.run pos pins _ σ H _ I1 (app_post A E P)) fun us s1 ⟨vs, H1, I1, r, ν1, h1, xs, A1, rx, P1⟩ => ⟨I1.kIn, ?_⟩) hst hpl
  exact wpAny_call (call_x Fn hr tk I1 r A1 rx P1)
theorem pxa_star (he : PX X ca W e fe) (hr : PXA X ca W es ra) (hs : starEach (.Starred e p :: es) X.env = (true, eval e X.env) :: starEach es X.env := by rfl) : PXA X ca W (.Starred e p :: es) (aStar fe ra) := by
  refine PA.imp (StX.pa_star he hr hs) fun σ H Q ⟨ν, ρ, h, A, E, P⟩ => ?_
  refine ⟨ν, ρ, h, A, E, (Post.bind P).mono fun ν1 H1 h1 px e1 A1 P1 v rv => ?_⟩
  obtain ⟨a, xs, vs, rfl, q, r, P2⟩ := mSeq_post A1 rv P1
  refine ⟨a, vs, rfl, q.symm, ν1, ρ, h1, A1, E.ext e1, (Post.bind P2).mono fun ν2 H2 h2 ys e2 A2 P3 us ru => ?_⟩
  exact Post.ret P3 A2 _ ((r.ext e2).append ru)
theorem rgV0 {n : Int} (h : 0 ≤ n) {K : PySem.W.Frag} {ν : Nu} {H : Hp} : RepL K ν H ((List.range n.toNat).map fun i => PV.int (i : Nat)) (rgV 0 n) := by
  have e : rgV 0 n = ((List.range n.toNat).map fun i => ((i : Nat) : Int)).map V.int := by
    unfold rgV
    rw [List.map_map, Int.sub_zero]
    exact List.map_congr_left fun i _ => by show V.int (0 + _) = V.int _; rw [Int.zero_add]
  have e2 : ((List.range n.toNat).map fun i => PV.int (i : Nat)) = ((List.range n.toNat).map fun i => ((i : Nat) : Int)).map PV.int := by rw [List.map_map]; rfl
  rw [e, e2]
  exact .ints
theorem px_lrg (hc : X.calm = true) (hg : Gl X "list") (hm : X.mg "list" = none) (hg2 : Gl X "range") (hm2 : X.mg "range" = none) (he : PX X ca W e fe)
    (na : starEach [e] X.env = (false, eval e X.env) :: starEach [] X.env := by rfl) (na2 : starEach [.Call (.Name "range" p2) [e] [] apos] X.env = (false, eval (.Call (.Name "range" p2) [e] [] apos) X.env) :: starEach [] X.env := by rfl) :
    PX X ca W (.Call (.Name "list" p) [.Call (.Name "range" p2) [e] [] apos] [] pos) (eLrg fe) := by
  refine PE.imp (pe_listRg hc hg hm (prg_1 hg2 hm2 he na) na2) fun σ H Q ⟨ν, ρ, h, A, E, P⟩ => ⟨ν, ρ, h, A, E, (Post.bind P).mono fun ν1 H1 h1 px e1 A1 P1 v rv => ?_⟩
  cases rv with
  | @int n =>
    have P2 : Post X.K ca W σ ν1 H1 ((if decide (0 ≤ n ∧ n ≤ 10000000) = true then mNew (.lst ((List.range n.toNat).map fun i => PV.int (i : Nat))) else M.bad : M PV) h1) _ := P1
    obtain ⟨hc, P3⟩ := post_if P2
    have hn := of_decide_eq_true hc
    refine ⟨n, rfl, ⟨by decide, by decide, by omega, by omega, by omega⟩, fun q hq => ?_⟩
    obtain ⟨z, r⟩ := new_lst A1 (rgV0 hn.1) hq P3
    exact z _ r
  | _ => exact P1.elim
def rSetI (w : World) (K : PySem.W.Frag) : List V → Hp → VK → Prop := fun vs H Q => ∃ (p : Addr) (ns : List Int), vs = [.ref p] ∧ SqT K H p (ns.map V.int) ∧ ns.length ≤ 1000 ∧ ∀ a c, H a = none → c ≤ ns.length → Q (.ref a) (upd H a (SetO w a (fun j => decide (j ∈ ns)) c))
theorem cr_setI (hc : X.calm = true) : CallR X (.type "set") (rSetI X.w X.K) := by
  intro pins s σ H vs us Q I r h
  obtain ⟨p0, ns, e1, hq, hl, q⟩ := h
  subst e1
  obtain ⟨u, rfl, ru⟩ := r.one
  cases ru
  obtain ⟨its, rv, pt, hz⟩ := I.tuple hq
  have hi : IntsAre its.toArray.toList ns := ints_of_vals rv
  refine call_set_tupI ns (I.ok.hd hc) (show s.heap.IsTuple p0 its.toArray from pt) hi (by unfold scanBound; omega) fun h' tk c R1 hcn kk => ?_
  exact ⟨.ref s.heap.objs.size, _, I.laid (t' := tk) kk (Nat.le_refl _) (setO_new R1), rfl, q _ c (I.hok.fresh (Nat.le_refl _)) hcn⟩
theorem px_ss (hc : X.calm = true) (hg : Gl X "sorted") (hm : X.mg "sorted" = none) (hg2 : Gl X "set") (hm2 : X.mg "set" = none) (he : PX X ca W e fe)
    (na : starEach [e] X.env = (false, eval e X.env) :: starEach [] X.env := by rfl) (na2 : starEach [.Call (.Name "set" p2) [e] [] apos] X.env = (false, eval (.Call (.Name "set" p2) [e] [] apos) X.env) :: starEach [] X.env := by rfl) :
    PX X ca W (.Call (.Name "sorted" p) [.Call (.Name "set" p2) [e] [] apos] [] pos) (eUn pSS fe) := by
  refine ⟨fun pins s σ H Q I ⟨ν, ρ, h, A, E, P⟩ => ?_⟩
  refine wpAny_Call_Name_kw (ld_blt I hg hm PyProof.Rows.boot_sorted ?_ (by decide) (by decide))
  refine PyProof.Rows.callWith_builtin1 (args_cons ?_ na2) na2 rfl
  refine wpAny_Call_Name_kw (ld_blt I hg2 hm2 PyProof.Rows.boot_set ?_ (by decide) (by decide))
  refine PyProof.Rows.callWith_type1 (args_cons (thn (he.run pins s σ H _ I ⟨ν, ρ, h, A, E, (Post.bind P).mono fun ν1 H1 h1 px e1 A1 P1 v rv => (⟨ν1, h1, px, A1, rv, P1⟩ : ∃ ν1 h1 px, Ab X.K ca ν1 h1 H1 ∧ Rep X.K ν1 H1 px v ∧ Post X.K ca W σ ν1 H1 (pSS px h1) fun ν' H' _ x => ∀ v, Rep X.K ν' H' x v → Q v H')⟩) fun v s1 ⟨x, H1, I1, rx, ν1, h1, px, A1, rp, P1⟩ => args_nil ?_) na) na rfl
  cases rp with
  | @tup xs a vs q rl =>
    cases hi : toIs xs with
    | none =>
      have P2 : Post X.K ca W σ ν1 H1 ((match toIs xs with
        | some ns => if ns.length < 64 then mNew (.lst ((sDed ns).map PV.int)) else M.bad
        | none => M.bad : M PV) h1) (fun ν' H' _ x => ∀ v, Rep X.K ν' H' x v → Q v H') := P1
      rw [hi] at P2
      exact P2.elim
    | some ns =>
      have P2 : Post X.K ca W σ ν1 H1 ((match toIs xs with
        | some ns => if ns.length < 64 then mNew (.lst ((sDed ns).map PV.int)) else M.bad
        | none => M.bad : M PV) h1) (fun ν' H' _ x => ∀ v, Rep X.K ν' H' x v → Q v H') := P1
      rw [hi] at P2
      obtain ⟨hl, P3⟩ := post_ifp P2
      have ev := toIs_map hi rl
      subst ev
      refine thn (cr_setI hc pins s1 σ H1 [.ref a] [v] (fun z H2 => ∃ b c, z = .ref b ∧ H1 b = none ∧ c ≤ ns.length ∧ H2 = upd H1 b (SetO X.w b (fun j => decide (j ∈ ns)) c)) I1 (.cons rx .nil) ⟨a, ns, rfl, .of q, by omega, fun b c hb hc => ⟨b, c, rfl, hb, hc, rfl⟩⟩) fun z s2 ⟨zv, H2, I2, rz, b, c, ez, hb, hcn, eH⟩ => ?_
      subst ez eH
      obtain ⟨e2, A2⟩ := A1.oth (o := SetO X.w b (fun j => decide (j ∈ ns)) c) hb
      refine args_nil (cr_sortedSet hc pins s2 σ _ [.ref b] [z] Q I2 (.cons rz .nil) ⟨b, _, c, rfl, upd_same, by omega, fun ms p hms hmem _ hp => ?_⟩)
      have em : ms = sDed ns := sorted_unique hms (sDed_sorted ns) fun k => by
        rw [hmem k, mem_sDed, decide_eq_true_eq]
      subst em
      have rl2 : RepL X.K ν1 (upd H1 b (SetO X.w b (fun j => decide (j ∈ ns)) c)) ((sDed ns).map PV.int) ((sDed ns).map V.int) := .ints
      obtain ⟨x3, A3⟩ := A2.nw (as := [p]) (mo := .lst ((sDed ns).map PV.int)) (H' := upd (upd H1 b (SetO X.w b (fun j => decide (j ∈ ns)) c)) p (.lst ((sDed ns).map V.int))) (fun a ha => by rw [List.mem_singleton.mp ha]; exact hp) (fun b hb => upd_ne fun z => hb (by rw [z]; exact List.mem_cons_self))
        (fun b hb => by rw [List.mem_singleton.mp hb, upd_same]; exact fun z => nomatch z) (fun x => ⟨p, _, rfl, upd_same, rl2.ext x⟩)
      exact P3 _ _ (e2.trans x3) A3 _ (.ref (l := []) nuN_same)
  | _ => exact P1.elim
end
end FX

set_option Elab.async false
set_option linter.all false
set_option maxRecDepth 100000
set_option maxHeartbeats 2000000
namespace FX
open PySem PySem.Spec PyProof.Rows L2 SlX
mutual
def keyE : PV → PV → Bool
  | .int i, .int j => decide (i = j)
  | .str x, .str y => eqL x y
  | .tup xs, .tup ys => keyEs xs ys
  | _, _ => false
def keyEs : List PV → List PV → Bool
  | [], [] => true
  | x :: xs, y :: ys => keyE x y && keyEs xs ys
  | _, _ => false
end
/-- an int or a text -/
def asK : PV → Option Key
  | .int i => some (.inl i)
  | .str x => some (.inr (mkS x))
  | _ => none
def asKs : List PV → Option (List Key)
  | [] => some []
  | x :: xs => (asK x).bind fun k => (asKs xs).map (k :: ·)
def asT : PV → Option (List Key)
  | .tup xs => asKs xs
  | _ => none
def dGet (kvs : List (PV × PV)) (x : PV) : Option PV := (kvs.find? fun q => keyE q.1 x).map (·.2)
def dPut (kvs : List (PV × PV)) (x v : PV) : List (PV × PV) := if (kvs.any fun q => keyE q.1 x) = true then kvs.map (fun q => if keyE q.1 x = true then (q.1, v) else q) else kvs ++ [(x, v)]
theorem mkS_cps (x : Str) : mkS x.cps.toList = x := by
  unfold mkS
  cases x
  simp
theorem asK_kP : ∀ {x : PV} {k : Key}, asK x = some k → x = kP k
  | .int i, _, e => by cases e; rfl
  | .str x, _, e => by
    cases e
    show PV.str x = PV.str (x.toArray).toList
    simp
theorem asKs_map : ∀ {xs : List PV} {ks : List Key}, asKs xs = some ks → xs = ks.map kP
  | [], _, e => by cases e; rfl
  | x :: xs, ks, e => by
    unfold asKs at e
    cases h : asK x with
    | none => rw [h] at e; cases e
    | some k =>
      rw [h, Option.bind_some] at e
      cases h2 : asKs xs with
      | none => rw [h2] at e; cases e
      | some ls =>
        rw [h2] at e
        cases e
        rw [List.map_cons, ← asK_kP h, ← asKs_map h2]
theorem asT_kPs {x : PV} {ks : List Key} (e : asT x = some ks) : x = kPs ks := by
  cases x with
  | tup xs =>
    show PV.tup xs = PV.tup (ks.map kP)
    rw [← asKs_map e]
  | _ => cases e
theorem keyE_kP {a b : Key} : keyE (kP a) (kP b) = decide (a = b) := by
  cases a with
  | inl i =>
    cases b with
    | inl j => simp [kP, keyE]
    | inr y => simp [kP, keyE]
  | inr x =>
    cases b with
    | inl j => simp [kP, keyE]
    | inr y =>
      show eqL x.cps.toList y.cps.toList = _
      rw [eqL_dec]
      congr 1
      refine propext ⟨fun h => ?_, fun h => ?_⟩
      · rw [← mkS_cps x, ← mkS_cps y, h]
      · cases h; rfl
theorem keyEs_map : ∀ {a b : List Key}, keyEs (a.map kP) (b.map kP) = decide (a = b)
  | [], [] => by simp [keyEs]
  | [], _ :: _ => by simp [keyEs]
  | _ :: _, [] => by simp [keyEs]
  | x :: a, y :: b => by
    show (keyE (kP x) (kP y) && keyEs (a.map kP) (b.map kP)) = _
    rw [keyE_kP, keyEs_map (a := a) (b := b)]
    simp
theorem keyE_kPs {a b : List Key} : keyE (kPs a) (kPs b) = decide (a = b) := keyEs_map
section
variable {κ : Type} [DecidableEq κ] {φ : κ → PV} {K : PySem.W.Frag} {ν : Nu} {H : Hp}
theorem RepKV.get (hφ : ∀ a b, keyE (φ a) (φ b) = decide (a = b)) {k : κ} : ∀ {kvs : List (PV × PV)} {kws : List (κ × V)}, RepKV φ K ν H kvs kws → (dGet kvs (φ k) = none → valV kws k = none) ∧ ∀ v, dGet kvs (φ k) = some v → ∃ u, valV kws k = some u ∧ Rep K ν H v u
  | [], [], _ => ⟨fun _ => rfl, fun v h => by simp [dGet] at h⟩
  | [], _ :: _, h => by have := h.1; simp at this
  | _ :: _, [], h => by have := h.1; simp at this
  | (x, v) :: kvs, (k', u) :: kws, h => by
    obtain ⟨h1, h2⟩ := h
    rw [List.map_cons, List.map_cons] at h1 h2
    have hx : x = φ k' := (List.cons.inj h1).1
    have h1' := (List.cons.inj h1).2
    cases h2 with
    | cons r t =>
      have ih := RepKV.get hφ (k := k) (kvs := kvs) (kws := kws) ⟨h1', t⟩
      subst hx
      by_cases hk : k' = k
      · have e1 : dGet ((φ k', v) :: kvs) (φ k) = some v := by
          unfold dGet
          rw [List.find?_cons_of_pos (by show keyE (φ k') (φ k) = true; rw [hφ]; exact decide_eq_true hk)]
          rfl
        have e2 : valV ((k', u) :: kws) k = some u := valV_pos hk
        rw [e1, e2]
        exact ⟨fun z => (nomatch z), fun w hw => by cases hw; exact ⟨u, rfl, r⟩⟩
      · have e1 : dGet ((φ k', v) :: kvs) (φ k) = dGet kvs (φ k) := by
          unfold dGet
          rw [List.find?_cons_of_neg (by show ¬ keyE (φ k') (φ k) = true; rw [hφ]; simpa using hk)]
        have e2 : valV ((k', u) :: kws) k = valV kws k := valV_neg hk
        rw [e1, e2]
        exact ih
theorem RepKV.any (hφ : ∀ a b, keyE (φ a) (φ b) = decide (a = b)) {k : κ} : ∀ {kvs : List (PV × PV)} {kws : List (κ × V)}, kvs.map (·.1) = kws.map (fun q => φ q.1) → (kvs.any fun q => keyE q.1 (φ k)) = kws.any fun kv => decide (kv.1 = k)
  | [], [], _ => rfl
  | [], _ :: _, h => by simp at h
  | _ :: _, [], h => by simp at h
  | (x, v) :: kvs, (k', u) :: kws, h => by
    have hx : x = φ k' := (List.cons.inj h).1
    subst hx
    rw [List.any_cons, List.any_cons, RepKV.any hφ (List.cons.inj h).2]
    show (keyE (φ k') (φ k) || _) = (decide (k' = k) || _)
    rw [hφ]
theorem RepKV.repl (hφ : ∀ a b, keyE (φ a) (φ b) = decide (a = b)) {k : κ} {v : PV} {u : V} (r : Rep K ν H v u) : ∀ {kvs : List (PV × PV)} {kws : List (κ × V)}, RepKV φ K ν H kvs kws →
    RepKV φ K ν H (kvs.map fun q => if keyE q.1 (φ k) = true then (q.1, v) else q) (kws.map fun kv => if kv.1 = k then (kv.1, u) else kv)
  | [], [], _ => ⟨rfl, .nil⟩
  | [], _ :: _, h => by have := h.1; simp at this
  | _ :: _, [], h => by have := h.1; simp at this
  | (x, w) :: kvs, (k', z) :: kws, h => by
    obtain ⟨h1, h2⟩ := h
    rw [List.map_cons, List.map_cons] at h1 h2
    have hx : x = φ k' := (List.cons.inj h1).1
    have h1' := (List.cons.inj h1).2
    subst hx
    cases h2 with
    | cons r' t =>
      obtain ⟨i1, i2⟩ := RepKV.repl hφ (k := k) r (kvs := kvs) (kws := kws) ⟨h1', t⟩
      by_cases hk : k' = k
      · have e1 : (if keyE (φ k') (φ k) = true then (φ k', v) else (φ k', w)) = (φ k', v) := if_pos (by rw [hφ]; exact decide_eq_true hk)
        have e2 : (if k' = k then (k', u) else (k', z)) = (k', u) := if_pos hk
        refine ⟨?_, ?_⟩
        · simp only [List.map_cons, e1, e2]
          rw [i1]
        · simp only [List.map_cons, e1, e2]
          exact .cons r i2
      · have e1 : (if keyE (φ k') (φ k) = true then (φ k', v) else (φ k', w)) = (φ k', w) := if_neg (by rw [hφ]; simpa using hk)
        have e2 : (if k' = k then (k', u) else (k', z)) = (k', z) := if_neg hk
        refine ⟨?_, ?_⟩
        · simp only [List.map_cons, e1, e2]
          rw [i1]
        · simp only [List.map_cons, e1, e2]
          exact .cons r' i2
theorem RepKV.put (hφ : ∀ a b, keyE (φ a) (φ b) = decide (a = b)) {k : κ} {v : PV} {u : V} {kvs : List (PV × PV)} {kws : List (κ × V)} (h : RepKV φ K ν H kvs kws) (r : Rep K ν H v u) : RepKV φ K ν H (dPut kvs (φ k) v) (putK kws k u) := by
  unfold dPut putK
  rw [RepKV.any hφ h.1]
  by_cases c : (kws.any fun kv => decide (kv.1 = k)) = true
  · rw [if_pos c, if_pos c]
    exact RepKV.repl hφ r h
  · rw [if_neg c, if_neg c]
    refine ⟨?_, ?_⟩
    · rw [List.map_append, List.map_append, h.1]; rfl
    · rw [List.map_append, List.map_append]
      exact h.2.append (.cons r .nil)
theorem RepKV.ext {ν' : Nu} {H' : Hp} {kvs : List (PV × PV)} {kws : List (κ × V)} (h : RepKV φ K ν H kvs kws) (x : Ext ν ν' H H') : RepKV φ K ν' H' kvs kws := ⟨h.1, h.2.ext x⟩
theorem RepKV.length {kvs : List (PV × PV)} {kws : List (κ × V)} (h : RepKV φ K ν H kvs kws) : kvs.length = kws.length := by
  have := congrArg List.length h.1
  simpa using this
end
/-- {} -/
def eDNew (t : Bool) : EF := fun _ => mNew (if t then .dtt [] else .dct [])
def mDct {α : Type} (x y : PV) (k : Nat → Bool → List (PV × PV) → M α) : M α := match x with
  | .ref n => mAt n fun o => match o with
    | .dct kvs => (match asK y with
      | some _ => k n false kvs
      | none => M.bad)
    | .dtt kvs => (match asT y with
      | some _ => k n true kvs
      | none => M.bad)
    | _ => M.bad
  | _ => M.bad
def mkD (t : Bool) (kvs : List (PV × PV)) : MO := if t then .dtt kvs else .dct kvs
/-- d[y] -/
def pDGet : PV → PV → M PV := fun x y => mDct x y fun _ _ kvs => match dGet kvs y with
  | some v => M.ret v
  | none => M.bad
/-- d[y] = z -/
def stD : PV → PV → PV → M Unit := fun x y z => mDct x y fun n t kvs => if kvs.length < 10000000 then mPut n (mkD t (dPut kvs y z)) else M.bad
def setdK (y z : PV) (n : Nat) (t : Bool) (kvs : List (PV × PV)) : M PV := if kvs.length < 10000000 then (match dGet kvs y with
  | some v => M.ret v
  | none => (mPut n (mkD t (dPut kvs y z))).bind fun _ => M.ret z) else M.bad
/-- d.setdefault(y, z) -/
def pDSetd : FF := fun xs => match xs with
  | [x, y, z] => mDct x y (setdK y z)
  | _ => M.bad
def pDIn : PV → PV → M PV := fun y x => mDct x y fun _ _ kvs => M.ret (.bl (dGet kvs y).isSome)
def pDNotIn : PV → PV → M PV := fun y x => mDct x y fun _ _ kvs => M.ret (.bl (!(dGet kvs y).isSome))
section
variable {K : PySem.W.Frag} {ca : Ca} {W : WX} {σ : L2.St} {ν : Nu} {H : Hp} {h : MH} {α : Type}
theorem asKs_rep : ∀ {xs : List PV} {ks : List Key} {vs : List V}, asKs xs = some ks → RepL K ν H xs vs → vs = ks.map kV
  | [], _, _, e, .nil => by cases e; rfl
  | x :: xs, ks, _, e, .cons r t => by
    unfold asKs at e
    cases h : asK x with
    | none => rw [h] at e; cases e
    | some k =>
      rw [h, Option.bind_some] at e
      cases h2 : asKs xs with
      | none => rw [h2] at e; cases e
      | some ls =>
        rw [h2] at e
        cases e
        rw [List.map_cons, ← asKs_rep h2 t]
        cases r with
        | int => cases h; rfl
        | str => cases h; rfl
        | _ => cases h
/-- what a dict is, and its key -/
theorem mDct_post {x y : PV} {v u : V} {kk : Nat → Bool → List (PV × PV) → M α} {Φ : Nu → Hp → MH → α → Prop} (A : Ab K ca ν h H) (r : Rep K ν H x v) (ry : Rep K ν H y u) (P : Post K ca W σ ν H (mDct x y kk h) Φ) :
    ∃ n a, x = .ref n ∧ v = .ref a ∧ ν n = [a] ∧
      ((∃ kvs kws k, h.get n = some (.dct kvs) ∧ H a = some (.dK kws) ∧ RepKV kP K ν H kvs kws ∧ y = kP k ∧ u = kV k ∧ Post K ca W σ ν H (kk n false kvs h) Φ) ∨
       ∃ kvs kws k b, h.get n = some (.dtt kvs) ∧ H a = some (.dT kws) ∧ RepKV kPs K ν H kvs kws ∧ y = kPs k ∧ u = .ref b ∧ H b = some (.tup (k.map kV)) ∧ Post K ca W σ ν H (kk n true kvs h) Φ) := by
  cases r with
  | @ref n a l e =>
    obtain ⟨o, ho, P⟩ := mAt_post (show Post K ca W σ ν H (mAt n (fun o => match o with
      | .dct kvs => (match asK y with
        | some _ => kk n false kvs
        | none => M.bad)
      | .dtt kvs => (match asT y with
        | some _ => kk n true kvs
        | none => M.bad)
      | _ => M.bad) h) Φ from P)
    have q := A.at_ _ o ho
    rw [e] at q
    cases o with
    | dct kvs =>
      obtain ⟨a', kws, e1, e2, rl⟩ := q
      cases e1
      refine ⟨n, _, rfl, rfl, e, .inl ?_⟩
      cases hk : asK y with
      | none =>
        have P' := P
        simp only [hk] at P'
        exact (show False from P').elim
      | some k =>
        have P' := P
        simp only [hk] at P'
        refine ⟨kvs, kws, k, ho, e2, rl, asK_kP hk, ?_, P'⟩
        cases ry with
        | int => cases hk; rfl
        | str => cases hk; rfl
        | _ => cases hk
    | dtt kvs =>
      obtain ⟨a', kws, e1, e2, rl⟩ := q
      cases e1
      refine ⟨n, _, rfl, rfl, e, .inr ?_⟩
      cases hk : asT y with
      | none =>
        have P' := P
        simp only [hk] at P'
        exact (show False from P').elim
      | some k =>
        have P' := P
        simp only [hk] at P'
        cases ry with
        | @tup xs b vs q r =>
          have ev := asKs_rep hk r
          subst ev
          exact ⟨kvs, kws, k, b, ho, e2, rl, asT_kPs hk, rfl, q, P'⟩
        | _ => cases hk
    | _ => exact P.elim
  | _ => exact P.elim
/-- a dict written -/
theorem wr_dct {n : Nat} {a : Addr} {kvs mvs : List (PV × PV)} {kws : List (Key × V)} (A : Ab K ca ν h H) (ho : h.get n = some (.dct kvs)) (e : ν n = [a]) (r : RepKV kP K ν H mvs kws) : Ext ν ν H (upd H a (.dK kws)) ∧ Ab K ca ν (h.put n (.dct mvs)) (upd H a (.dK kws)) := by
  refine A.wr ho (fun b hb => ?_) (fun b hb => ?_) fun x => ?_
  · rw [e] at hb
    exact upd_ne fun z => hb (by rw [z]; exact List.mem_cons_self)
  · rw [e] at hb
    rw [List.mem_singleton.mp hb, upd_same]; exact fun z => nomatch z
  · rw [e]
    exact ⟨a, kws, rfl, upd_same, r.ext x⟩
theorem wr_dtt {n : Nat} {a : Addr} {kvs mvs : List (PV × PV)} {kws : List (List Key × V)} (A : Ab K ca ν h H) (ho : h.get n = some (.dtt kvs)) (e : ν n = [a]) (r : RepKV kPs K ν H mvs kws) : Ext ν ν H (upd H a (.dT kws)) ∧ Ab K ca ν (h.put n (.dtt mvs)) (upd H a (.dT kws)) := by
  refine A.wr ho (fun b hb => ?_) (fun b hb => ?_) fun x => ?_
  · rw [e] at hb
    exact upd_ne fun z => hb (by rw [z]; exact List.mem_cons_self)
  · rw [e] at hb
    rw [List.mem_singleton.mp hb, upd_same]; exact fun z => nomatch z
  · rw [e]
    exact ⟨a, kws, rfl, upd_same, r.ext x⟩
end
section
variable {X : Cx} {ca : Ca} {W : WX} {σ : L2.St} {ν : Nu} {H : Hp} {h : MH} {a b o i e : Expr} {fa fb fo fi : EF} {pos apos cpos : Pos} {es : List Expr} {ra : AF}
theorem px_dnewK : PX X ca W (.Dict [] [] pos) (eDNew false) := PE.imp pe_dnewK fun σ H Q ⟨ν, ρ, h, A, E, P⟩ p hp => by
  obtain ⟨x2, A2⟩ := A.nw (as := [p]) (mo := .dct []) (H' := upd H p (.dK [])) (fun a ha => by rw [List.mem_singleton.mp ha]; exact hp) (fun b hb => upd_ne fun z => hb (by rw [z]; exact List.mem_cons_self))
    (fun b hb => by rw [List.mem_singleton.mp hb, upd_same]; exact fun z => nomatch z) (fun x => ⟨p, [], rfl, upd_same, rfl, .nil⟩)
  exact (show Post X.K ca W σ ν H (mNew (.dct []) h) _ from P) _ _ x2 A2 _ (.ref (l := []) nuN_same)
theorem px_dnewT : PX X ca W (.Dict [] [] pos) (eDNew true) := PE.imp pe_dnewT fun σ H Q ⟨ν, ρ, h, A, E, P⟩ p hp => by
  obtain ⟨x2, A2⟩ := A.nw (as := [p]) (mo := .dtt []) (H' := upd H p (.dT [])) (fun a ha => by rw [List.mem_singleton.mp ha]; exact hp) (fun b hb => upd_ne fun z => hb (by rw [z]; exact List.mem_cons_self))
    (fun b hb => by rw [List.mem_singleton.mp hb, upd_same]; exact fun z => nomatch z) (fun x => ⟨p, [], rfl, upd_same, rfl, .nil⟩)
  exact (show Post X.K ca W σ ν H (mNew (.dtt []) h) _ from P) _ _ x2 A2 _ (.ref (l := []) nuN_same)
theorem dget_post {x y : PV} {v u : V} {Q : VK} (A : Ab X.K ca ν h H) (r : Rep X.K ν H x v) (ry : Rep X.K ν H y u) (P : Post X.K ca W σ ν H (pDGet x y h) fun ν' H' _ z => ∀ w, Rep X.K ν' H' z w → Q w H') : ∃ a z, v = .ref a ∧ DGet H a u (some z) ∧ Q z H := by
  obtain ⟨n, a, rfl, rfl, en, c⟩ := mDct_post A r ry P
  rcases c with ⟨kvs, kws, k, hn, ha, rk, rfl, rfl, P1⟩ | ⟨kvs, kws, k, b, hn, ha, rk, rfl, rfl, hb, P1⟩
  · have g := rk.get (fun a b => keyE_kP) (k := k)
    cases hd : dGet kvs (kP k) with
    | none => simp only [hd] at P1; exact (show False from P1).elim
    | some z =>
      simp only [hd] at P1
      obtain ⟨w, hw, rw'⟩ := g.2 z hd
      exact ⟨a, w, rfl, by rw [← hw]; exact DGet.k ha, Post.ret P1 A _ rw'⟩
  · have g := rk.get (fun a b => keyE_kPs) (k := k)
    cases hd : dGet kvs (kPs k) with
    | none => simp only [hd] at P1; exact (show False from P1).elim
    | some z =>
      simp only [hd] at P1
      obtain ⟨w, hw, rw'⟩ := g.2 z hd
      exact ⟨a, w, rfl, by rw [← hw]; exact DGet.t ha hb, Post.ret P1 A _ rw'⟩
theorem px_dget (hu : X.A.units + 1 < cLine) (ho : PX X ca W o fo) (hi : PX X ca W i fi) (hs : NoSl i) : PX X ca W (.Subscript o i pos) (eOp pDGet fo fi) :=
  PE.imp (pe_dget hu ho hi hs) fun σ H Q ⟨ν, ρ, h, A, E, P⟩ => ⟨ν, ρ, h, A, E, (Post.bind P).mono fun ν1 H1 h1 px e1 A1 P1 v rv => ⟨ν1, ρ, h1, A1, E.ext e1, (Post.bind P1).mono fun ν2 H2 h2 py e2 A2 P2 w rw' => dget_post A2 (rv.ext e2) rw' P2⟩⟩
theorem in_post {x y : PV} {v u : V} {f : Bool → Bool} {Q : VK} (A : Ab X.K ca ν h H) (r : Rep X.K ν H x v) (ry : Rep X.K ν H y u) (P : Post X.K ca W σ ν H (mDct x y (fun _ _ kvs => M.ret (.bl (f (dGet kvs y).isSome))) h) fun ν' H' _ z => ∀ w, Rep X.K ν' H' z w → Q w H') : ∃ a o, v = .ref a ∧ DGet H a u o ∧ Q (.bl (f o.isSome)) H := by
  obtain ⟨n, a, rfl, rfl, en, c⟩ := mDct_post A r ry P
  rcases c with ⟨kvs, kws, k, hn, ha, rk, rfl, rfl, P1⟩ | ⟨kvs, kws, k, b, hn, ha, rk, rfl, rfl, hb, P1⟩
  · have g := rk.get (fun a b => keyE_kP) (k := k)
    refine ⟨a, _, rfl, DGet.k ha, ?_⟩
    cases hd : dGet kvs (kP k) with
    | none => simp only [hd] at P1; rw [g.1 hd]; exact Post.ret P1 A _ .bl
    | some z =>
      simp only [hd] at P1
      obtain ⟨w, hw, rw'⟩ := g.2 z hd
      rw [hw]; exact Post.ret P1 A _ .bl
  · have g := rk.get (fun a b => keyE_kPs) (k := k)
    refine ⟨a, _, rfl, DGet.t ha hb, ?_⟩
    cases hd : dGet kvs (kPs k) with
    | none => simp only [hd] at P1; rw [g.1 hd]; exact Post.ret P1 A _ .bl
    | some z =>
      simp only [hd] at P1
      obtain ⟨w, hw, rw'⟩ := g.2 z hd
      rw [hw]; exact Post.ret P1 A _ .bl
theorem om_din (hu : X.A.units + 1 < cLine) : OpM X ca W (compareOp .In) pDIn := by
  intro pins s σ H ν h x y xv yv v u Q I rv ru A rx ry P
  obtain ⟨a, o, rfl, g, q⟩ := in_post (f := fun b => b) A ry rx P
  cases ru
  exact d_in hu I g rv fun s1 I1 => ⟨.bl _, H, I1, rfl, q⟩
theorem om_dnin (hu : X.A.units + 1 < cLine) : OpM X ca W (compareOp .NotIn) pDNotIn := by
  intro pins s σ H ν h x y xv yv v u Q I rv ru A rx ry P
  obtain ⟨a, o, rfl, g, q⟩ := in_post (f := fun b => !b) A ry rx P
  cases ru
  exact d_notIn hu I g rv fun s1 I1 => ⟨.bl _, H, I1, rfl, q⟩
theorem stm_dct (hu : X.A.units + 1 < cLine) : StM X ca W stD := by
  intro pins s σ H ν h x y z xv yv zv v u w Q I rv ru rw' A rx ry rz P
  obtain ⟨n, a, rfl, rfl, en, c⟩ := mDct_post A rx ry P
  cases rv
  rcases c with ⟨kvs, kws, k, hn, ha, rk, rfl, rfl, P1⟩ | ⟨kvs, kws, k, b, hn, ha, rk, rfl, rfl, hb, P1⟩
  · obtain ⟨hl, P2⟩ := post_ifp P1
    obtain ⟨x2, A2⟩ := wr_dct A hn en (rk.put (fun a b => keyE_kP) (k := k) rz)
    exact d_setItem hu I (DPut.k ha (by rw [← rk.length]; exact lst_line hl)) ru rw' fun s1 I1 => ⟨_, I1, P2 ν _ x2 A2⟩
  · obtain ⟨hl, P2⟩ := post_ifp P1
    obtain ⟨x2, A2⟩ := wr_dtt A hn en (rk.put (fun a b => keyE_kPs) (k := k) rz)
    exact d_setItem hu I (DPut.t ha hb (by rw [← rk.length]; exact lst_line hl)) ru rw' fun s1 I1 => ⟨_, I1, P2 ν _ x2 A2⟩
/-- setdefault, keys tuples -/
theorem d_setdT {A : Around} {E : Value → Shared → Prop} {pins : List (Addr × Obj)} {s : Shared} {a b : Addr} {kvs : List (List Key × V)} {k : List Key} {d : V} {r : Value} {Q : Value → Shared → Prop} (hu : A.units + 1 < cLine) (I : Inv X pins σ H s) (e : H a = some (.dT kvs)) (eb : H b = some (.tup (k.map kV))) (rd : RelV d r) (hl : kvs.length < sizeLine)
    (h1 : ∀ v, valV kvs k = some v → ∀ (w' : Value) (s' : Shared), Inv X pins σ H s' → RelV v w' → Q w' s') (h2 : valV kvs k = none → ∀ (w' : Value) (s' : Shared), Inv X pins σ (upd H a (.dT (putK kvs k d))) s' → RelV d w' → Q w' s') :
    wpAny (model X.prog X.w) A (call (.builtin "dict.setdefault") [.ref a, .ref b, r]) Q E s := by
  obtain ⟨z, hd, xs, rel, dd⟩ := dt_of I.hok e
  have hz : xs.length ≤ sizeLine := by rw [← Paired.length rel]; exact z
  refine call_setdefault_heap (hsz := hz) (tupleKind_room_in1 hu) (key_of I.hok eb) hd dd (fun p hp => ?_) fun hn h' dd' hs => ?_
  · have q := rel.val k
    rw [hp] at q
    cases q0 : valV kvs k with
    | none => rw [q0] at q; exact (show False from q).elim
    | some v0 =>
      rw [q0] at q
      exact h1 v0 q0 _ _ (I.tok _) q
  · have q := rel.val k
    rw [hn] at q
    cases q0 : valV kvs k with
    | some v0 => rw [q0] at q; exact (show False from q).elim
    | none =>
      have hl2 : (putK kvs k d).length ≤ sizeLine := by
        have := length_putK kvs k d
        omega
      obtain ⟨q, es, ep, hq, g2, g3, g4, _, g5⟩ := dd'
      refine h2 q0 _ _ (d_write (t' := s.toks + _) I (by rw [e]; exact True.intro) hs ⟨q, hq⟩ ⟨hl2, hd, _, (rel.put k eb rd).keeps fun c ys ec => ?_, q, es, ep, hq, g2, g3, g4, g5⟩) rd
      rw [upd_ne (ne_of ec e (fun z => nomatch z))]
      exact ec
/-- a dict, whichever -/
def ckDct : PV → M Unit := fun x => match x with
  | .ref n => mAt n fun o => match o with
    | .dct _ => M.ret ()
    | .dtt _ => M.ret ()
    | _ => M.bad
  | _ => M.bad
theorem ckDct_ok {x : PV} {v : V} {Φ : Nu → Hp → MH → Unit → Prop} (A : Ab X.K ca ν h H) (r : Rep X.K ν H x v) (P : Post X.K ca W σ ν H (ckDct x h) Φ) : ∃ a, v = .ref a ∧ IsD H a ∧ Φ ν H h () := by
  cases r with
  | @ref n a l e =>
    obtain ⟨o, ho, P⟩ := mAt_post (show Post X.K ca W σ ν H (mAt n (fun o => match o with
      | .dct _ => M.ret ()
      | .dtt _ => M.ret ()
      | _ => M.bad) h) Φ from P)
    have q := A.at_ _ o ho
    rw [e] at q
    cases o with
    | dct kvs =>
      obtain ⟨a', kws, e1, e2, rl⟩ := q
      cases e1
      exact ⟨_, rfl, .inl ⟨_, .inl e2⟩, Post.ret P A⟩
    | dtt kvs =>
      obtain ⟨a', kws, e1, e2, rl⟩ := q
      cases e1
      exact ⟨_, rfl, .inr ⟨_, .inl e2⟩, Post.ret P A⟩
    | _ => exact P.elim
  | _ => exact P.elim
/-- a method of a dict -/
theorem px_dm {nm : Str} {id : String} {g : FF} (slot : Slot "dict" nm id) (hty : typeOf (.builtin id) = pure (.type "method_descriptor"))
    (hc : CaM X ca W (.builtin id) g) (ho : PX X ca W o fo) (ha : PXA X ca W (e :: es) ra) (hbase : attributeBase o nm X.env (eval o X.env) = eval o X.env := by rfl)
    (hfew : ((backTo cpos (starEach (e :: es) X.env)).all (fun x => !x.1) && (backToKw cpos (keywordEach [] X.env)).all (fun x => x.1.isSome)
      && decide ((e :: es).length + ([] : List Keyword).length + (if ([] : List Keyword).isEmpty then 0 else 1) < 30)) = true := by rfl)
    (hline : (apos.endLine == cpos.line) = true := by rfl) (hs : starEach (e :: es) X.env = (false, eval e X.env) :: starEach es X.env := by rfl) (hplain : (backTo cpos (starEach es X.env)).any (·.1) = false := by rfl) :
    PX X ca W (.Call (.Attribute o nm apos) (e :: es) [] cpos) (eBm ckDct g fo ra) := by
  refine ⟨fun pins s σ H Q I ⟨ν, ρ, h, A, E, P⟩ => ?_⟩
  refine wpAny_Call_method_late hbase hfew hline rfl (thn (ho.run pins s σ H _ I ⟨ν, ρ, h, A, E, (Post.bind P).mono fun ν1 H1 h1 px e1 A1 P1 v rv => (⟨ν1, h1, px, A1, E.ext e1, rv, P1⟩ : ∃ ν1 h1 px, Ab X.K ca ν1 h1 H1 ∧ EnvR X.K ν1 H1 ρ σ ∧ Rep X.K ν1 H1 px v ∧ Post X.K ca W σ ν1 H1 (((ckDct px).bind fun _ => (ra ρ).bind fun xs => g (px :: xs)) h1) fun ν' H' _ x => ∀ v, Rep X.K ν' H' x v → Q v H')⟩) fun v s1 ⟨x, H1, I1, r1, ν1, h1, px, A1, E1, rp, P1⟩ => ?_)
  obtain ⟨a, rfl, ty, P2⟩ := ckDct_ok A1 rp (Post.bind P1)
  cases r1
  obtain ⟨t1, t2, _⟩ := isD_at I1 ty
  refine ⟨"dict", id, PySem.F.plainAttrs_dict, slot, hty, t1, t2, ?_⟩
  have hA := ha.run cpos pins s1 σ H1 _ I1 ⟨ν1, ρ, h1, A1, E1, (Post.bind P2).mono fun ν2 H2 h2 xs e2 A2 P4 ws rws => (⟨ν2, h2, xs, A2, rp.ext e2, rws, P4⟩ : ∃ ν2 h2 xs, Ab X.K ca ν2 h2 H2 ∧ Rep X.K ν2 H2 px (.ref a) ∧ RepL X.K ν2 H2 xs ws ∧ Post X.K ca W σ ν2 H2 (g (px :: xs) h2) fun ν' H' _ x => ∀ v, Rep X.K ν' H' x v → Q v H')⟩
  rw [hs] at hA ⊢
  refine Calls.callWith_builtin (by show (false || (backTo cpos (starEach es X.env)).any (·.1)) = false; rw [hplain] <;> rfl) (Calls.evalArgs_plain ?_)
  exact thn hA fun us s2 ⟨vs, H2, I2, r2, ν2, h2, xs, A2, rp2, rxs, P4⟩ => hc pins s2 σ H2 ν2 h2 (px :: xs) (.ref a :: vs) (.ref a :: us) Q I2 (.cons rfl r2) A2 (.cons rp2 rxs) P4
theorem ca_setd (hu : X.A.units + 1 < cLine) : CaM X ca W (.builtin "dict.setdefault") pDSetd := by
  intro pins s σ H ν h xs vs us Q I rv A rx P
  cases rx with
  | nil => exact P.elim
  | cons r1 rx =>
    cases rx with
    | nil => exact (show False from P).elim
    | cons r2 rx =>
      cases rx with
      | nil => exact (show False from P).elim
      | cons r3 rx =>
        cases rx with
        | cons _ _ => exact (show False from P).elim
        | nil =>
          cases rv with
          | cons q1 rv =>
            cases rv with
            | cons q2 rv =>
              cases rv with
              | cons q3 rv =>
                cases rv
                obtain ⟨n, a, rfl, rfl, en, c⟩ := mDct_post (kk := setdK _ _) A r1 r2 P
                cases q1
                rcases c with ⟨kvs, kws, k, hn, ha, rk, rfl, rfl, P1⟩ | ⟨kvs, kws, k, b, hn, ha, rk, rfl, rfl, hb, P1⟩
                · have g := rk.get (fun a b => keyE_kP) (k := k)
                  obtain ⟨hl, P1⟩ := post_ifp (show Post X.K ca W σ ν H ((if kvs.length < 10000000 then (match dGet kvs (kP k) with
                    | some v => M.ret v
                    | none => (mPut n (mkD false (dPut kvs (kP k) _))).bind fun _ => M.ret _) else M.bad : M PV) h) _ from P1)
                  have hl0 : kws.length < sizeLine := by rw [← rk.length]; exact lst_line hl
                  cases hd : dGet kvs (kP k) with
                  | some z =>
                    simp only [hd] at P1
                    obtain ⟨w, hw, rw'⟩ := g.2 z hd
                    refine d_setd I ha q2 q3 hl0 (fun v hv w' s' I' rw2 => ?_) fun hn' => ?_
                    · rw [hw] at hv; cases hv
                      exact ⟨w, H, I', rw2, Post.ret P1 A _ rw'⟩
                    · rw [hw] at hn'; cases hn'
                  | none =>
                    simp only [hd] at P1
                    obtain ⟨x2, A2⟩ := wr_dct A hn en (rk.put (fun a b => keyE_kP) (k := k) r3)
                    refine d_setd I ha q2 q3 hl0 (fun v hv => ?_) fun _ w' s' I' rw2 => ?_
                    · rw [g.1 hd] at hv; cases hv
                    · exact ⟨_, _, I', rw2, Post.ret ((Post.bind P1) ν _ x2 A2) A2 _ (r3.ext x2)⟩
                · cases q2
                  have g := rk.get (fun a b => keyE_kPs) (k := k)
                  obtain ⟨hl, P1⟩ := post_ifp (show Post X.K ca W σ ν H ((if kvs.length < 10000000 then (match dGet kvs (kPs k) with
                    | some v => M.ret v
                    | none => (mPut n (mkD true (dPut kvs (kPs k) _))).bind fun _ => M.ret _) else M.bad : M PV) h) _ from P1)
                  have hl0 : kws.length < sizeLine := by rw [← rk.length]; exact lst_line hl
                  cases hd : dGet kvs (kPs k) with
                  | some z =>
                    simp only [hd] at P1
                    obtain ⟨w, hw, rw'⟩ := g.2 z hd
                    refine d_setdT hu I ha hb q3 hl0 (fun v hv w' s' I' rw2 => ?_) fun hn' => ?_
                    · rw [hw] at hv; cases hv
                      exact ⟨w, H, I', rw2, Post.ret P1 A _ rw'⟩
                    · rw [hw] at hn'; cases hn'
                  | none =>
                    simp only [hd] at P1
                    obtain ⟨x2, A2⟩ := wr_dtt A hn en (rk.put (fun a b => keyE_kPs) (k := k) r3)
                    refine d_setdT hu I ha hb q3 hl0 (fun v hv => ?_) fun _ w' s' I' rw2 => ?_
                    · rw [g.1 hd] at hv; cases hv
                    · exact ⟨_, _, I', rw2, Post.ret ((Post.bind P1) ν _ x2 A2) A2 _ (r3.ext x2)⟩
end
end FX

set_option Elab.async false
set_option linter.all false
set_option maxRecDepth 100000
set_option maxHeartbeats 2000000
namespace FZ
open PySem RZ
open PySem.Sem (wp)
section
variable {prog : Program} {w : World} {A : Around} {E : Value → Shared → Prop} {s : Shared}
theorem zipT_next_item_held {z TI TO T i1 i2 l1 l2 : Addr} {f : Bool} {oT : Obj} {k1 k2 : Nat} {xs ys : Array Value} {x y : Value} {Q : Value → Shared → Prop} (D : ZipApart z TI TO i1 i2 l1 l2)
    (hz : IsZipHeld s.heap z TI TO T f) (hT : s.heap.get? T = some oT) (hTI : IsPair s.heap TI (.ref i1) (.ref i2))
    (h1 : s.heap.IsTupleIter i1 l1 k1) (h2 : s.heap.IsTupleIter i2 l2 k2) (hl1 : s.heap.IsTuple l1 xs) (hl2 : s.heap.IsTuple l2 ys) (hx : xs[k1]? = some x) (hy : ys[k2]? = some y)
    (hQ : ∀ h', IsZipHeld h' z TI TO T true → h'.IsTupleIter i1 l1 (k1 + 1) → h'.IsTupleIter i2 l2 (k2 + 1) → IsPair h' s.heap.objs.size x y → h'.objs.size = s.heap.objs.size + 1 →
      (∀ c o, c ≠ z → c ≠ i1 → c ≠ i2 → s.heap.get? c = some o → h'.get? c = some o) → Q (.ref s.heap.objs.size) { s with heap := h' }) :
    wpAny (model prog w) A (Builtin.«zip.__next__» ⟨[.ref z], []⟩) (fun fin s' => ∃ v, fin = .done (.ret v) ∧ Q v s') E s := by
  show wpAny _ _ (field (.ref z) 2 >>= _) _ _ _
  refine wpAny_bind (wpAny_field hz rfl (x := .bool false) rfl ?_)
  show wpAny _ _ (field (.ref z) 3 >>= _) _ _ _
  refine wpAny_bind (wpAny_field hz rfl (x := .ref TI) rfl ?_)
  refine wpAny_bind (wpAny_seqItems hTI rfl ?_)
  show wpAny _ _ (Builtin.SmallTypes.ownedTupleIsFree (.ref z) >>= _) _ _ _
  refine wpAny_bind (wpAny_tupleHeld_zip hz hT fun h₁ hz₁ hs₁ => ?_)
  simp only [Bool.false_eq_true, if_false]
  refine wpAny_bind ?_
  rw [← Array.forIn_toList]
  simp only [List.forIn_cons, List.forIn_nil]
  refine wpAny_bind (wpAny_bind (wpAny_holding ?_))
  show wpAny _ _ (Builtin.SmallTypes.nextOf (.ref i1) >>= _) _ _ _
  refine wpAny_bind (nextOf_tuple_item (s := { s with heap := h₁ }) (h1.extBut hs₁.extBut D.i1z) (hl1.extBut hs₁.extBut D.l1z) hx fun h₂ h1₂ hs₂ => wpAny_pure ?_)
  refine wpAny_pure ?_
  refine wpAny_bind (wpAny_bind (wpAny_holding ?_))
  show wpAny _ _ (Builtin.SmallTypes.nextOf (.ref i2) >>= _) _ _ _
  refine wpAny_bind (nextOf_tuple_item (s := { s with heap := h₂ }) ((h2.extBut hs₁.extBut D.i2z).extBut hs₂.extBut D.i12.symm) ((hl2.extBut hs₁.extBut D.l2z).extBut hs₂.extBut D.l2i1) hy fun h₃ h2₃ hs₃ => wpAny_pure ?_)
  refine wpAny_pure (wpAny_pure ?_)
  show wpAny _ _ (newTuple [x, y] >>= _) _ _ _
  refine wpAny_bind (wpAny_newTuple ?_)
  have hsz : h₃.objs.size = s.heap.objs.size := by rw [hs₃.1, hs₂.1, hs₁.1]
  have hz₃ : IsZipHeld h₃ z TI TO T true := hs₃.extBut _ _ D.i2z.symm (hs₂.extBut _ _ D.i1z.symm hz₁)
  have hk : ∀ c o, c ≠ z → c ≠ i1 → c ≠ i2 → s.heap.get? c = some o → h₃.get? c = some o := fun c o c1 c2 c3 e => hs₃.extBut _ _ c3 (hs₂.extBut _ _ c2 (hs₁.extBut _ _ c1 e))
  have h1₃ : h₃.IsTupleIter i1 l1 (k1 + 1) := h1₂.extBut hs₃.extBut D.i12
  refine wpAny_pure ⟨_, rfl, ?_⟩
  show Q (.ref h₃.objs.size) _
  have hp : IsPair (h₃.push { cls := .type "tuple", data := .seq #[x, y] }) h₃.objs.size x y := Heap.get?_push_size _ rfl
  have hz4 : (h₃.push { cls := .type "tuple", data := .seq #[x, y] }).objs.size = h₃.objs.size + 1 := Heap.size_push ..
  rw [hsz] at hp hz4 ⊢
  exact hQ _ (Heap.get?_push_of_some _ hz₃) (h1₃.at fun o e => Heap.get?_push_of_some _ e) (h2₃.at fun o e => Heap.get?_push_of_some _ e) hp hz4 fun c o c1 c2 c3 e => Heap.get?_push_of_some _ (hk c o c1 c2 c3 e)
theorem zipT_next_end_held {z TI TO T i1 i2 l1 l2 : Addr} {f : Bool} {oT : Obj} {k1 k2 : Nat} {xs ys : Array Value} {Q : Fin → Shared → Prop} (hh : A.handled = none) (D : ZipApart z TI TO i1 i2 l1 l2)
    (hz : IsZipHeld s.heap z TI TO T f) (hT : s.heap.get? T = some oT) (hTI : IsPair s.heap TI (.ref i1) (.ref i2))
    (h1 : s.heap.IsTupleIter i1 l1 k1) (h2 : s.heap.IsTupleIter i2 l2 k2) (hl1 : s.heap.IsTuple l1 xs) (hl2 : s.heap.IsTuple l2 ys) (hend : xs[k1]? = none ∨ ys[k2]? = none)
    (hE : ∀ h' e, (∀ c o, c ≠ z → c ≠ i1 → c ≠ i2 → s.heap.get? c = some o → h'.get? c = some o) → (∃ o, h'.get? e = some o ∧ o.cls = .type "StopIteration") → E (.ref e) { s with heap := h' }) :
    wpAny (model prog w) A (Builtin.«zip.__next__» ⟨[.ref z], []⟩) Q E s := by
  show wpAny _ _ (field (.ref z) 2 >>= _) _ _ _
  refine wpAny_bind (wpAny_field hz rfl (x := .bool false) rfl ?_)
  show wpAny _ _ (field (.ref z) 3 >>= _) _ _ _
  refine wpAny_bind (wpAny_field hz rfl (x := .ref TI) rfl ?_)
  refine wpAny_bind (wpAny_seqItems hTI rfl ?_)
  show wpAny _ _ (Builtin.SmallTypes.ownedTupleIsFree (.ref z) >>= _) _ _ _
  refine wpAny_bind (wpAny_tupleHeld_zip hz hT fun h₁ hz₁ hs₁ => ?_)
  simp only [Bool.false_eq_true, if_false]
  refine wpAny_bind ?_
  rw [← Array.forIn_toList]
  simp only [List.forIn_cons, List.forIn_nil]
  refine wpAny_bind (wpAny_bind (wpAny_holding ?_))
  show wpAny _ _ (Builtin.SmallTypes.nextOf (.ref i1) >>= _) _ _ _
  cases hx : xs[k1]? with
  | none =>
    refine wpAny_bind (nextOf_tuple_end (s := { s with heap := h₁ }) hh (h1.extBut hs₁.extBut D.i1z) (hl1.extBut hs₁.extBut D.l1z) hx fun h₂ e hs₂ he => ?_)
    exact hE h₂ e (fun c o c1 c2 _ x => hs₂ _ _ c2 (hs₁.extBut _ _ c1 x)) he
  | some x =>
    have hy : ys[k2]? = none := by rcases hend with h | h; rw [hx] at h; cases h; exact h
    refine wpAny_bind (nextOf_tuple_item (s := { s with heap := h₁ }) (h1.extBut hs₁.extBut D.i1z) (hl1.extBut hs₁.extBut D.l1z) hx fun h₂ h1₂ hs₂ => wpAny_pure ?_)
    refine wpAny_pure ?_
    refine wpAny_bind (wpAny_bind (wpAny_holding ?_))
    show wpAny _ _ (Builtin.SmallTypes.nextOf (.ref i2) >>= _) _ _ _
    refine wpAny_bind (nextOf_tuple_end (s := { s with heap := h₂ }) hh ((h2.extBut hs₁.extBut D.i2z).extBut hs₂.extBut D.i12.symm) ((hl2.extBut hs₁.extBut D.l2z).extBut hs₂.extBut D.l2i1) hy fun h₃ e hs₃ he => ?_)
    exact hE h₃ e (fun c o c1 c2 c3 x => hs₃ _ _ c3 (hs₂.extBut _ _ c2 (hs₁.extBut _ _ c1 x))) he
theorem pyNext_zipT_item_held {z TI TO T i1 i2 l1 l2 : Addr} {f : Bool} {oT : Obj} {k1 k2 : Nat} {xs ys : Array Value} {x y : Value} {Q : Option Value → Shared → Prop} (D : ZipApart z TI TO i1 i2 l1 l2)
    (hz : IsZipHeld s.heap z TI TO T f) (hT : s.heap.get? T = some oT) (hTI : IsPair s.heap TI (.ref i1) (.ref i2))
    (h1 : s.heap.IsTupleIter i1 l1 k1) (h2 : s.heap.IsTupleIter i2 l2 k2) (hl1 : s.heap.IsTuple l1 xs) (hl2 : s.heap.IsTuple l2 ys) (hx : xs[k1]? = some x) (hy : ys[k2]? = some y)
    (hQ : ∀ h', IsZipHeld h' z TI TO T true → h'.IsTupleIter i1 l1 (k1 + 1) → h'.IsTupleIter i2 l2 (k2 + 1) → IsPair h' s.heap.objs.size x y → h'.objs.size = s.heap.objs.size + 1 →
      (∀ c o, c ≠ z → c ≠ i1 → c ≠ i2 → s.heap.get? c = some o → h'.get? c = some o) → Q (some (.ref s.heap.objs.size)) { s with heap := h' }) :
    wpAny (model prog w) A (pyNext (.ref z)) Q E s := by
  have hTy : s.TypeIs (.ref z) "zip" := ⟨_, hz, rfl⟩
  unfold pyNext
  exact wpAny_bind (wpAny_attempt (wpAny_callSpecial?_slot (name := Str.ofString "__next__") hTy F.slot_zip_next
    (wpAny_call_entry F.slot_zip_next hTy F.entry_zip_next
      (zipT_next_item_held D hz hT hTI h1 h2 hl1 hl2 hx hy fun h' a1 a3 a4 a5 a6 a7 => wpAny_pure (hQ h' a1 a3 a4 a5 a6 a7)) (F.args_zip_next_1 _))))
theorem pyNext_zipT_end_held {z TI TO T i1 i2 l1 l2 : Addr} {f : Bool} {oT : Obj} {k1 k2 : Nat} {xs ys : Array Value} {Q : Option Value → Shared → Prop} (hh : A.handled = none) (D : ZipApart z TI TO i1 i2 l1 l2)
    (hz : IsZipHeld s.heap z TI TO T f) (hT : s.heap.get? T = some oT) (hTI : IsPair s.heap TI (.ref i1) (.ref i2))
    (h1 : s.heap.IsTupleIter i1 l1 k1) (h2 : s.heap.IsTupleIter i2 l2 k2) (hl1 : s.heap.IsTuple l1 xs) (hl2 : s.heap.IsTuple l2 ys) (hend : xs[k1]? = none ∨ ys[k2]? = none)
    (hQ : ∀ h', (∀ c o, c ≠ z → c ≠ i1 → c ≠ i2 → s.heap.get? c = some o → h'.get? c = some o) → Q none { s with heap := h' }) : wpAny (model prog w) A (pyNext (.ref z)) Q E s := by
  have hTy : s.TypeIs (.ref z) "zip" := ⟨_, hz, rfl⟩
  unfold pyNext
  refine wpAny_bind (wpAny_attempt (wpAny_callSpecial?_slot (name := Str.ofString "__next__") hTy F.slot_zip_next
    (wpAny_call_entry F.slot_zip_next hTy F.entry_zip_next (zipT_next_end_held hh D hz hT hTI h1 h2 hl1 hl2 hend fun h' e hk he => ?_) (F.args_zip_next_1 _))))
  obtain ⟨o, ho, hc⟩ := he
  refine wpAny_bind (wpAny_isInstance (T := "StopIteration") (b := true) ⟨o, ho, hc⟩ isSubtype_stop ?_)
  exact wpAny_pure (hQ _ hk)
/-- the zip at its i-th turn; S apart -/
def ZSt (z TI TO i1 i2 l1 l2 S : Addr) (xs ys : Array Value) (i : Nat) (h : Heap) : Prop := IsPair h TI (.ref i1) (.ref i2) ∧ h.IsTupleIter i1 l1 i ∧ h.IsTupleIter i2 l2 i ∧ h.IsTuple l1 xs ∧ h.IsTuple l2 ys ∧
  ((IsZip h z TI TO .none ∧ ∃ a b, IsPair h TO a b) ∨ ∃ T f oT, IsZipHeld h z TI TO T f ∧ h.get? T = some oT ∧ T ≠ z ∧ T ≠ i1 ∧ T ≠ i2 ∧ T ≠ S)
structure SApart (z TI TO i1 i2 l1 l2 S : Addr) : Prop where
  z : z ≠ S
  TI : TI ≠ S
  TO : TO ≠ S
  i1 : i1 ≠ S
  i2 : i2 ≠ S
  l1 : l1 ≠ S
  l2 : l2 ≠ S
theorem ZSt.keep {z TI TO i1 i2 l1 l2 S : Addr} {xs ys : Array Value} {i : Nat} {h h' : Heap} (N : SApart z TI TO i1 i2 l1 l2 S) (st : ZSt z TI TO i1 i2 l1 l2 S xs ys i h) (hk : ∀ b o, b ≠ S → h.get? b = some o → h'.get? b = some o) : ZSt z TI TO i1 i2 l1 l2 S xs ys i h' := by
  obtain ⟨hTI, h1, h2, hl1, hl2, hz⟩ := st
  refine ⟨hk _ _ N.TI hTI, h1.at fun o e => hk _ o N.i1 e, h2.at fun o e => hk _ o N.i2 e, hl1.at fun o e => hk _ o N.l1 e, hl2.at fun o e => hk _ o N.l2 e, ?_⟩
  rcases hz with ⟨hz, a, b, hTO⟩ | ⟨T, f, oT, hz, hT, r1, r2, r3, r4⟩
  · exact .inl ⟨hk _ _ N.z hz, a, b, hk _ _ N.TO hTO⟩
  · exact .inr ⟨T, f, oT, hk _ _ N.z hz, hk _ _ r4 hT, r1, r2, r3, r4⟩
theorem zst_item {z TI TO i1 i2 l1 l2 S : Addr} {xs ys : Array Value} {i : Nat} {x y : Value} {Q : Option Value → Shared → Prop} (D : ZipApart z TI TO i1 i2 l1 l2) (N : SApart z TI TO i1 i2 l1 l2 S) (hS : S < s.heap.objs.size) (st : ZSt z TI TO i1 i2 l1 l2 S xs ys i s.heap) (hx : xs[i]? = some x) (hy : ys[i]? = some y)
    (hQ : ∀ h', ZSt z TI TO i1 i2 l1 l2 S xs ys (i + 1) h' → IsPair h' s.heap.objs.size x y → h'.objs.size = s.heap.objs.size + 1 → (∀ c o, c ≠ z → c ≠ TO → c ≠ i1 → c ≠ i2 → s.heap.get? c = some o → h'.get? c = some o) → Q (some (.ref s.heap.objs.size)) { s with heap := h' }) :
    wpAny (model prog w) A (pyNext (.ref z)) Q E s := by
  obtain ⟨hTI, h1, h2, hl1, hl2, hz⟩ := st
  have lt : ∀ {c o}, s.heap.get? c = some o → s.heap.objs.size ≠ c := fun e => Nat.ne_of_gt (Heap.lt_size e)
  have n1 : s.heap.objs.size ≠ i1 := let ⟨_, e, _⟩ := h1; lt e
  have n2 : s.heap.objs.size ≠ i2 := let ⟨_, e, _⟩ := h2; lt e
  rcases hz with ⟨hz, a, b, hTO⟩ | ⟨T, f, oT, hz, hT, r1, r2, r3, r4⟩
  · refine pyNext_zipT_item D hz hTI hTO h1 h2 hl1 hl2 hx hy fun h' a1 a2 a3 a4 a5 a6 hk => ?_
    exact hQ h' ⟨hk _ _ D.TIz D.TITO D.TIi1 D.TIi2 hTI, a3, a4, hl1.at fun o e => hk _ o D.l1z D.l1TO D.l1i1 D.l1i2 e, hl2.at fun o e => hk _ o D.l2z D.l2TO D.l2i1 D.l2i2 e,
      .inr ⟨s.heap.objs.size, false, _, a1, a5, lt hz, n1, n2, Nat.ne_of_gt hS⟩⟩ a5 a6 hk
  · refine pyNext_zipT_item_held D hz hT hTI h1 h2 hl1 hl2 hx hy fun h' a1 a3 a4 a5 a6 hk => ?_
    exact hQ h' ⟨hk _ _ D.TIz D.TIi1 D.TIi2 hTI, a3, a4, hl1.at fun o e => hk _ o D.l1z D.l1i1 D.l1i2 e, hl2.at fun o e => hk _ o D.l2z D.l2i1 D.l2i2 e,
      .inr ⟨T, true, oT, a1, hk _ _ r1 r2 r3 hT, r1, r2, r3, r4⟩⟩ a5 a6 fun c o c1 _ c3 c4 e => hk c o c1 c3 c4 e
theorem zst_done {z TI TO i1 i2 l1 l2 S : Addr} {xs ys : Array Value} {i : Nat} {Q : Option Value → Shared → Prop} (hh : A.handled = none) (D : ZipApart z TI TO i1 i2 l1 l2) (st : ZSt z TI TO i1 i2 l1 l2 S xs ys i s.heap) (hend : xs[i]? = none ∨ ys[i]? = none)
    (hQ : ∀ h', (∀ c o, c ≠ z → c ≠ TO → c ≠ i1 → c ≠ i2 → s.heap.get? c = some o → h'.get? c = some o) → Q none { s with heap := h' }) : wpAny (model prog w) A (pyNext (.ref z)) Q E s := by
  obtain ⟨hTI, h1, h2, hl1, hl2, hz⟩ := st
  rcases hz with ⟨hz, a, b, hTO⟩ | ⟨T, f, oT, hz, hT, r1, r2, r3, r4⟩
  · exact pyNext_zipT_end hh D hz hTI hTO h1 h2 hl1 hl2 hend hQ
  · exact pyNext_zipT_end_held hh D hz hT hTI h1 h2 hl1 hl2 hend fun h' hk => hQ h' fun c o c1 _ c3 c4 e => hk c o c1 c3 c4 e
end
/-- the tuples that were made -/
def MadeZ (xs ys : Array Value) (lo : Nat) (h : Heap) (as : List Addr) : Prop := as.Pairwise (· < ·) ∧ ∀ (j : Nat) (a : Addr), as[j]? = some a → lo ≤ a ∧ ∃ x y, xs[j]? = some x ∧ ys[j]? = some y ∧ IsPair h a x y
section
variable {prog : Program} {w : World} {A : Around} {E : Value → Shared → Prop} {s : Shared} {R : Result → Shared → Prop}
theorem loopZ {z TI TO i1 i2 l1 l2 S lo : Addr} {xs ys : Array Value} (hh : A.handled = none) (D : ZipApart z TI TO i1 i2 l1 l2) (N : SApart z TI TO i1 i2 l1 l2 S) (hlo : z < lo ∧ TO < lo ∧ i1 < lo ∧ i2 < lo ∧ S < lo) (hn : xs.size ≤ sizeLine) (hsz : xs.size = ys.size) (res : Value) {h₁ : Heap}
    (hR : ∀ h' acc c as, (∀ b o, b ≠ S → b ≠ z → b ≠ TO → b ≠ i1 → b ≠ i2 → h₁.get? b = some o → h'.get? b = some o) → h'.get? S = some { cls := .type "list", dict := none, data := .seq acc c, slots := #[] } → as.length = xs.size → MadeZ xs ys lo h' as →
      acc.toList = as.map Value.ref → R (.ok (.ret res)) { s with heap := h' }) :
    ∀ (k i : Nat) (h : Heap) (c : Nat) (acc : Array Value) (as : List Addr), xs.size - i = k → i ≤ xs.size → ZSt z TI TO i1 i2 l1 l2 S xs ys i h → (∀ b o, b ≠ S → b ≠ z → b ≠ TO → b ≠ i1 → b ≠ i2 → h₁.get? b = some o → h.get? b = some o) →
      h.get? S = some { cls := .type "list", dict := none, data := .seq acc c, slots := #[] } → acc.toList = as.map Value.ref → as.length = i → MadeZ xs ys lo h as → lo ≤ h.objs.size →
      codeAny (model prog w) A (.builtin "list.extend.loop" ⟨[.ref S, .ref z, res], []⟩) R { s with heap := h } := by
  intro k
  induction k with
  | zero =>
    intro i h c acc as hk hi hst hkeep hS hacc hal hG hIs
    refine codeAny_builtin PySem.F.entry_extend_loop ?_
    rw [Around.under_plainId PySem.F.plain_extend_loop _]
    show wpAny _ A.in1 (pyNext (.ref z) >>= _) _ _ _
    refine wpAny_bind (zst_done (s := { s with heap := h }) (A := A.in1) hh D hst (.inl (Array.getElem?_eq_none (by omega))) fun h' hk' => ?_)
    refine wpAny_pure (hR h' acc c as (fun b o h1 h2 h3 h4 h5 e => hk' b o h2 h3 h4 h5 (hkeep b o h1 h2 h3 h4 h5 e)) (hk' S _ (Ne.symm N.z) (Ne.symm N.TO) (Ne.symm N.i1) (Ne.symm N.i2) hS) (by omega) ⟨hG.1, fun j a hj => ?_⟩ hacc)
    obtain ⟨hl, x, y, hx, hy, hp⟩ := hG.2 j a hj
    exact ⟨hl, x, y, hx, hy, hk' a _ (Nat.ne_of_gt (Nat.lt_of_lt_of_le hlo.1 hl)) (Nat.ne_of_gt (Nat.lt_of_lt_of_le hlo.2.1 hl)) (Nat.ne_of_gt (Nat.lt_of_lt_of_le hlo.2.2.1 hl)) (Nat.ne_of_gt (Nat.lt_of_lt_of_le hlo.2.2.2.1 hl)) hp⟩
  | succ k ih =>
    intro i h c acc as hk hi hst hkeep hS hacc hal hG hIs
    have hlt : i < xs.size := by omega
    have hlt2 : i < ys.size := by omega
    have hasz : acc.size = i := by rw [← Array.length_toList, hacc, List.length_map, hal]
    have ex := Array.getElem?_eq_getElem hlt
    have ey := Array.getElem?_eq_getElem hlt2
    have hSl : S < h.objs.size := Heap.lt_size hS
    refine codeAny_builtin PySem.F.entry_extend_loop ?_
    rw [Around.under_plainId PySem.F.plain_extend_loop _]
    show wpAny _ A.in1 (pyNext (.ref z) >>= _) _ _ _
    refine wpAny_bind (zst_item (s := { s with heap := h }) (A := A.in1) D N hSl hst ex ey fun h' hst' ht hz hkp => ?_)
    dsimp only at ht hz hkp ⊢
    have hS' := hkp S _ (Ne.symm N.z) (Ne.symm N.TO) (Ne.symm N.i1) (Ne.symm N.i2) hS
    have up : ∀ b o, b ≠ S → h'.get? b = some o → (h'.update S (Obj.mapSeq (·.push (Value.ref h.objs.size)))).get? b = some o := fun b o hb e => (Heap.get?_update_other _ _ (Ne.symm hb)).trans e
    show wpAny _ A.in1 (updateSeq S (·.push (Value.ref h.objs.size)) >>= _) _ _ _
    refine wpAny_bind ?_
    refine wpAny_updateSeq hS' rfl (wpAny_pure ⟨plainId_quiet PySem.F.plain_extend_loop _, ih (i + 1) _ _ (acc.push (Value.ref h.objs.size)) (as ++ [h.objs.size]) (by omega) hlt (hst'.keep N up)
      (fun b o h1 h2 h3 h4 h5 e => up b o h1 (hkp b o h2 h3 h4 h5 (hkeep b o h1 h2 h3 h4 h5 e))) (Heap.get?_update_self _ hS' rfl) (by rw [Array.toList_push, hacc, List.map_append]; rfl) (by rw [List.length_append, hal]; rfl) ?_ ?_⟩) (by rw [hasz]; omega) (by show (acc.push (Value.ref h.objs.size)).size ≤ sizeLine + 1; rw [Array.size_push, hasz]; omega)
    · refine ⟨List.pairwise_append.mpr ⟨hG.1, List.pairwise_singleton _ _, fun a ha b hb => ?_⟩, ?_⟩
      · rw [List.mem_singleton.mp hb]
        obtain ⟨j, hj⟩ := List.mem_iff_getElem?.mp ha
        obtain ⟨_, _, _, _, _, hp⟩ := hG.2 j a hj
        exact Heap.lt_size hp
      intro j b hj
      rcases Nat.lt_trichotomy j as.length with h1 | h1 | h1
      · rw [List.getElem?_append_left h1] at hj
        obtain ⟨hl, x, y, hx, hy, hp⟩ := hG.2 j b hj
        have hbS : b ≠ S := Nat.ne_of_gt (Nat.lt_of_lt_of_le hlo.2.2.2.2 hl)
        exact ⟨hl, x, y, hx, hy, up b _ hbS (hkp b _ (Nat.ne_of_gt (Nat.lt_of_lt_of_le hlo.1 hl)) (Nat.ne_of_gt (Nat.lt_of_lt_of_le hlo.2.1 hl)) (Nat.ne_of_gt (Nat.lt_of_lt_of_le hlo.2.2.1 hl)) (Nat.ne_of_gt (Nat.lt_of_lt_of_le hlo.2.2.2.1 hl)) hp)⟩
      · subst h1
        have hb : h.objs.size = b := by simpa using hj
        subst hb
        exact ⟨hIs, _, _, by rw [hal]; exact ex, by rw [hal]; exact ey, up _ _ (Nat.ne_of_gt hSl) ht⟩
      · have hnone : (as ++ [h.objs.size])[j]? = none := List.getElem?_eq_none (by rw [List.length_append, List.length_singleton]; omega)
        rw [hnone] at hj; cases hj
    · have e : (h'.update S (Obj.mapSeq (·.push (Value.ref h.objs.size)))).get? h.objs.size = _ := up _ _ (Nat.ne_of_gt hSl) ht
      exact Nat.le_of_lt (Nat.lt_of_le_of_lt hIs (Heap.lt_size e))
theorem zip_no_len : typeLookup (.type "zip") "__len__" = pure none := by rw [typeLookup_type, builtinLookup_eq_fast]; kernel_rfl
theorem zip_no_hint : typeLookup (.type "zip") "__length_hint__" = pure none := by rw [typeLookup_type, builtinLookup_eq_fast]; kernel_rfl
theorem extZ {z TI TO i1 i2 l1 l2 S lo : Addr} {xs ys : Array Value} (hh : A.handled = none) (D : ZipApart z TI TO i1 i2 l1 l2) (N : SApart z TI TO i1 i2 l1 l2 S) (hlo : z < lo ∧ TO < lo ∧ i1 < lo ∧ i2 < lo ∧ S < lo) (hn : xs.size ≤ sizeLine) (hsz : xs.size = ys.size) (res : Value) (c₀ : Nat)
    (hz : IsZip s.heap z TI TO .none) (hTI : IsPair s.heap TI (.ref i1) (.ref i2)) (hTO : ∃ a b, IsPair s.heap TO a b) (h1 : s.heap.IsTupleIter i1 l1 0) (h2 : s.heap.IsTupleIter i2 l2 0) (hl1 : s.heap.IsTuple l1 xs) (hl2 : s.heap.IsTuple l2 ys) (hs : lo ≤ s.heap.objs.size)
    (hS : s.heap.get? S = some { cls := .type "list", data := .seq #[] c₀ })
    (hR : ∀ h' acc c as, (∀ b o, b ≠ S → b ≠ z → b ≠ TO → b ≠ i1 → b ≠ i2 → s.heap.get? b = some o → h'.get? b = some o) → h'.get? S = some { cls := .type "list", dict := none, data := .seq acc c, slots := #[] } → as.length = xs.size → MadeZ xs ys lo h' as →
      acc.toList = as.map Value.ref → R (.ok (.ret res)) { s with heap := h' }) :
    wpAny (model prog w) A.in1 (Builtin.List.listExtendWith (.ref S) (.ref z) res)
      (fun fin s' => match fin with | .done f => R (.ok f) s' | .again c' => c'.quiet = true ∧ codeAny (model prog w) A c' R s') (fun e s' => R (.error e) s') s := by
  have hT : s.TypeIs (.ref z) "zip" := ⟨_, hz, rfl⟩
  unfold Builtin.List.listExtendWith
  refine wpAny_bind (wpAny_typeOf hT ?_)
  have g1 : Builtin.List.listSameRef (.ref S) (.ref z) = false := by simp [Builtin.List.listSameRef, Ne.symm N.z]
  have g2 : (Value.type "zip" == Value.type "list") = false := by decide
  have g3 : (Value.type "zip" == Value.type "tuple") = false := by decide
  simp only [g1, g2, g3, Bool.or_false, Bool.false_eq_true, if_false]
  refine wpAny_bind (wpAny_pyIter_zip hz ?_)
  refine wpAny_bind (wpAny_holding ?_)
  unfold Builtin.List.listLengthHint
  refine wpAny_bind (wpAny_specialOf hT zip_no_len ?_)
  show wpAny _ A.in1 (specialOf (Value.ref z) (Str.ofString "__length_hint__") >>= _) _ _ _
  refine wpAny_bind (wpAny_specialOf hT zip_no_hint ?_)
  refine wpAny_pure ?_
  have key : ∀ (h : Heap) (c₁ : Nat), (∀ b o, b ≠ S → s.heap.get? b = some o → h.get? b = some o) → h.get? S = some { cls := .type "list", data := .seq #[] c₁ } → lo ≤ h.objs.size → codeAny (model prog w) A (.builtin "list.extend.loop" ⟨[.ref S, .ref z, res], []⟩) R { s with heap := h } := by
    intro h c₁ hk hS₁ hl
    have st0 : ZSt z TI TO i1 i2 l1 l2 S xs ys 0 s.heap := by
      obtain ⟨a, b, hTO⟩ := hTO
      exact ⟨hTI, h1, h2, hl1, hl2, .inl ⟨hz, a, b, hTO⟩⟩
    exact loopZ (s := s) (h₁ := s.heap) hh D N hlo hn hsz res hR xs.size 0 h c₁ #[] [] (Nat.sub_zero _) (Nat.zero_le _) (st0.keep N hk) (fun b o hb _ _ _ _ e => hk b o hb e) hS₁ rfl rfl ⟨.nil, fun j a hj => by simp at hj⟩ hl
  refine wpAny_ite_split (fun _ => ?_) (fun _ => wpAny_pure ⟨plainId_quiet PySem.F.plain_extend_loop _, key _ c₀ (fun b o _ e => e) hS hs⟩)
  refine wpAny_bind (wpAny_rule ?_)
  refine wpAny_bind ?_
  show wpAny _ _ (updateSeq S (·.push .none) >>= fun _ => updateSeq S (·.pop)) _ _ _
  refine wpAny_bind (wpAny_updateSeq hS rfl ?_)
  have hS₂ := Heap.get?_update_self (Obj.mapSeq (·.push Value.none)) hS rfl
  refine wpAny_updateSeq (hz := by seq_fits) hS₂ rfl ?_
  have hS₃ := Heap.get?_update_self (Obj.mapSeq (·.pop)) hS₂ rfl
  refine wpAny_pure ⟨plainId_quiet PySem.F.plain_extend_loop _, key _ _ (fun b o hb e => ?_) hS₃ ?_⟩
  · exact (Heap.get?_update_other _ _ (Ne.symm hb)).trans ((Heap.get?_update_other _ _ (Ne.symm hb)).trans e)
  · rw [Heap.size_update, Heap.size_update]; exact hs
/-- list(z) of a fresh zip of two tuples -/
theorem call_list_zipT {z TI TO i1 i2 l1 l2 : Addr} {xs ys : Array Value} {Q : Value → Shared → Prop} (hh : A.handled = none) (D : ZipApart z TI TO i1 i2 l1 l2) (hn : xs.size ≤ sizeLine) (hsz : xs.size = ys.size)
    (hz : IsZip s.heap z TI TO .none) (hTI : IsPair s.heap TI (.ref i1) (.ref i2)) (hTO : ∃ a b, IsPair s.heap TO a b) (h1 : s.heap.IsTupleIter i1 l1 0) (h2 : s.heap.IsTupleIter i2 l2 0) (hl1 : s.heap.IsTuple l1 xs) (hl2 : s.heap.IsTuple l2 ys)
    (hQ : ∀ h' acc c as, (∀ b o, b ≠ z → b ≠ TO → b ≠ i1 → b ≠ i2 → s.heap.get? b = some o → h'.get? b = some o) → h'.get? s.heap.objs.size = some { cls := .type "list", dict := none, data := .seq acc c, slots := #[] } → as.length = xs.size → MadeZ xs ys (s.heap.objs.size + 1) h' as →
      acc.toList = as.map Value.ref → Q (.ref s.heap.objs.size) { s with heap := h' }) : wpAny (model prog w) A (call (.type "list") [.ref z]) Q E s := by
  have lt : ∀ {c o}, s.heap.get? c = some o → c ≠ s.heap.objs.size := fun e => Nat.ne_of_lt (Heap.lt_size e)
  have lt' : ∀ {c o}, s.heap.get? c = some o → c < s.heap.objs.size + 1 := fun e => Nat.lt_succ_of_lt (Heap.lt_size e)
  have N : SApart z TI TO i1 i2 l1 l2 s.heap.objs.size := by
    obtain ⟨a, b, hTO⟩ := hTO
    obtain ⟨_, e1, _⟩ := id h1
    obtain ⟨_, e2, _⟩ := id h2
    obtain ⟨_, e3, _⟩ := id hl1
    obtain ⟨_, e4, _⟩ := id hl2
    exact ⟨lt hz, lt hTI, lt hTO, lt e1, lt e2, lt e3, lt e4⟩
  have hlo : z < s.heap.objs.size + 1 ∧ TO < s.heap.objs.size + 1 ∧ i1 < s.heap.objs.size + 1 ∧ i2 < s.heap.objs.size + 1 ∧ s.heap.objs.size < s.heap.objs.size + 1 := by
    obtain ⟨a, b, hTO⟩ := hTO
    obtain ⟨_, e1, _⟩ := id h1
    obtain ⟨_, e2, _⟩ := id h2
    exact ⟨lt' hz, lt' hTO, lt' e1, lt' e2, Nat.lt_succ_self _⟩
  have pk : ∀ {b o}, s.heap.get? b = some o → (s.heap.push { cls := .type "list", data := .seq #[] }).get? b = some o := fun e => Heap.get?_push_of_some _ e
  refine callType_codes (Q₁ := fun obj s₁ => obj = .ref s.heap.objs.size ∧ s₁ = { s with heap := s.heap.push { cls := .type "list", data := .seq #[] } }) F.called_list (F.typeCall_list_1 _) F.entry_list_init
    (code_list_new _ ⟨rfl, rfl⟩) fun obj s₁ h₁ => ?_
  obtain ⟨rfl, rfl⟩ := h₁
  have hS : (s.heap.push { cls := .type "list", data := .seq #[] }).get? s.heap.objs.size = some { cls := .type "list", data := .seq #[] } := Heap.get?_push_size _ rfl
  refine ⟨⟨_, hS, rfl⟩, F.args_list_init_2 _ _, ?_⟩
  show wpAny _ A.in1.in1 (do let old ← Builtin.List.listItems (.ref s.heap.objs.size); Builtin.List.listUpdate (.ref s.heap.objs.size) (fun _ => #[]); letGo old.toList.reverse; Builtin.List.listExtendWith (.ref s.heap.objs.size) (.ref z) .none) _ _ _
  refine wpAny_bind ?_
  unfold Builtin.List.listItems
  refine wpAny_bind (wpAny_seqItems hS rfl (wpAny_pure ?_))
  show wpAny _ A.in1.in1 (updateSeq s.heap.objs.size (fun _ => #[]) >>= fun _ => letGo (#[] : Array Value).toList.reverse >>= fun _ => Builtin.List.listExtendWith (.ref s.heap.objs.size) (.ref z) .none) _ _ _
  refine wpAny_bind (wpAny_updateSeq hS rfl ?_)
  have hS₂ := Heap.get?_update_self (Obj.mapSeq (fun _ => (#[] : Array Value))) hS rfl
  have oth : ∀ b o, b ≠ s.heap.objs.size → s.heap.get? b = some o → ((s.heap.push { cls := .type "list", data := .seq #[] }).update s.heap.objs.size (Obj.mapSeq (fun _ => (#[] : Array Value)))).get? b = some o :=
    fun b o hb e => (Heap.get?_update_other _ _ (Ne.symm hb)).trans (pk e)
  refine wpAny_bind (wpAny_letGo ?_)
  refine extZ (A := A.in1) (lo := s.heap.objs.size + 1) hh D N hlo hn hsz .none _ (oth _ _ N.z hz) (oth _ _ N.TI hTI) (let ⟨a, b, h⟩ := hTO; ⟨a, b, oth _ _ N.TO h⟩) (h1.at fun o e => oth _ o N.i1 e) (h2.at fun o e => oth _ o N.i2 e) (hl1.at fun o e => oth _ o N.l1 e) (hl2.at fun o e => oth _ o N.l2 e) ?_ hS₂ fun h' acc c as hk hS' hl hG hacc => ?_
  · rw [Heap.size_update, Heap.size_push]; exact Nat.le_refl _
  · exact ⟨rfl, hQ h' acc c as (fun b o b1 b2 b3 b4 e => hk b o (lt e) b1 b2 b3 b4 (oth b o (lt e) e)) hS' hl hG hacc⟩
end
end FZ

set_option Elab.async false
set_option linter.all false
set_option maxRecDepth 100000
set_option maxHeartbeats 2000000
namespace FX
open PySem PySem.Spec PyProof.Rows L2 SlX
def pairV : PV → PV → PV := fun x y => .tup [x, y]
def zipP : List PV → List PV → List PV
  | x :: xs, y :: ys => pairV x y :: zipP xs ys
  | _, _ => []
def pLz : PV → PV → M PV := fun x y => match x, y with
  | .tup xs, .tup ys => if xs.length = ys.length ∧ xs.length ≤ 10000000 then mNew (.lst (zipP xs ys)) else M.bad
  | _, _ => M.bad
def tupH : Hp → List Addr → List V → List V → Hp
  | H, a :: as, x :: xs, y :: ys => tupH (upd H a (.tup [x, y])) as xs ys
  | H, _, _, _ => H
theorem tupH_ne : ∀ {as : List Addr} {xs ys : List V} {H : Hp} {b : Addr}, b ∉ as → tupH H as xs ys b = H b
  | [], _, _, _, _, _ => by unfold tupH; rfl
  | a :: as, [], _, _, _, _ => by unfold tupH; rfl
  | a :: as, x :: xs, [], _, _, _ => by unfold tupH; rfl
  | a :: as, x :: xs, y :: ys, H, b, h => by
    show tupH (upd H a (.tup [x, y])) as xs ys b = H b
    rw [tupH_ne fun z => h (List.mem_cons_of_mem _ z), upd_ne fun z => h (by rw [z]; exact List.mem_cons_self)]
theorem Un.more {fs ex : List Addr} {H H' : Hp} {h h' : Heap} (k : ∀ b u, h.get? b = some u → h'.get? b = some u) (hd : ∀ b, H' b = H b ∨ (h.objs.size ≤ b ∧ H b = none)) : Un fs ex H H' h h' where
  keep := fun b u q _ _ _ => k b u q
  slot := fun b u q _ _ _ => ⟨u.slots, k b u q⟩
  free := fun b u q n _ => by
    rcases hd b with e | ⟨e, _⟩
    · rw [e]; exact n
    · exact absurd (Nat.lt_of_lt_of_le (Heap.lt_size q) e) (Nat.lt_irrefl _)
  there := fun b u q _ => ⟨u, k b u q⟩
  tups := fun b xs q => by
    rcases hd b with e | ⟨_, e⟩
    · rw [e]; exact q
    · rw [q] at e; cases e
  frzs := fun b u xs q => by
    rcases hd b with e | ⟨_, e⟩
    · rw [e]; exact q
    · rw [q] at e; cases e
  tbls := fun b ps q => by
    rcases hd b with e | ⟨_, e⟩
    · exact ⟨#[], by rw [e, q]; simp⟩
    · rw [q] at e; cases e
section
variable {X : Cx} {ca : Ca} {W : WX} {a b e : Expr} {fa fb fe : EF} {es : List Expr} {p p2 pos apos : Pos}
theorem hok_tups {P : Program} {w : World} {h : Heap} : ∀ {as : List Addr} {xs ys : List V} {us ws : List Value} {H : Hp}, HOk P w H h → as.Nodup → (∀ c ∈ as, H c = none) → Vals xs us → Vals ys ws →
    (∀ (j : Nat) (c : Addr) (u v : Value), as[j]? = some c → us[j]? = some u → ws[j]? = some v → h.get? c = some { cls := .type "tuple", data := .seq #[u, v] }) → HOk P w (tupH H as xs ys) h
  | [], _, _, _, _, _, ok, _, _, _, _, _ => by unfold tupH; exact ok
  | a :: as, [], _, _, _, _, ok, _, _, _, _, _ => by unfold tupH; exact ok
  | a :: as, x :: xs, [], _, _, _, ok, _, _, _, _, _ => by unfold tupH; exact ok
  | a :: as, x :: xs, y :: ys, _, _, H, ok, nd, hn, .cons ru rus, .cons rw rws, ht => by
    obtain ⟨n1, n2⟩ := List.nodup_cons.mp nd
    show HOk P w (tupH (upd H a (.tup [x, y])) as xs ys) h
    refine hok_tups (ok.laidN (fun _ _ e => e) (hn a List.mem_cons_self) ⟨by show 2 ≤ sizeLine; decide, _, .cons ru (.cons rw .nil), ⟨_, ht 0 a _ _ rfl rfl rfl, rfl, _, rfl⟩⟩) n2 (fun c hc => ?_) rus rws fun j c u v h1 h2 h3 => ht (j + 1) c u v h1 h2 h3
    rw [upd_ne fun z => n1 (by rw [← z]; exact hc)]
    exact hn c (List.mem_cons_of_mem _ hc)
theorem ab_tups {K : PySem.W.Frag} {ν : Nu} {h : MH} : ∀ {as : List Addr} {pxs pys : List PV} {xs ys : List V} {H : Hp}, Ab K ca ν h H → as.Nodup → (∀ c ∈ as, H c = none) → as.length = xs.length → xs.length = ys.length → RepL K ν H pxs xs → RepL K ν H pys ys →
    Ext ν ν H (tupH H as xs ys) ∧ Ab K ca ν h (tupH H as xs ys) ∧ RepL K ν (tupH H as xs ys) (zipP pxs pys) (as.map V.ref)
  | [], _, _, xs, ys, H, A, _, _, h1, h2, r1, r2 => by
    cases xs with
    | nil =>
      cases r1
      exact ⟨Ext.refl _ _, A, by unfold zipP; exact .nil⟩
    | cons _ _ => cases h1
  | a :: as, _, _, [], _, _, _, _, _, h1, _, _, _ => by cases h1
  | a :: as, _, _, x :: xs, [], _, _, _, _, _, h2, _, _ => by cases h2
  | a :: as, _, _, x :: xs, y :: ys, H, A, nd, hn, h1, h2, .cons (x := px) r1 t1, .cons (x := py) r2 t2 => by
    obtain ⟨n1, n2⟩ := List.nodup_cons.mp nd
    obtain ⟨e1, A1⟩ := A.oth (o := .tup [x, y]) (hn a List.mem_cons_self)
    obtain ⟨e2, A2, r⟩ := ab_tups (as := as) (xs := xs) (ys := ys) A1 n2 (fun c hc => by
      rw [upd_ne fun z => n1 (by rw [← z]; exact hc)]
      exact hn c (List.mem_cons_of_mem _ hc)) (by simpa using h1) (by simpa using h2) (t1.ext e1) (t2.ext e1)
    refine ⟨e1.trans e2, A2, .cons ?_ r⟩
    exact .tup (e2.tups _ _ upd_same) (.cons ((r1.ext e1).ext e2) (.cons ((r2.ext e1).ext e2) .nil))
/-- list(zip(..)) of two tuples: the tuples at as -/
theorem run_lz {pins : List (Addr × Obj)} {s : Shared} {σ : L2.St} {H : Hp} {c d : Addr} {xs ys : List V} {Q : VK} (hc : X.calm = true) (I : Inv X pins σ H s) (hx : SqT X.K H c xs) (hy : SqT X.K H d ys) (hl : xs.length = ys.length)
    (q : ∀ as l, as.Nodup → (∀ b ∈ as, H b = none) → as.length = xs.length → H l = none → l ∉ as → Q (.ref l) (upd (tupH H as xs ys) l (.lst (as.map V.ref)))) :
    wpAny (model X.prog X.w) X.A (call (.type "zip") [.ref c, .ref d]) (fun z s' => wpAny (model X.prog X.w) X.A (call (.type "list") [z]) (EP X pins σ Q) X.xe s') X.xe s := by
  obtain ⟨its, rv, p1, hz1⟩ := I.tuple hx
  obtain ⟨its2, rv2, p2, hz2⟩ := I.tuple hy
  obtain ⟨o1, ho1, _⟩ := id p1
  obtain ⟨o2, ho2, _⟩ := id p2
  have l1 := rv.length
  have l2 := rv2.length
  refine RZ.call_zipT (show s.heap.IsTuple c its.toArray from p1) (show s.heap.IsTuple d its2.toArray from p2) fun h' hz hTI hTO h1 h2 hsz hk => ?_
  have D := PySem.W.ktu_apart s.heap.objs.size c d (Heap.lt_size ho1) (Heap.lt_size ho2)
  refine FZ.call_list_zipT (s := { s with heap := h' }) (I.ok.hd hc) D (by rw [List.size_toArray]; omega) (by rw [List.size_toArray, List.size_toArray]; omega) hz hTI ⟨_, _, hTO⟩ h1 h2 ((show s.heap.IsTuple c its.toArray from p1).at fun o e => hk _ o e) ((show s.heap.IsTuple d its2.toArray from p2).at fun o e => hk _ o e) fun h'' acc cc as hk2 hS hal hG hacc => ?_
  dsimp only at hS hG hk2
  rw [List.size_toArray] at hal
  have kept : ∀ b u, s.heap.get? b = some u → h''.get? b = some u := fun b u e => by
    have := Heap.lt_size e
    exact hk2 b u (Nat.ne_of_lt (Nat.lt_of_lt_of_le this (Nat.le_add_right _ _))) (Nat.ne_of_lt (Nat.lt_of_lt_of_le this (Nat.le_add_right _ _))) (Nat.ne_of_lt this) (Nat.ne_of_lt (Nat.lt_of_lt_of_le this (Nat.le_add_right _ _))) (hk b u e)
  have above : ∀ b ∈ as, s.heap.objs.size ≤ b := fun b hb => by
    obtain ⟨j, hj⟩ := List.mem_iff_getElem?.mp hb
    have := (hG.2 j b hj).1
    omega
  have nd : as.Nodup := hG.1.imp fun h => Nat.ne_of_lt h
  have fresh : ∀ b ∈ as, H b = none := fun b hb => I.hok.fresh (above b hb)
  have lfresh : H h'.objs.size = none := I.hok.fresh (by omega)
  have lout : h'.objs.size ∉ as := fun hb => by
    obtain ⟨j, hj⟩ := List.mem_iff_getElem?.mp hb
    have := (hG.2 j _ hj).1
    omega
  have ok1 : HOk X.prog X.w (tupH H as xs ys) h'' := hok_tups (I.hok.kept kept) nd fresh rv rv2 fun j b u v e1 e2 e3 => by
    obtain ⟨_, x, y, hx', hy', hp⟩ := hG.2 j b e1
    have ex : x = u := by
      rw [List.getElem?_toArray] at hx'
      rw [hx'] at e2; exact Option.some.inj e2
    have ey : y = v := by
      rw [List.getElem?_toArray] at hy'
      rw [hy'] at e3; exact Option.some.inj e3
    rw [ex, ey] at hp
    exact hp
  have hn2 : tupH H as xs ys h'.objs.size = none := by rw [tupH_ne lout]; exact lfresh
  have ok2 : HOk X.prog X.w (upd (tupH H as xs ys) h'.objs.size (.lst (as.map V.ref))) h'' := ok1.laidN (fun _ _ e => e) hn2 ⟨by rw [List.length_map, hal]; omega, acc.toList, cc, by rw [hacc]; exact L2.vals_refs as, by rw [Array.toArray_toList]; exact hS⟩
  have un : Un X.fs [] H (upd (tupH H as xs ys) h'.objs.size (.lst (as.map V.ref))) s.heap h'' := Un.more kept fun b => by
    by_cases hb : b = h'.objs.size
    · subst hb; exact .inr ⟨by omega, lfresh⟩
    · rw [upd_ne hb]
      by_cases hb2 : b ∈ as
      · exact .inr ⟨above b hb2, fresh b hb2⟩
      · exact .inl (tupH_ne hb2)
  exact ⟨.ref h'.objs.size, _, I.un (t' := s.toks) un ok2, rfl, q as _ nd fresh (by rw [hal, l1]) lfresh lout⟩
theorem px_lz (hc : X.calm = true) (hg : Gl X "list") (hm : X.mg "list" = none) (hg2 : Gl X "zip") (hm2 : X.mg "zip" = none) (ha : PX X ca W a fa) (hb : PX X ca W b fb)
    (hs : starEach [a, b] X.env = (false, eval a X.env) :: starEach [b] X.env := by rfl) (hs2 : starEach [b] X.env = (false, eval b X.env) :: starEach [] X.env := by rfl) (hpl : (backTo apos (starEach [b] X.env)).any (·.1) = false := by rfl)
    (na2 : starEach [.Call (.Name "zip" p2) [a, b] [] apos] X.env = (false, eval (.Call (.Name "zip" p2) [a, b] [] apos) X.env) :: starEach [] X.env := by rfl) :
    PX X ca W (.Call (.Name "list" p) [.Call (.Name "zip" p2) [a, b] [] apos] [] pos) (eOp pLz fa fb) := by
  refine ⟨fun pins s σ H Q I ⟨ν, ρ, h, A, E, P⟩ => ?_⟩
  refine wpAny_Call_Name_kw (ld_blt I hg hm PyProof.Rows.boot_list ?_ (by decide) (by decide))
  refine PyProof.Rows.callWith_type1 (args_cons ?_ na2) na2 rfl
  refine wpAny_Call_Name_kw (ld_blt I hg2 hm2 PyProof.Rows.boot_zip ?_ (by decide) (by decide))
  refine PyProof.Rows.callWith_type1 (thn ((pa_cons ha (pa_cons hb pa_nil hs2) hs).run apos pins s σ H (fun vs H1 => ∃ x y ν1 h1 px py, vs = [x, y] ∧ Ab X.K ca ν1 h1 H1 ∧ Rep X.K ν1 H1 px x ∧ Rep X.K ν1 H1 py y ∧ Post X.K ca W σ ν1 H1 (pLz px py h1) fun ν' H' _ z => ∀ w, Rep X.K ν' H' z w → Q w H') I
    ⟨ν, ρ, h, A, E, (Post.bind P).mono fun ν1 H1 h1 px e1 A1 P1 v rv => ⟨ν1, ρ, h1, A1, E.ext e1, (Post.bind P1).mono fun ν2 H2 h2 py e2 A2 P2 w rw' => ⟨v, w, ν2, h2, px, py, rfl, A2, rv.ext e2, rw', P2⟩⟩⟩) fun us s1 ⟨vs, H1, I1, r1, x, y, ν1, h1, px, py, ev, A1, rx, ry, P1⟩ => ?_) hs hpl
  subst ev
  cases rx with
  | @tup pxs c xs qx lx =>
    cases ry with
    | @tup pys d ys qy ly =>
      obtain ⟨⟨hl, hz⟩, P2⟩ := post_ifp P1
      obtain ⟨u1, u2, rfl, r1, r2⟩ := r1.two
      cases r1
      cases r2
      have hl2 : xs.length = ys.length := by rw [← lx.length, ← ly.length]; exact hl
      refine thn (run_lz hc I1 (.of qx) (.of qy) hl2 fun as l nd fr hal hln hout => ?_) fun z s' h => args_nil h
      obtain ⟨e2, A2, r⟩ := ab_tups A1 nd fr hal hl2 lx ly
      have hn2 : tupH H1 as xs ys l = none := by rw [tupH_ne hout]; exact hln
      obtain ⟨x3, A3⟩ := A2.nw (as := [l]) (mo := .lst (zipP pxs pys)) (H' := upd (tupH H1 as xs ys) l (.lst (as.map V.ref))) (fun a ha => by rw [List.mem_singleton.mp ha]; exact hn2) (fun b hb => upd_ne fun z => hb (by rw [z]; exact List.mem_cons_self))
        (fun b hb => by rw [List.mem_singleton.mp hb, upd_same]; exact fun z => nomatch z) (fun x => ⟨l, _, rfl, upd_same, r.ext x⟩)
      exact P2 _ _ (e2.trans x3) A3 _ (.ref (l := []) nuN_same)
    | _ => exact P1.elim
  | _ => exact P1.elim
end
end FX

set_option Elab.async false
set_option linter.all false
set_option maxRecDepth 100000
set_option maxHeartbeats 2000000
namespace FX
open PySem PySem.Spec PyProof.Rows L2 SlX
def prsOf : List PV → Option (List (PV × PV))
  | [] => some []
  | .tup [k, v] :: r => (asK k).bind fun _ => (prsOf r).map ((k, v) :: ·)
  | _ :: _ => none
def mrg (d : List (PV × PV)) (kvs : List (PV × PV)) : List (PV × PV) := kvs.foldl (fun d q => dPut d q.1 q.2) d
/-- dict(pairs) -/
def pDictP : FF := fun xs => match xs with
  | [x] => mLst x fun ps => match prsOf ps with
    | some kvs => mNew (.dct (mrg [] kvs))
    | none => M.bad
  | _ => M.bad
section
variable {K : PySem.W.Frag} {ν : Nu} {H : Hp}
theorem prs_rep : ∀ {xs : List PV} {kvs : List (PV × PV)} {vs : List V}, prsOf xs = some kvs → RepL K ν H xs vs → ∃ (as : List Addr) (kws : List (Key × V)), vs = as.map V.ref ∧ Paired (fun p kv => SqT K H p [kV kv.1, kv.2]) as kws ∧ RepKV kP K ν H kvs kws
  | [], _, _, e, .nil => by
    cases e
    exact ⟨[], [], rfl, .nil, rfl, .nil⟩
  | x :: xs, kvs, _, e, .cons (v := v) r t => by
    cases r with
    | @tup zs a ws q rz =>
      match zs, rz, e with
      | [k, v], .cons rk (.cons rv .nil), e =>
        unfold prsOf at e
        cases hk : asK k with
        | none => rw [hk] at e; cases e
        | some kk =>
          rw [hk, Option.bind_some] at e
          cases hp : prsOf xs with
          | none => rw [hp] at e; cases e
          | some ms =>
            rw [hp] at e
            cases e
            obtain ⟨as, kws, e1, e2, e3⟩ := prs_rep hp t
            subst e1
            rename_i vk vv
            have ev : vk = kV kk := by
              cases rk with
              | int => cases hk; rfl
              | str => cases hk; rfl
              | _ => cases hk
            subst ev
            refine ⟨a :: as, (kk, vv) :: kws, rfl, .cons (.of q) e2, ?_, ?_⟩
            · rw [List.map_cons, List.map_cons, ← e3.1, asK_kP hk]
            · rw [List.map_cons, List.map_cons]
              exact .cons rv e3.2
      | [], _, e => cases e
      | [_], _, e => cases e
      | _ :: _ :: _ :: _, _, e => cases e
    | _ => cases e
theorem RepKV.merge : ∀ {more : List (PV × PV)} {mws : List (Key × V)} {kvs : List (PV × PV)} {kws : List (Key × V)}, RepKV kP K ν H more mws → RepKV kP K ν H kvs kws → RepKV kP K ν H (mrg kvs more) (mergeK kws mws)
  | [], [], _, _, _, h => h
  | [], _ :: _, _, _, h, _ => by have := h.1; simp at this
  | _ :: _, [], _, _, h, _ => by have := h.1; simp at this
  | (x, v) :: more, (k, u) :: mws, kvs, kws, h, h0 => by
    obtain ⟨h1, h2⟩ := h
    rw [List.map_cons, List.map_cons] at h1 h2
    have hx : x = kP k := (List.cons.inj h1).1
    have h1' := (List.cons.inj h1).2
    subst hx
    cases h2 with
    | cons r t => exact RepKV.merge (more := more) (mws := mws) ⟨h1', t⟩ (h0.put (fun a b => keyE_kP) r)
end
section
variable {X : Cx} {ca : Ca} {W : WX}
theorem ca_dictP (hc : X.calm = true) : CaM X ca W (.type "dict") pDictP := CaM.of (call_dictP hc) fun σ H ν hp xs vs Q A r P => by
  cases r with
  | nil => exact P.elim
  | cons r t =>
    cases t with
    | cons _ _ => exact (show False from P).elim
    | nil =>
      obtain ⟨a, ys, ws, rfl, q, rl, P1⟩ := mLst_post A r P
      cases hp' : prsOf ys with
      | none => simp only [hp'] at P1; exact (show False from P1).elim
      | some kvs =>
        simp only [hp'] at P1
        obtain ⟨as, kws, rfl, e2, e3⟩ := prs_rep hp' rl
        refine ⟨a, as, kws, rfl, q, e2, fun p hpn => ?_⟩
        have rm : RepKV kP X.K ν H (mrg [] kvs) (mergeK [] kws) := e3.merge ⟨rfl, .nil⟩
        obtain ⟨x2, A2⟩ := A.nw (as := [p]) (mo := .dct (mrg [] kvs)) (H' := upd H p (.dK (mergeK [] kws))) (fun a ha => by rw [List.mem_singleton.mp ha]; exact hpn) (fun b hb => upd_ne fun z => hb (by rw [z]; exact List.mem_cons_self))
          (fun b hb => by rw [List.mem_singleton.mp hb, upd_same]; exact fun z => nomatch z) (fun x => ⟨p, _, rfl, upd_same, rm.ext x⟩)
        exact P1 _ _ x2 A2 _ (.ref (l := []) nuN_same)
end
def dcompN (nxt : Src) (g : GF) (t : TF) (ek ev : EF) : Nat → Nat → List (PV × PV) → Env → M (List (PV × PV))
  | 0, _, _, _ => M.bad
  | f + 1, i, acc, ρ => fun h => match nxt i h with
    | none => .bad
    | some none => .ok acc h
    | some (some x) => ((g x ρ).bind fun ρ2 => (t ρ2).bind fun b => if b then (ek ρ2).bind fun y => (ev ρ2).bind fun z => match asK y with
        | some _ => if acc.length < 10000000 then dcompN nxt g t ek ev f (i + 1) (dPut acc y z) ρ else M.bad
        | none => M.bad
      else dcompN nxt g t ek ev f (i + 1) acc ρ) h
def eDc (s : IF) (vs : List Nat) (g : GF) (t : TF) (ek ev : EF) : EF := fun ρ => (s ρ).bind fun nxt => (noX (dcompN nxt g t ek ev fuel 0 [] (wipeE ρ vs))).bind fun kvs => mNew (.dct kvs)
section
variable {X : Cx} {ca : Ca} {W : WX} {kx vx tg iter : Expr} {ifs : List Expr} {scope : Scope} {own : List (Str × Nat)} {pos : Pos} {i : IF} {g : GF} {t : TF} {ek ev : EF}
theorem Ab.sideD {K : PySem.W.Frag} {ν : Nu} {H : Hp} {h : MH} (A : Ab K ca ν h H) {p : Addr} {o : HO} {xs : List (Key × V)} (hp : ∀ n, p ∉ ν n) (hl : H p = some (.dK xs)) : Mon ν ν H (upd H p o) ∧ Ab K ca ν h (upd H p o) := by
  have m : Mon ν ν H (upd H p o) := by
    refine ⟨fun _ _ => rfl, fun a xs ha => ?_, fun a ob u ha => ?_⟩
    · rw [upd_ne fun z => by rw [z, hl] at ha; cases ha]; exact ha
    · rw [upd_ne fun z => by rw [z, hl] at ha; cases ha]; exact ha
  refine ⟨m, A.dom, fun n om hm => ?_, A.inj⟩
  exact (A.at_ n om hm).mon m fun a ha => upd_ne fun z => hp n (z ▸ ha)
theorem Ab.adoptD {K : PySem.W.Frag} {ν1 ν : Nu} {H1 H : Hp} {h : MH} {D : Addr} {acc : List (PV × PV)} {vacc : List (Key × V)} (x : Ext ν1 ν H1 H) (A : Ab K ca ν h H) (hD : H1 D = none) (dead : ∀ n, D ∉ ν n) (hl : H D = some (.dK vacc)) (r : RepKV kP K ν H acc vacc) :
    Ext ν1 (nuN ν h.nx [D]) H1 H ∧ Ab K ca (nuN ν h.nx [D]) (h.new (.dct acc)) H ∧ ∀ n, ν n ≠ [] → nuN ν h.nx [D] n = ν n := by
  have nx : ν h.nx = [] := A.dom _ MH.get_nx
  have keep : ∀ n, ν n ≠ [] → nuN ν h.nx [D] n = ν n := fun n hn => nuN_ne fun z => hn (by rw [z]; exact nx)
  have m : Mon ν (nuN ν h.nx [D]) H H := ⟨keep, fun _ _ z => z, fun _ _ _ z => z⟩
  refine ⟨⟨⟨fun n hn => ?_, x.tups, x.frzs⟩, x.fr, fun n a h1 h2 => ?_, x.live⟩, ⟨fun n hn => ?_, fun n om hm => ?_, fun n k a h1 h2 => ?_⟩, keep⟩
  · have e := x.nu n hn
    rw [keep n (by rw [e]; exact hn), e]
  · by_cases hn : n = h.nx
    · rw [hn, nuN_same] at h2
      rw [List.mem_singleton.mp h2]; exact hD
    · rw [nuN_ne hn] at h2
      exact x.new n a h1 h2
  · by_cases hm : n = h.nx
    · rw [hm, MH.get_new] at hn; cases hn
    · rw [MH.get_new_ne hm] at hn
      rw [nuN_ne hm]; exact A.dom n hn
  · by_cases hmn : n = h.nx
    · subst hmn
      rw [MH.get_new] at hm
      cases hm
      rw [nuN_same]
      exact ⟨D, vacc, rfl, hl, r.1, r.2.mon m⟩
    · rw [MH.get_new_ne hmn] at hm
      rw [nuN_ne hmn]
      exact (A.at_ n om hm).mon m fun _ _ => rfl
  · by_cases h3 : n = h.nx
    · by_cases h4 : k = h.nx
      · rw [h3, h4]
      · rw [h3, nuN_same] at h1
        rw [nuN_ne h4, List.mem_singleton.mp h1] at h2
        exact absurd h2 (dead k)
    · rw [nuN_ne h3] at h1
      by_cases h4 : k = h.nx
      · rw [h4, nuN_same] at h2
        rw [List.mem_singleton.mp h2] at h1
        exact absurd h1 (dead n)
      · rw [nuN_ne h4] at h2
        exact A.inj n k a h1 h2
theorem dc_read {K : PySem.W.Frag} {ν : Nu} {ρ : Env} {h : MH} {σ : L2.St} {H : Hp} {Q : VK} {vs : List Nat} (A : Ab K ca ν h H) (E : EnvR K ν H ρ σ) (P : Post K ca W σ ν H (eDc i vs g t ek ev ρ h) fun ν' H' _ x => ∀ v, Rep K ν' H' x v → Q v H') :
    tDc (tI ca W K i) (tG ca W0 K vs g) (tT ca W0 K t) (tE ca W0 K ek) (tE ca W0 K ev) vs σ H Q := by
  refine ⟨ν, ρ, h, A, E, (Post.bind P).mono fun ν1 H1 h1 nxt e1 A1 P1 J hJ D hD => ?_⟩
  have E1 := (E.ext e1).wipe vs
  have dead : ∀ n, D ∉ ν1 n := fun n hn => A1.live hn hD
  let Tot (r : R (List (PV × PV))) : Prop := match r with
    | .ok xs h' => Post K ca W σ ν1 H1 (mNew (.dct xs) h') fun ν' H' _ x => ∀ v, Rep K ν' H' x v → Q v H'
    | _ => False
  have P2 : Tot (dcompN nxt g t ek ev fuel 0 [] (wipeE ρ vs) h1) := by
    unfold M.bind noX at P1
    revert P1
    show _ → Tot _
    cases dcompN nxt g t ek ev fuel 0 [] (wipeE ρ vs) h1 with
    | ok xs h' => exact fun p => p
    | exc c x h' => exact fun p => p
    | bad => exact fun p => p
  let Wi (j m : Nat) (H : Hp) : Prop := ∃ ν h acc vacc, Ext ν1 ν H1 H ∧ Ab K ca ν h H ∧ (∀ n, D ∉ ν n) ∧ H D = some (.dK vacc) ∧ RepKV kP K ν H acc vacc ∧ Tot (dcompN nxt g t ek ev m j acc (wipeE ρ vs) h)
  obtain ⟨e2, A2⟩ := A1.oth (o := .dK []) hD
  refine ⟨Wi, ⟨fuel, ν1, h1, [], [], e2, A2, dead, upd_same, ⟨rfl, .nil⟩, P2⟩, ?_⟩
  rintro j m Hc ⟨νc, hc, acc, vacc, xc, Ac, dc, lc, rc, T⟩
  cases m with
  | zero => exact T.elim
  | succ m =>
    obtain ⟨hstop, hgo⟩ := hJ νc hc Hc j xc Ac
    unfold dcompN at T
    generalize nxt j hc = z at T hstop hgo
    rcases z with _ | _ | x
    · exact T.elim
    · refine .inl ⟨hstop rfl, ?_⟩
      have T' : Post K ca W σ ν1 H1 (mNew (.dct acc) hc) fun ν' H' _ x => ∀ v, Rep K ν' H' x v → Q v H' := T
      obtain ⟨x3, A3, _⟩ := Ab.adoptD xc Ac hD dc lc rc
      exact T' _ _ x3 A3 _ (.ref (l := []) nuN_same)
    · obtain ⟨hg1, hy⟩ := hgo x rfl
      refine .inr ⟨hg1, Wi (j + 1) m, fun H' w => ⟨m, Nat.lt_succ_self m, w⟩, fun y H' hyl => ?_⟩
      obtain ⟨ν2, x2, A2, r2⟩ := hy y H' hyl
      have step : ∀ {νa νb : Nu} {Ha Hb : Hp}, Ext νa νb Ha Hb → (∀ n, D ∉ νa n) → Ha D = some (.dK vacc) → (∀ n, D ∉ νb n) ∧ Hb D = some (.dK vacc) := fun {νa νb Ha Hb} x d l => by
        refine ⟨fun n hn => ?_, x.fr D _ l d⟩
        by_cases hz : νa n = []
        · have := x.new n D hz hn
          rw [l] at this; cases this
        · rw [x.nu n hz] at hn
          exact d n hn
      obtain ⟨d2, l2⟩ := step x2 dc lc
      have E2 := E1.ext (xc.trans x2)
      refine ⟨ν2, wipeE ρ vs, hc, x, A2, E2, r2, ?_⟩
      have T1 : Tot (((g x (wipeE ρ vs)).bind fun ρ2 => (t ρ2).bind fun b => if b then (ek ρ2).bind fun y => (ev ρ2).bind fun z => match asK y with
          | some _ => if acc.length < 10000000 then dcompN nxt g t ek ev m (j + 1) (dPut acc y z) (wipeE ρ vs) else M.bad
          | none => M.bad
        else dcompN nxt g t ek ev m (j + 1) acc (wipeE ρ vs)) hc) := T
      unfold M.bind at T1
      cases eg : g x (wipeE ρ vs) hc with
      | exc c x h' => rw [eg] at T1; exact T1.elim
      | bad => rw [eg] at T1; exact T1.elim
      | ok ρ2 h2 =>
        rw [eg] at T1
        intro ν3 H3 x3 A3 σ3 E3 hw
        obtain ⟨d3, l3⟩ := step x3 d2 l2
        refine ⟨hw.trans (wipe_wipe vs σ), ν3, ρ2, h2, A3, E3, ?_⟩
        cases et : t ρ2 h2 with
        | exc c x h' =>
          have T2 := T1
          simp only [et] at T2
          exact (show False from T2).elim
        | bad =>
          have T2 := T1
          simp only [et] at T2
          exact (show False from T2).elim
        | ok b h4 =>
          intro ν4 H4 x4 A4
          obtain ⟨d4, l4⟩ := step x4 d3 l3
          have T2 := T1
          simp only [et] at T2
          have x14 := ((xc.trans x2).trans x3).trans x4
          cases b with
          | false =>
            exact ⟨ν4, h4, acc, vacc, x14, A4, d4, l4, ((rc.ext x2).ext x3).ext x4, T2⟩
          | true =>
            refine ⟨ν4, ρ2, h4, A4, E3.ext x4, ?_⟩
            cases ee : ek ρ2 h4 with
            | exc c x h' =>
              have T3 := T2
              simp only [ee, if_true] at T3
              exact (show False from T3).elim
            | bad =>
              have T3 := T2
              simp only [ee, if_true] at T3
              exact (show False from T3).elim
            | ok yv h5 =>
              intro ν5 H5 x5 A5 v rv
              obtain ⟨d5, l5⟩ := step x5 d4 l4
              have T3 := T2
              simp only [ee, if_true] at T3
              refine ⟨ν5, ρ2, h5, A5, (E3.ext x4).ext x5, ?_⟩
              cases e6 : ev ρ2 h5 with
              | exc c x h' =>
                have T4 := T3
                simp only [e6] at T4
                exact (show False from T4).elim
              | bad =>
                have T4 := T3
                simp only [e6] at T4
                exact (show False from T4).elim
              | ok zv h6 =>
                intro ν6 H6 x6 A6 w rw'
                obtain ⟨d6, l6⟩ := step x6 d5 l5
                have T4 := T3
                simp only [e6] at T4
                have x16 := (x14.trans x5).trans x6
                have r6 := ((((rc.ext x2).ext x3).ext x4).ext x5).ext x6
                cases hk : asK yv with
                | none =>
                  simp only [hk] at T4
                  exact (show False from T4).elim
                | some k =>
                  simp only [hk] at T4
                  have T5 : Tot ((if acc.length < 10000000 then dcompN nxt g t ek ev m (j + 1) (dPut acc yv zv) (wipeE ρ vs) else M.bad : M (List (PV × PV))) h6) := T4
                  by_cases hl : acc.length < 10000000
                  · rw [if_pos hl] at T5
                    have eyv : v = kV k := by
                      cases rv with
                      | int => cases hk; rfl
                      | str => cases hk; rfl
                      | _ => cases hk
                    refine ⟨vacc, k, eyv, l6, by rw [← rc.length]; exact lst_line hl, ?_⟩
                    obtain ⟨m7, A7⟩ := A6.sideD (o := .dK (putK vacc k w)) d6 l6
                    have rp := r6.put (fun a b => keyE_kP) (k := k) rw'
                    rw [asK_kP hk] at T5
                    exact ⟨ν6, h6, _, putK vacc k w, x16.side hD, A7, d6, upd_same, ⟨rp.1, rp.2.mon m7⟩, T5⟩
                  · rw [if_neg hl] at T5
                    exact T5.elim
theorem px_dc (hc : X.calm = true) (hN : X.N.Nodup) (hi : PXI X ca W tg iter i) (ok : BlkOk X.N X.env.scope scope own) (hg : Blk X scope fun Y => PXG Y ca W0 (own.map (·.2)) tg g) (ht : Blk X scope fun Y => PXTs Y ca W0 ifs t) (hk : Blk X scope fun Y => PX Y ca W0 kx ek) (he : Blk X scope fun Y => PX Y ca W0 vx ev)
    (hs : ∀ x, foldedSetIterable iter X.env x = pure x := by intro _; rfl) : PX X ca W (.DictComp kx vx [⟨tg, iter, ifs, 0⟩] scope pos) (eDc i (own.map (·.2)) g t ek ev) :=
  PE.imp (pe_dc (g := tG ca W0 X.K (List.map (fun p : Str × Nat => p.2) own) g) (tt := tT ca W0 X.K t) (tk := tE ca W0 X.K ek) (tv := tE ca W0 X.K ev) hc hN hi ok hg ht hk he hs) fun σ H Q ⟨ν, ρ, h, A, E, P⟩ => dc_read A E P
end
end FX

set_option Elab.async false
set_option linter.all false
set_option maxRecDepth 100000
set_option maxHeartbeats 2000000
namespace FX
open PySem PySem.Spec PyProof.Rows L2 SlX
def gTupl (n : Nat) (gs : List GF) : GF := fun x ρ => match x with
  | .tup xs => if xs.length = n then gAll gs xs ρ else M.bad
  | _ => M.bad
theorem pxg_tupl {X : Cx} {ca : Ca} {W : WX} {vs : List Nat} {pos : Pos} {es : List Expr} {k n : Nat} {gs : List GF} (hc : X.calm = true) (h : PXGs X ca W vs es gs) (hl : gs.length = n := by rfl)
    (hn : (assignEach es X.env).length = n := by rfl) (hst : (assignEach es X.env).findIdx? (·.1) = none := by rfl) : PXG X ca W vs (.Tuple es k pos) (gTupl n gs) := pxg_tup hc h hl hn hst
theorem px_gint {X : Cx} {ca : Ca} {W : WX} {pos : Pos} {x : Str} {i : Int} (hg : Gl X x) (hm : ∃ t, X.mg x = some (.int i t)) (hd : (x == ("__debug__" : Str)) = false := by decide) : PX X ca W (.Name x pos) (eC (.int i)) :=
  let ⟨t, ht⟩ := hm
  px_glob (v := .int i) hg ht ⟨t, rfl⟩ (fun _ _ => .int) hd
/-- a, b = x, y with plain local names -/
def sPar (i j : Nat) (ra : AF) : SF := fun ρ => sThen (ra ρ) ρ fun xs => match xs with
  | [x, y] => M.ret (.nx ((ρ.set i (some x)).set j (some y)))
  | _ => M.bad
theorem pxs_par {X : Cx} {ca : Ca} {W : WX} {ra : AF} {pos : Pos} (i j : Nat) {x y : Str} {a b : Expr} {px py pt : Pos} {kt k2 pt2} (hc : X.calm = true) (hN : X.N.Nodup) (hij : i ≠ j) (ha : PXA X ca W [a, b] ra) (hi : X.N[i]? = some x := by rfl) (hj : X.N[j]? = some y := by rfl)
    (hx : X.env.scope.names.lookup x = some .local := by rfl) (hy : X.env.scope.names.lookup y = some .local := by rfl)
    (hw : swappedStores [.Tuple [.Name x px, .Name y py] kt pt] (.Tuple [a, b] k2 pt2) X.env = pure (some [x, y]) := by rfl)
    (hs : swapsWithSole [.Tuple [.Name x px, .Name y py] kt pt] (.Tuple [a, b] k2 pt2) pos.line X.env = pure false := by rfl) :
    PXS X ca W (.Assign [.Tuple [.Name x px, .Name y py] kt pt] (.Tuple [a, b] k2 pt2) pos) (sPar i j ra) :=
  PS.imp (ps_par hc hN hi hj hij hx hy ha hw hs) fun D σ H ⟨ν, ρ, h, A, E, P⟩ => ⟨ν, ρ, h, A, E, (sThen_post E P).mono fun ν1 H1 h1 xs e1 A1 P1 vs r => by
    match xs, vs, r, P1 with
    | [], _, _, P1 => exact P1.elim
    | [_], _, _, P1 => exact P1.elim
    | [x, y], _, .cons r1 (.cons r2 .nil), P1 => exact ⟨_, _, rfl, Post.ret P1 A1 _ (((E.ext e1).set r1 i).set r2 j)⟩
    | _ :: _ :: _ :: _, _, _, P1 => exact P1.elim⟩
abbrev FaB := PySem.W.Frag → Bool
def obsB (fa : List FaB) (fn : List He5.DefA) (K : PySem.W.Frag) : He.AlD := (fa.all (fun f => f K) && fn.all (fun d => d.ok K), fn.map fun d => He5.fnA K (d.at_ K))
def valB (fn : List He5.DefA) : He.AlD := (true, fn.map He5.DefA.val)
def SaysB (fa : List FaB) (fn : List He5.DefA) (K : PySem.W.Frag) : Prop := obsB fa fn K = valB fn
def obsBG (n : Nat) (fa : List FaB) (fn : List He5.DefA) (g : Addr → Option Obj) : He.AlD := obsB fa fn (He.frG g (He5.asA g n))
def hookB (n : Nat) (fa : List FaB) (fn : List He5.DefA) : PySem.W.Hook where
  α := He.AlD
  obs := fun s => obsBG n fa fn s.heap.get?
  val := fun _ => valB fn
  says := fun _ h => ∃ K : PySem.W.Frag, K.In h ∧ SaysB fa fn K
  of := fun _ _ e => ⟨_, He.frG_in, e⟩
  keeps := fun _ _ _ ⟨K, hK, c⟩ k => ⟨K, PySem.W.Frag.In.keeps hK k, c⟩
theorem obsBG_eq {n : Nat} {fa : List FaB} {fn : List He5.DefA} {g : Addr → Option Obj} {s : Shared} (h : ∀ a, g a = s.heap.get? a) : obsBG n fa fn g = (hookB n fa fn).obs s := by
  have : g = s.heap.get? := funext h
  subst this; rfl
section
variable {fa : List FaB} {fn : List He5.DefA} {K : PySem.W.Frag}
theorem SaysB.fact (c : SaysB fa fn K) (i : Nat) {f : FaB} (h : fa[i]? = some f := by rfl) : f K = true := by
  have := congrArg Prod.fst c
  exact List.all_eq_true.mp (Bool.and_eq_true_iff.mp this).1 f (List.mem_of_getElem? h)
theorem SaysB.def_ (c : SaysB fa fn K) (i : Nat) {d : He5.DefA} (h : fn[i]? = some d := by rfl) : ∃ fd, FunD K d.name d.qual d.params d.body d.scope (d.dvs K) (d.kws K) (d.at_ K) fd := by
  have h1 := (Bool.and_eq_true_iff.mp (congrArg Prod.fst c)).2
  have h2 : fn.map (fun d => He5.fnA K (d.at_ K)) = fn.map He5.DefA.val := congrArg Prod.snd c
  have h3 := congrArg (fun l : List He5.FnW => l[i]?) h2
  simp only [List.getElem?_map, h, Option.map_some] at h3
  exact He5.DefA.funD (Option.some.inj h3) (List.all_eq_true.mp h1 d (List.mem_of_getElem? h))
end
def pgA (K : PySem.W.Frag) (C : Addr) (f : Str) : Addr := match PySem.W.recIn K (He.ma K C f) "property" with
  | some (.ref g :: _) => g
  | _ => 0
def slI (K : PySem.W.Frag) (C : Addr) (f : Str) : Nat := (PySem.W.slotIn K (He.ma K C f) C).getD 2000
structure Ocl (K : PySem.W.Frag) (C : Addr) : Prop where
  sc : SCls K C
  si : SIsi K C
  sf : PySem.W.selfFirst K C = true
  nf : PySem.W.notFirst K C (.ref C) = true
  ne : PySem.W.findIn K (.ref C) "__ne__" = some (some (.builtin "object.__ne__"))
  mo : PySem.W.mroIn K C (.type "object") = some true
def bOcl (C : PySem.W.Frag → Addr) : FaB := fun K => PySem.W.plainGet K (C K) Str.empty && PySem.W.isClsIn K (C K) && PySem.W.plainOver K (C K) && He.eqO (PySem.W.findIn K (.ref (C K)) "__setattr__") (some (some (.builtin "object.__setattr__"))) &&
  He.eqO (PySem.W.findIn K (.ref (C K)) "__class__") (some (some (.builtin "object.__class__"))) && He.eqO (PySem.W.specialIn K (.builtin "object.__class__") "__get__") (some (some (.builtin "getset_descriptor.__get__"))) &&
  decide (PySem.W.takesIn K (.builtin "object.__class__") = some true) && decide (PySem.W.mroIn K (C K) (.type "object") = some true) && PySem.W.selfFirst K (C K) && PySem.W.notFirst K (C K) (.ref (C K)) && He.eqO (PySem.W.findIn K (.ref (C K)) "__ne__") (some (some (.builtin "object.__ne__")))
theorem bOcl_ok {C : PySem.W.Frag → Addr} {K : PySem.W.Frag} (h : bOcl C K = true) : Ocl K (C K) := by
  unfold bOcl at h
  simp only [Bool.and_eq_true] at h
  obtain ⟨⟨⟨⟨⟨⟨⟨⟨⟨⟨h1, h2⟩, h3⟩, h4⟩, h5⟩, h6⟩, h7⟩, h8⟩, h9⟩, h10⟩, h11⟩ := h
  exact ⟨⟨h1, h2, h3, He.eqO_ok h4⟩, ⟨He.eqO_ok h5, He.eqO_ok h6, of_decide_eq_true h7, of_decide_eq_true h8⟩, h9, h10, He.eqO_ok h11, of_decide_eq_true h8⟩
def bSlot (C : PySem.W.Frag → Addr) (f : Str) (i : Nat) : FaB := fun K => He.eqO (PySem.W.findIn K (.ref (C K)) f) (some (some (.ref (He.ma K (C K) f)))) && He.eqO (PySem.W.specialIn K (.ref (He.ma K (C K) f)) "__get__") (some (some (.builtin "member_descriptor.__get__"))) &&
  decide (PySem.W.takesIn K (.ref (He.ma K (C K) f)) = some true) && decide (PySem.W.typeIn K (.ref (He.ma K (C K) f)) = some (.type "member_descriptor")) && decide (PySem.W.slotIn K (He.ma K (C K) f) (C K) = some i) && decide (i < 1000)
theorem bSlot_ok {C : PySem.W.Frag → Addr} {f : Str} {i : Nat} {K : PySem.W.Frag} (h : bSlot C f i K = true) : Slot1 K (C K) f (He.ma K (C K) f) i := by
  unfold bSlot at h
  simp only [Bool.and_eq_true] at h
  obtain ⟨⟨⟨⟨⟨h1, h2⟩, h3⟩, h4⟩, h5⟩, h6⟩ := h
  exact ⟨He.eqO_ok h1, He.eqO_ok h2, of_decide_eq_true h3, of_decide_eq_true h4, of_decide_eq_true h5, of_decide_eq_true h6⟩
def bPr (C : PySem.W.Frag → Addr) (f : Str) : FaB := fun K => He.eqO (PySem.W.findIn K (.ref (C K)) f) (some (some (.ref (He.ma K (C K) f)))) && He.eqO (PySem.W.specialIn K (.ref (He.ma K (C K) f)) "__get__") (some (some (.builtin "property.__get__"))) &&
  decide (PySem.W.takesIn K (.ref (He.ma K (C K) f)) = some true) && (match PySem.W.recIn K (He.ma K (C K) f) "property" with
    | some (.ref _ :: _) => true
    | _ => false)
theorem bPr_ok {C : PySem.W.Frag → Addr} {f : Str} {K : PySem.W.Frag} (h : bPr C f K = true) : PrS K (C K) f (He.ma K (C K) f) (pgA K (C K) f) := by
  unfold bPr at h
  simp only [Bool.and_eq_true] at h
  obtain ⟨⟨⟨h1, h2⟩, h3⟩, h4⟩ := h
  refine ⟨He.eqO_ok h1, He.eqO_ok h2, of_decide_eq_true h3, ?_⟩
  unfold pgA
  split at h4
  · rename_i g r e
    exact ⟨r, by rw [e]⟩
  · cases h4
def bOp (C : PySem.W.Frag → Addr) (m : Str) : FaB := fun K => He.eqO (PySem.W.findIn K (.ref (C K)) m) (some (some (.ref (He.ma K (C K) m)))) && PySem.W.isFn K (.ref (He.ma K (C K) m))
theorem bOp_ok {C : PySem.W.Frag → Addr} {m : Str} {K : PySem.W.Frag} (h : bOp C m K = true) : OpA K (C K) (He.ma K (C K) m) m := by
  unfold bOp at h
  simp only [Bool.and_eq_true] at h
  exact ⟨He.eqO_ok h.1, h.2⟩
def bSt (C : PySem.W.Frag → Addr) (m : Str) : FaB := fun K => He.eqO (PySem.W.specialIn K (.ref (C K)) "__getattribute__") (some (some (.builtin "type.__getattribute__"))) && PySem.W.readsIn K (C K) (.type "type") && He5.wrapB K (C K) "staticmethod" "staticmethod.__get__" m
theorem bSt_ok {C : PySem.W.Frag → Addr} {m : Str} {K : PySem.W.Frag} (h : bSt C m K = true) : StA K (C K) (He.ma K (C K) m) (He5.wf K (C K) "staticmethod" m) m := by
  unfold bSt at h
  simp only [Bool.and_eq_true] at h
  obtain ⟨⟨h1, h2⟩, h3⟩ := h
  obtain ⟨k1, k2⟩ := He5.wrapB_ok h3
  exact ⟨He.eqO_ok h1, h2, k1, k2⟩
def bKit (t u : PySem.W.Frag → Value) (b : Bool) : FaB := fun K => decide (PySem.W.kitOne K (t K) (u K) = some b)
theorem bKit_ok {t u : PySem.W.Frag → Value} {b : Bool} {K : PySem.W.Frag} (h : bKit t u b K = true) : PySem.W.kitOne K (t K) (u K) = some b := of_decide_eq_true h
/-- isinstance(x, ..): of the built-in classes Ts, our own os, our exceptions es, the built-in ones xs it is so -/
def tbG (Ts : List String) (os es : List Nat) (xs : List String) : Kd → Option Bool
  | .b T => some (Ts.contains T)
  | .o c => some (os.contains c)
  | .e c => some (es.contains c)
  | .x T => some (xs.contains T)
def tyNames : List String := ["NoneType", "bool", "int", "str", "tuple", "list", "dict"]
def tbL (cs es : List Nat) (xb : Bool) (tb : Kd → Option Bool) : Kd → Option Bool
  | .b T => if tyNames.contains T then tb (.b T) else none
  | .o c => if cs.contains c then tb (.o c) else none
  | .e c => if es.contains c then tb (.e c) else none
  | .x T => if xb = true ∧ T = "ValueError" then tb (.x "ValueError") else none
/-- an own exception class -/
structure Xcl (K : PySem.W.Frag) (C : Addr) : Prop where
  isi : L2.ExcC K C
  xf : L2.XfC K C
  no : PySem.W.findIn K (.ref C) "value" = some none
def bXc (C : PySem.W.Frag → Addr) : FaB := fun K => He.eqO (PySem.W.findIn K (.ref (C K)) "__getattribute__") (some (some (.builtin "BaseException.__getattribute__"))) && He.eqO (PySem.W.findIn K (.ref (C K)) "__getattr__") (some none) &&
  decide (PySem.W.subIn K (.ref (C K)) (.type "BaseException") = some true) && PySem.W.hasDictIn K (C K) && He.eqO (PySem.W.findIn K (.ref (C K)) "__class__") (some (some (.builtin "object.__class__"))) &&
  He.eqO (PySem.W.specialIn K (.builtin "object.__class__") "__get__") (some (some (.builtin "getset_descriptor.__get__"))) && decide (PySem.W.takesIn K (.builtin "object.__class__") = some true) && decide (PySem.W.mroIn K (C K) (.type "object") = some true) && He.eqO (PySem.W.findIn K (.ref (C K)) "value") (some none)
theorem bXc_ok {C : PySem.W.Frag → Addr} {K : PySem.W.Frag} (h : bXc C K = true) : Xcl K (C K) := by
  unfold bXc at h
  simp only [Bool.and_eq_true] at h
  obtain ⟨⟨⟨⟨⟨⟨⟨⟨h1, h2⟩, h3⟩, h4⟩, h5⟩, h6⟩, h7⟩, h8⟩, h9⟩ := h
  exact ⟨⟨He.eqO_ok h1, He.eqO_ok h2, of_decide_eq_true h3, h4, He.eqO_ok h5, He.eqO_ok h6, of_decide_eq_true h7, of_decide_eq_true h8⟩, ⟨He.eqO_ok h1, He.eqO_ok h2, of_decide_eq_true h3, h4⟩, He.eqO_ok h9⟩
/-- the facts that a table leans on -/
def bTb (ca : Nat → PySem.W.Frag → Addr) (cs es : List Nat) (xb : Bool) (u : PySem.W.Frag → Value) (tb : Kd → Option Bool) : FaB := fun K => (tyNames.all fun T => decide (PySem.W.kitOne K (.type T) (u K) = tb (.b T))) && (cs.all fun c => decide (PySem.W.kitOne K (.ref (ca c K)) (u K) = tb (.o c))) &&
  (es.all fun c => decide (PySem.W.kitOne K (.ref (ca c K)) (u K) = tb (.e c))) && (!xb || decide (PySem.W.kitOne K (.type "ValueError") (u K) = tb (.x "ValueError")))
theorem bTb_ok {ca : Nat → PySem.W.Frag → Addr} {cs es : List Nat} {xb : Bool} {u : PySem.W.Frag → Value} {tb : Kd → Option Bool} {K : PySem.W.Frag} (h : bTb ca cs es xb u tb K = true) (ho : ∀ c ∈ cs, Ocl K (ca c K)) (he : ∀ c ∈ es, Xcl K (ca c K)) : KdF K (fun c => ca c K) (u K) (tbL cs es xb tb) := by
  unfold bTb at h
  simp only [Bool.and_eq_true] at h
  obtain ⟨⟨⟨h1, h2⟩, h3⟩, h4⟩ := h
  refine ⟨fun T r e => ?_, fun c r e => ?_, fun c r e => ?_, fun T r e => ?_⟩
  · unfold tbL at e
    by_cases hT : tyNames.contains T = true
    · simp only [hT, if_true] at e
      rw [← e]
      exact of_decide_eq_true (List.all_eq_true.mp h1 T (List.contains_iff_mem.mp hT))
    · simp only [hT] at e
      cases e
  · unfold tbL at e
    by_cases hc : cs.contains c = true
    · simp only [hc, if_true] at e
      have hm := List.contains_iff_mem.mp hc
      refine ⟨(ho c hm).sc, (ho c hm).si, ?_⟩
      rw [← e]
      exact of_decide_eq_true (List.all_eq_true.mp h2 c hm)
    · simp only [hc] at e
      cases e
  · unfold tbL at e
    by_cases hc : es.contains c = true
    · simp only [hc, if_true] at e
      have hm := List.contains_iff_mem.mp hc
      refine ⟨(he c hm).isi, ?_⟩
      rw [← e]
      exact of_decide_eq_true (List.all_eq_true.mp h3 c hm)
    · simp only [hc] at e
      cases e
  · unfold tbL at e
    dsimp only at e
    by_cases hc : xb = true ∧ T = "ValueError"
    · rw [if_pos hc] at e
      obtain ⟨rfl, rfl⟩ := hc
      refine ⟨bxF_ValueError, ?_⟩
      rw [← e]
      simpa using h4
    · rw [if_neg hc] at e
      cases e
end FX

set_option Elab.async false
set_option linter.all false
set_option maxRecDepth 100000
set_option maxHeartbeats 2000000
namespace FX
open PySem PySem.Spec PyProof.Rows L2 SlX
def mh0 : MH := ⟨0, .lf⟩
/-- what a law's def asks of its caller -/
def spL (K : PySem.W.Frag) (ca : Ca) (n : Nat) (g : SF) (len : Nat) : Sp := fun vs H Q E => vs.length = len ∧ ∃ ν h xs, Ab K ca ν h H ∧ RepL K ν H xs vs ∧ Post K ca W0 [] ν H (runB n g xs h) fun ν' H' _ x => ∀ v, Rep K ν' H' x v → Q v H'
section
variable {P : Program} {w : World} {K : PySem.W.Frag} {mg : Str → Option Value} {base : Heap} {ca : Ca}
theorem fnOk_of {name qual : Str} {params : Arguments} {body : List Stmt} {scope : Scope} {dvs : List V} {kws : List (Str × V)} {f : Addr} {fd : FuncData} {N ps : List Str} {k : Nat} {g : SF}
    (Fd : FunD K name qual params body scope dvs kws f fd) (S : FnScope N ps scope)
    (hb : ∀ (cdv : Value) (A : Around) (outer : List PySem.Env) (s : Shared) (H : Hp) (E : XK), Room k (A.deeper (envOfC qual scope s.heap.objs.size f cdv)) → Takes (cxOf (L2.CX P w) P w K mg base N qual scope f cdv A outer s H E) (fun c d _ H => E c d H) →
      PassesOwn (model P w) (A.deeper (envOfC qual scope s.heap.objs.size f cdv)) (envOfC qual scope s.heap.objs.size f cdv) (cxOf (L2.CX P w) P w K mg base N qual scope f cdv A outer s H E).xe →
      PXSs (cxOf (L2.CX P w) P w K mg base N qual scope f cdv A outer s H E) ca (fun c d _ H => E c d H) body g) : FnOk P w K mg base CX0 (k + 1) f fd ps (spL K ca N.length g ps.length) := by
  have ok : FnOk P w K mg base (L2.CX P w) (k + 1) f fd ps (spL K ca N.length g ps.length) := by
    refine Fd.ok S (fun vs H Q E h => h.1) fun cdv A outer s H vs Q E hr h => ?_
    obtain ⟨hl, ν, hp, xs, A1, r, p⟩ := h
    have p' : Post K ca (fun c d _ H => E c d H) [] ν H (runB N.length g xs hp) fun ν' H' _ x => ∀ v, Rep K ν' H' x v → Q v H' := p.sig fun _ _ _ z => z.elim
    exact ⟨_, hb cdv A outer s H E hr (takes_of rfl rfl rfl rfl) (passes_of (X := cxOf (L2.CX P w) P w K mg base N qual scope f cdv A outer s H E) rfl), body_read A1 r p' rfl⟩
  refine ⟨ok.len, fun A outer s H args us vs Q E hr e0 b r h => codeAny_mono (ok.run A outer s H args us vs Q (fun _ _ _ => False) hr e0 b r h) fun r s' z => ?_⟩
  cases r with
  | error e => exact (cx_false z).elim
  | ok fl => cases fl <;> exact z
/-- the plain law is enough -/
theorem sp_law {n : Nat} {g : SF} (law : ∀ (a : Addr) (ns : List Int), ns.length ≤ 63 → ∃ h', runB n g [.kl a (ns.map PV.int)] mh0 = .ok (.bl true) h') (H : Hp) (a : Addr) (ns : List Int) (hl : ns.length ≤ 63) (hO : Only H) (hS : SqL K H a (ns.map V.int)) :
    spL K ca n g 1 [.ref a] H (fun v _ => v = .bl true) fun _ _ _ => False := by
  have sq : SqC K H a (ns.map V.int) := by
    rcases hS with (hS | ⟨o, hS⟩) | hS
    · rcases hO a with e | ⟨o, xs, e⟩
      · rw [e] at hS; cases hS
      · rw [e] at hS; cases hS
    · exact .inl ⟨o, hS⟩
    · exact .inr hS
  refine ⟨rfl, fun _ => [], mh0, [.kl a (ns.map PV.int)], ⟨fun _ _ => rfl, fun m o e => ?_, fun m k b h => (by cases h)⟩, .cons (.kl sq .ints) .nil, ?_⟩
  · unfold MH.get mh0 at e
    rw [if_neg (Nat.not_lt_zero _)] at e
    cases e
  · obtain ⟨h', e⟩ := law a ns hl
    rw [e]
    intro ν' H' _ _ v rv
    cases rv; rfl
end
end FX

set_option Elab.async false
set_option linter.all false
set_option maxRecDepth 100000
set_option maxHeartbeats 2000000
namespace FX
open PySem PySem.Spec PyProof.Rows L2 SlX
def wBody (p : Nat → Pos) : List Stmt := [.Expr (.Call (.Attribute (.Call (.Name "super" (p 0)) [] [] (p 1)) "__init__" (p 2)) [.Name "value" (p 3)] [] (p 4)) (p 5), .Assign [.Attribute (.Name "self" (p 6)) "value" (p 7)] (.Name "value" (p 8)) (p 9)]
theorem sup_eq (env : PySem.Env) (p : Nat → Pos) (hp : ((p 2).endLine == (p 4).line) = true) : eval (.Call (.Attribute (.Call (.Name "super" (p 0)) [] [] (p 1)) "__init__" (p 2)) [.Name "value" (p 3)] [] (p 4)) env = (do
      let ov ← attributeBase (.Call (.Name "super" (p 0)) [] [] (p 1)) "__init__" env (eval (.Call (.Name "super" (p 0)) [] [] (p 1)) env)
      standAt (p 2).atName
      let (f, first) ← holding [ov] (getMethod ov "__init__" (do return (← importBound (.Call (.Name "super" (p 0)) [] [] (p 1)) env).getD true))
      callWith (p 4) f first (backTo (p 4) (starEach [.Name "value" (p 3)] env)) []) := by
  have e1 : ∀ b o, methodCallPos b o env (p 2) (p 4) = pure (p 4) := fun b o => by
    unfold methodCallPos
    rw [hp, Bool.or_true]; rfl
  show (do
    let ov ← attributeBase (.Call (.Name "super" (p 0)) [] [] (p 1)) "__init__" env (eval (.Call (.Name "super" (p 0)) [] [] (p 1)) env)
    standAt (p 2).atName
    methodCall (.Call (.Name "super" (p 0)) [] [] (p 1)) "__init__" (p 2) (p 4) env ov 1 (backTo (p 4) (starEach [.Name "value" (p 3)] env)) []) = _
  unfold methodCall
  simp only [e1]
  rfl
/-- the def at fI is such an __init__ of the class at D -/
structure WrF (P : Program) (K : PySem.W.Frag) (mg : Str → Option Value) (D fI : Addr) (F : NdefX.NF) (fd : FuncData) : Prop where
  lk : ∃ (oc : Value) (od : Option Addr) (osl : Array (Option Value)) (doc pm ct : Value) (an : Option Addr), fd = PySem.W.fnX F.name F.qual F.params F.body F.scope F.cl .none .none doc pm an (.ref F.c) ct ∧ K.lookup fI = some ⟨oc, od, .func fd, osl⟩
  cd : PySem.W.codeIn K (.ref F.c) F.qual = true
  body : ∃ p, F.body = wBody p ∧ ((p 2).endLine == (p 4).line) = true
  par : ∃ p q, F.params = { posonlyargs := [], args := [{ arg := "self", annotation := none, pos := p }, { arg := "value", annotation := none, pos := q }], vararg := none, kwonlyargs := [], kw_defaults := [], kwarg := none, defaults := [] }
  cl : ∃ (cc : Addr) (ccl : Value) (ccd : Option Addr) (ccs : Array (Option Value)), F.cl = [(("__class__" : Str), cc)] ∧ K.lookup cc = some ⟨ccl, ccd, .cell (some (.ref D)), ccs⟩
  file : ∃ (oc : Obj) (vs : Array Value) (file : Str) (tf : Tok), K.lookup F.c = some oc ∧ oc.data = .fields vs ∧ vs[2]? = some (.str file tf) ∧ ((P.main.file : Str) == file) = true
  top : (P.main.scope.names.lookup ("super" : Str)).isSome = false
  sup : mg "super" = none
  cls : ∃ cd, PySem.W.clsIn K D = some cd
  sc : NdefX.NScope ["self", "value", "__class__"] ["self", "value"] ["__class__"] F.scope
  sk : F.scope.names.lookup ("super" : Str) = some .globalImplicit
  op : PySem.W.nsIn K cStatics "thirdparty.any" = some none
/-- a class over it -/
structure WrC (K : PySem.W.Frag) (D C : Addr) : Prop where
  ox : OexC K C
  sub : PySem.W.mroIn K C (.ref D) = some true
  sup : PySem.W.ks_superIn K C D "__init__" = some (some (.builtin "ValueError.__init__"))
  ve : PySem.W.subIn K (.ref C) (.type "ValueError") = some true
  no : PySem.W.findIn K (.ref C) "value" = some none
def spW (K : PySem.W.Frag) (D : Addr) : Sp := fun vs H Q E => ∃ a C y, vs = [.ref a, y] ∧ WrC K D C ∧ H a = some (exo a C none) ∧ ∀ dx, H dx = none → dx ≠ a → Q .non (upd (upd H dx (exd dx [("value", y)])) a (exo a C (some dx)))
section
variable {prog : Program} {w : World} {A : Around} {E : Value → Shared → Prop} {h : Heap} {g : Array GenState} {d : Drawn} {t : Nat} {os : OsState}
/-- the bound __init__ called -/
theorem mw_call {B newId i : String} {bmB : List Value} (FB : ExcBaseFacts B newId i bmB) {nm q : Str} {C N u e t0 : Addr} {bs bm : List Value} {hdct : Bool} {sn : List Str} {sub : List Value} {ab : Bool} {col : Option Bool} {dd : Option Addr} {k0 k1 k2 k3 k5 : Option Value} {rest : List Value} {Q : Value → Shared → Prop}
    (hC : h.get? C = some (excClassObj nm q C N bs bm hdct sn sub ab col dd k0 k1 k2 k3 k5 newId)) (he : h.get? e = some (PySem.W.excRec (.ref C) t0 none .none .none (.bool false))) (hu : h.get? u = some (PySem.W.kxs_mw i e)) (hz : rest.length ≤ sizeLine)
    (hq : ∀ h' t1, (∀ b o, b ≠ e → h.get? b = some o → h'.get? b = some o) → h'.get? e = some (PySem.W.excRec (.ref C) t1 none .none .none (.bool false)) → Q .none ⟨h', g, d, t, os⟩) :
    wpAny (model prog w) A (call (.ref u) rest) Q E ⟨h, g, d, t, os⟩ := by
  refine wpAny_call (codeAny_of_tree ?_)
  show wpAny _ A.in1 (callAny (.ref u) ⟨rest, []⟩) _ _ _
  simp only [callAny]
  refine wpAny_bind (wpAny_load hu ?_)
  simp only [PySem.W.kxs_mw, show (Value.type "method-wrapper" == Value.type "method" || Value.type "method-wrapper" == Value.type "builtin_function_or_method" || Value.type "method-wrapper" == Value.type "method-wrapper") = true by decide, if_true]
  refine PySem.W.KFB.if_so (by decide) ?_
  refine wpAny_bind (PySem.W.check_bound_init FB.toExcCallFacts hC he rfl ?_)
  refine wpAny_bind (wpAny_pure (wpAny_pure ?_))
  refine ⟨plainId_quiet FB.init.plain _, codeAny_builtin FB.initEntry ?_⟩
  exact PySem.W.exc_init_tree he hz fun h' k e1 _ => hq h' _ k e1
theorem mw_callWith {M : Model} {s : Shared} {u x : Addr} {i : String} {pos : Pos} {env : PySem.Env} {e : Expr} {rest : List Expr} {Q : Value → Shared → Prop}
    (h : wpAny M A (spliced (backTo pos (starEach (e :: rest) env))) (fun vs s₁ => PySem.W.KxsAt i u x s₁.heap ∧ wpAny M A (call (.ref u) vs) Q E s₁) E s)
    (he : starEach (e :: rest) env = (false, eval e env) :: starEach rest env := by rfl) (hplain : (backTo pos (starEach rest env)).any (·.1) = false := by rfl) :
    wpAny M A (callWith pos (.ref u) [] (backTo pos (starEach (e :: rest) env)) []) Q E s := by
  rw [he] at h ⊢
  refine PySem.W.kxs_callWith (i := i) (x := x) (by show (false || (backTo pos (starEach rest env)).any (·.1)) = false; rw [hplain]; rfl) ?_
  exact Calls.evalArgs_plain h
end
section
variable {P : Program} {w : World} {K : PySem.W.Frag} {mg : Str → Option Value} {base : Heap} {CX : CXT} {D fI : Addr} {F : NdefX.NF} {fd : FuncData} {k : Nat}
theorem ok_wire (W : WrF P K mg D fI F fd) : FnOk P w K mg base CX (k + 1) fI fd ["self", "value"] (spW K D) := by
  refine ⟨fun vs H Q E ⟨_, _, _, e, _⟩ => by rw [e]; rfl, fun A outer s H args us vs Q E hr e0 hb r hsp => ?_⟩
  obtain ⟨oc, od, osl, doc, pm, ct, an, rfl, lk⟩ := W.lk
  obtain ⟨pz, hbody, hpz⟩ := W.body
  obtain ⟨pp, pq, hpar⟩ := W.par
  obtain ⟨cc, ccl, ccd, ccs, hcl, hcc⟩ := W.cl
  obtain ⟨ocode, cvs, file, tf, hcode, hcodeD, hvs, hfile⟩ := W.file
  obtain ⟨cdD, hD⟩ := W.cls
  have S := W.sc
  have KX : K.In s.heap := e0.mod.kin.keeps fun b o e => (e0.bs b o e).1
  have lim : s.heap.NoLimit := e0.mod.nolimit.keeps fun b o e => (e0.bs b o e).1
  obtain ⟨a, C, y, ev, T, ea, hq⟩ := hsp
  subst ev
  obtain ⟨ua, uy, rfl⟩ : ∃ ua uy, us = [ua, uy] := by
    cases r with
    | cons r1 r2 => cases r2 with
      | cons r3 r4 => cases r4; exact ⟨_, _, rfl⟩
  have ra : ua = .ref a := by cases r with | cons r1 _ => exact r1
  subst ra
  have ry : L2.RelV y uy := by cases r with | cons _ r2 => cases r2 with | cons r3 _ => exact r3
  have CA : NdefX.CellsAt F.cl ["__class__"] [some (.ref D)] s.heap H := by
    refine ⟨rfl, fun z c e => ?_, fun x z c e1 e2 => ?_, fun i z e => ?_⟩
    · rw [hcl] at e
      have hc : c = cc := by
        simp only [List.lookup] at e
        split at e
        · cases e; rfl
        · cases e
      subst hc
      exact ⟨(e0.bs _ _ (e0.mod.kin _ _ hcc)).2, _, _, KX _ _ hcc, rfl⟩
    · rw [hcl] at e1 e2
      simp only [List.lookup] at e1 e2
      split at e1
      · rename_i h1
        split at e2
        · rename_i h2
          rw [beq_iff_eq.mp h1, beq_iff_eq.mp h2]
        · cases e2
      · cases e1
    · cases i with
      | zero =>
        simp at e
        subst e
        refine ⟨cc, by rw [hcl]; rfl, fun v hv => ?_⟩
        cases hv
        exact ⟨.ref D, rfl, _, KX _ _ hcc, rfl⟩
      | succ i => simp at e
  refine codeAny_call_function hr.depth (KX _ _ lk) rfl S.co S.gen rfl (PySem.W.codeRec_of KX W.cd) (hb _ _ _ _ ?_)
  refine wpAny_newFunctionEnv S.nocell (fun ⟨n, _⟩ hy => S.par n (List.of_mem_zip hy).1) (fun h₁ hns hsb => ⟨lim.fresh _ hsb, ?_⟩) S.kind
  show codeAny _ _ (.func F.body (NdefX.envF F fI s.heap.objs.size)) _ _
  refine ks_codeAny_funcAt ?_
  have kp : ∀ b o, s.heap.get? b = some o → h₁.get? b = some o := fun b o e => hsb.extBut b o (Nat.ne_of_lt (Heap.lt_size e)) (Heap.get?_push_of_some _ e)
  have I : Inv (NdefX.ncx CX P w K mg base ["self", "value", "__class__"] F fI A outer s H E) [] (NdefX.startF ["self", "value", "__class__"] [.ref a, y] [some (.ref D)]) H { s with heap := h₁, toks := s.toks + ((["self", "value"] : List Str).zip [Value.ref a, uy]).length } :=
    NdefX.inv_startN S hr.hd e0 rfl r CA hns kp
  generalize hσ : NdefX.startF ["self", "value", "__class__"] [.ref a, y] [some (.ref D)] = σ at I
  have hs0 : σ[0]? = some (some (.ref a)) := by rw [← hσ]; rfl
  have hs1 : σ[1]? = some (some y) := by rw [← hσ]; rfl
  have KX1 : K.In h₁ := KX.keeps kp
  have hvis : ∀ z, z = ("self" : Str) ∨ z = ("value" : Str) → F.scope.names.lookup z = some .local := fun z hz => S.par z (by rcases hz with rfl | rfl <;> decide)
  rw [hbody]
  refine ks_wpAt_execs_cons (ks_wpAt_Expr_any (ks_wpAt_MethodCall ?_ (sup_eq _ pz hpz)) I.quiet)

  refine ks_wpAt_super_base (f := fI) (cc := F.c) W.sk (S.frk "__class__" (by decide)) (by decide) rfl (KX1 _ _ lk) rfl (by rw [hpar]; rfl) rfl (KX1 _ _ hcode) hcodeD hvs hfile W.top ?_
  obtain ⟨mb, hb1, hb2⟩ := I.mod.blt
  refine PySem.W.ks_loadName_global S.kind W.sk (Calls.loadGlobal_builtin (I.mod.glob.keeps I.bk) W.sup (hb1.keeps I.bk) ((hb2 "super" (by decide +kernel)).trans (show bootBuiltins "super" = some (.type "super") from by decide +kernel)) ⟨rfl, ?_⟩)
  refine wpAny_loadName_free S.kind (S.frk "__class__" (by decide)) (show F.cl.lookup ("__class__" : Str) = some cc by rw [hcl]; rfl) ⟨_, KX1 _ _ hcc, rfl⟩ ?_
  obtain ⟨m, hm, hl⟩ := I.loc
  have look : ∀ i z v, (["self", "value", "__class__"] : List Str)[i]? = some z → F.scope.names.lookup z = some .local → σ[i]? = some (some v) → ∃ u, L2.RelV v u ∧ m z = some u := fun i z v e1 e2 e3 => by
    obtain ⟨u, r, q⟩ := hl i z v e1 e3 (.inl e2)
    rcases q with ⟨_, q⟩ | ⟨q, _⟩
    · exact ⟨u, r, q⟩
    · have q' : F.scope.names.lookup z = some .cell ∨ F.scope.names.lookup z = some .free := q
      rw [e2] at q'
      rcases q' with q' | q' <;> cases q'
  obtain ⟨u0, r0, m0⟩ := look 0 "self" _ rfl (hvis _ (.inl rfl)) hs0
  cases r0
  refine wpAny_loadName_local S.kind (hvis _ (.inl rfl)) hm m0 ?_
  obtain ⟨oD, hD1, hD2⟩ : ∃ oD, h₁.get? D = some oD ∧ oD.data = .cls cdD := by
    unfold PySem.W.clsIn at hD
    split at hD
    · rename_i c d cd' sl ho
      cases hD
      exact ⟨_, KX1 _ _ ho, rfl⟩
    · cases hD
  refine ks_wpAny_isType_cls hD1 hD2 ⟨rfl, ?_⟩
  obtain ⟨t1, he1⟩ := exo_at I.hok ea
  refine ks_wpAny_call_super hD1 hD2 he1 rfl (fun c e => (nomatch e)) (PySem.W.looks_mroIn KX1 T.sub) (fun h2 e2 k2 => ?_)
  have J2 : Inv (NdefX.ncx CX P w K mg base ["self", "value", "__class__"] F fI A outer s H E) [] σ H { s with heap := h2, toks := s.toks + ((["self", "value"] : List Str).zip [Value.ref a, uy]).length } := I.kept k2
  have KX2 : K.In h2 := KX1.keeps k2
  obtain ⟨nm, q, N, bs, bm, sn, sub, ab, col, dd, k0, k1, kk2, k3, k5, hC, hbm⟩ := T.ox.cls
  have hcC : PySem.W.clsIn K C = some { name := nm, bases := bs, mro := .ref C :: bm, ns := N, qualname := q, hasDict := true, slotNames := sn, subclasses := sub, abstract := ab, collection := col, hasDel := false } := by unfold PySem.W.clsIn; rw [hC] <;> rfl
  have hsup := T.sup
  unfold PySem.W.ks_superIn at hsup
  rw [hcC] at hsup
  have hxC : a ≠ C := fun z => by
    have e1 := KX1 _ _ hC
    rw [← z, he1] at e1
    cases e1
  refine PySem.W.kxs_getMethod PySem.W.kxs_ValueError e2 (PySem.W.looks_opaque KX2 W.op) (fun A Q E s k q => wpAny_bind ((PySem.W.looks_clsIn KX2 hcC) A _ E s k (wpAny_pure q))) rfl KX2 hsup
    ((PySem.W.InstAt.type (od := none) ⟨k2 _ _ he1, rfl, rfl, trivial⟩).andThen (PySem.W.looks_subIn KX2 T.ve)) hxC (by decide) ?_
  have kp3 : ∀ b o, h₁.get? b = some o → (h2.push (PySem.W.kxs_mw "ValueError.__init__" a)).get? b = some o := fun b o e => Heap.get?_push_of_some _ (k2 b o e)
  have KX3 : K.In (h2.push (PySem.W.kxs_mw "ValueError.__init__" a)) := KX1.keeps kp3
  have I3 : Inv (NdefX.ncx CX P w K mg base ["self", "value", "__class__"] F fI A outer s H E) [] σ H { s with heap := h2.push (PySem.W.kxs_mw "ValueError.__init__" a), toks := s.toks + ((["self", "value"] : List Str).zip [Value.ref a, uy]).length + 1 } := I.kept kp3
  refine mw_callWith (i := "ValueError.__init__") (x := a) ?_
  show wpAny _ _ (spliced ((false, eval (.Name "value" (pz 3)) (NdefX.envF F fI s.heap.objs.size)) :: backTo (pz 4) (starEach [] (NdefX.envF F fI s.heap.objs.size)))) _ _ _
  obtain ⟨u1, r1, m1⟩ := look 1 "value" _ rfl (hvis _ (.inr rfl)) hs1
  have hm3 : (h2.push (PySem.W.kxs_mw "ValueError.__init__" a)).Ns (NdefX.envF F fI s.heap.objs.size).locals m := by
    obtain ⟨o, es, ep, ho, r⟩ := hm
    exact ⟨o, es, ep, kp3 _ _ ho, r⟩
  refine Calls.spliced_cons (wpAny_Name (wpAny_loadName_local S.kind (hvis _ (.inr rfl)) hm3 m1 ?_) (by decide))
  refine Calls.spliced_nil ⟨Heap.get?_push_size _ rfl, ?_⟩
  refine mw_call PySem.F.excBase_ValueError (KX3 _ _ hC) (kp3 _ _ he1) (Heap.get?_push_size _ rfl) (by rw [sizeLine_eq]; simp) fun h4 t4 k4 e4 => ?_
  have J4 := I3.write (t' := s.toks + ((["self", "value"] : List Str).zip [Value.ref a, uy]).length + 1) (x := a) (e := a) (o := exo a C none) (by rw [ea]; exact True.intro) (.inl rfl) k4 ⟨_, e4⟩ (exo_ok e4)
  have eu : upd H a (exo a C none) = H := by
    funext b
    by_cases hb : b = a
    · rw [hb, upd_same, ea]
    · rw [upd_ne hb]
  rw [eu] at J4
  have ht := pss_one (ps_ost (X := NdefX.ncx CX P w K mg base ["self", "value", "__class__"] F fI A outer s H E) (f := "value") (p' := pz 7) (pos := pz 9) (pe_var (i := 0) (pos := pz 6) (x := "self") rfl (.inl (hvis _ (.inl rfl)))) (pe_var (i := 1) (pos := pz 8) (x := "value") rfl (.inl (hvis _ (.inr rfl)))) rfl)
  refine wpAt_of_wpAny (wpAny_mono (ht.run [] _ σ H { nx := fun _ H' => Q .non H', rt := Q } J4 ⟨y, hs1, .ref a, hs0, a, C, rfl, T.ox, T.no, .inl ⟨ea, hq⟩⟩) (fun fl s' hs => ?_) fun e s' hs => hs)
  have fin : ∀ {σ' : L2.St} {H' : Hp} {v : V} {u : Value}, Inv (NdefX.ncx CX P w K mg base ["self", "value", "__class__"] F fI A outer s H E) [] σ' H' s' → L2.RelV v u → Q v H' → CE outer P w H s Q u s' :=
    fun {σ' H' v u} J rv q => ⟨v, H', J.os, J.bare, J.base, J.hok, rv, q⟩
  cases fl with
  | ret u =>
    obtain ⟨v, σ', H', J, rv, q⟩ := hs
    exact fin J rv q
  | next =>
    obtain ⟨σ', H', J, q⟩ := hs
    exact fin (v := V.non) (u := Value.none) J rfl q
  | brk =>
    obtain ⟨_, _, _, q⟩ := hs
    exact False.elim q
  | cont =>
    obtain ⟨_, _, _, q⟩ := hs
    exact False.elim q
end
end FX

set_option Elab.async false
set_option linter.all false
set_option maxRecDepth 100000
set_option maxHeartbeats 2000000
namespace FX
open PySem PySem.Spec PyProof.Rows L2 SlX
def mExo (c : Nat) : FF := fun xs => match xs with
  | [x] => mNew (.exo c x)
  | _ => M.bad
def mBxo (T : String) : FF := fun xs => match xs with
  | [_] => mNew (.bxo T)
  | _ => M.bad
/-- e.value -/
def atVal (cs : List Nat) : PV → M PV := fun x => match x with
  | .ref n => mAt n fun o => match o with
    | .exo c y => if cs.contains c then M.ret y else M.bad
    | _ => M.bad
  | _ => M.bad
def mRaise {α : Type} (c : Nat) (xs : List PV) : M α := match xs with
  | [x] => fun h => .exc c x h
  | _ => M.bad
/-- raise C(..) -/
def sRs (c : Nat) (ra : AF) : SF := fun ρ => sThen (ra ρ) ρ fun xs => match xs with
  | [x] => M.ret (.xc c x ρ)
  | _ => M.bad
section
variable {X : Cx} {pins : List (Addr × Obj)} {σ : L2.St} {H : Hp} {s s' : Shared}
theorem inv_ofMk {a : Addr} {oe : Obj} {vs : Array Value} {cls : Value} {d : Option Addr} (I : Inv X pins σ H s) (k : ∀ b o, s.heap.get? b = some o → s'.heap.get? b = some o) (n : s.heap.get? a = none) (hn : H a = none)
    (he : s'.heap.get? a = some oe) (hz : Zc cls d oe) (hd : oe.data = .fields vs) (os : s'.os = s.os) (bare : AllBare s'.gens) : Inv X pins σ (upd H a (ExV cls d a)) s' := by
  have J := L2.Inv.laidN (t' := s.toks) I k n hn (exV_ok (P := X.prog) (w := X.w) (H := upd H a (ExV cls d a)) he hz hd)
  exact ⟨J.ok, os.trans J.os, bare, J.base, J.loc, J.cell, J.free, J.freeC, J.pin, J.hok, J.len⟩
theorem pe_ofMk {e : Expr} {t : L2.St → Hp → XK → Prop} (he : PMk X e t) : PE X e (fun σ H Q => t σ H fun cls d H' => ∀ a, H' a = none → Q (.ref a) (upd H' a (ExV cls d a))) := by
  refine ⟨fun pins s σ H Q I h => wpAny_mono (he pins s σ H _ I h) (fun u s1 hu => ?_) fun _ _ z => z⟩
  obtain ⟨a, oe, vs, sI, H', cls, d, rfl, J, k, hn, ho, hz, hd, h1, na, os, ag, r, q⟩ := hu
  exact ⟨.ref a, _, inv_ofMk J k hn na ho hz hd os ag, rfl, q a na⟩
end
structure Mx (P : Program) (K : PySem.W.Frag) (mg : Str → Option Value) (C : Addr) : Prop where
  ex : ∃ (D fI : Addr) (F : NdefX.NF) (fd : FuncData), WrF P K mg D fI F fd ∧ WrC K D C ∧ PySem.W.findIn K (.ref C) "__init__" = some (some (.ref fI)) ∧ PySem.W.typeIn K (.ref fI) = some (.type "function")
theorem wr_binds {P : Program} {K : PySem.W.Frag} {mg : Str → Option Value} {D fI : Addr} {F : NdefX.NF} {fd : FuncData} (W : WrF P K mg D fI F fd) : Binds K fd ["self", "value"] [] := by
  obtain ⟨oc, od, osl, doc, pm, ct, an, rfl, lk⟩ := W.lk
  obtain ⟨pp, pq, hpar⟩ := W.par
  refine .all fun us hl => ?_
  rw [hpar]
  match us, hl with
  | [_, _], _ => rfl
section
variable {X : Cx} {ca : Ca} {W : WX} {x : Str} {e : Expr} {es : List Expr} {ra : AF} {p pos : Pos} {c : Nat}
theorem upd_del {H : Hp} {a dx : Addr} {o1 o2 o3 o4 : HO} (ha : H a = none) (ne : dx ≠ a) : upd (del (upd (upd (upd H a o1) dx o2) a o3) a) dx o4 = upd H dx o4 := by
  funext b
  by_cases h1 : b = dx
  · rw [h1, upd_same, upd_same]
  · rw [upd_ne h1, upd_ne h1]
    by_cases h2 : b = a
    · rw [h2, del_same, ha]
    · rw [del_ne h2, upd_ne h2, upd_ne h1, upd_ne h2]
/-- C(..) as an exception that is made -/
theorem pmk_x {CX : CXT} {C : Addr} {ta : TA} (M : Mx X.prog X.K X.mg C) (hr : Room 2 X.A) (hx : Passes CX X (fun _ _ _ => False)) (hg : Gl X x) (hm : X.mg x = some (.ref C)) (ha : PA X (e :: es) ta)
    (hdb : (x == ("__debug__" : Str)) = false := by decide) (he : starEach (e :: es) X.env = (false, eval e X.env) :: starEach es X.env := by rfl) (hpl : (backTo pos (starEach es X.env)).any (·.1) = false := by rfl) :
    ∃ D, WrC X.K D C ∧ PMk X (.Call (.Name x p) (e :: es) [] pos) (tMkO C (spW X.K D) [] ta) := by
  obtain ⟨D, fI, F, fd, hW, hC, hi, ht⟩ := M.ex
  exact ⟨D, hC, pmk_oex (CX := CX) hC.ox hi ht (ok_wire (k := 0) hW) hr (wr_binds hW) .nil hx hg hm ha hdb he hpl⟩
theorem tMk_in {C D : Addr} (hC : WrC X.K D C) {σ : L2.St} {H : Hp} {Q : XK} {f : AF} (h : tA ca W X.K f σ H fun vs H1 => ∃ y, vs = [y] ∧ ∀ d, H1 d = none → Q (.ref C) (some d) (upd H1 d (.xd [("value", y)]))) : tMkO C (spW X.K D) [] (tA ca W X.K f) σ H Q := by
  obtain ⟨ν, ρ, hp, A, E, P⟩ := h
  refine ⟨ν, ρ, hp, A, E, P.mono fun ν1 H1 h1 xs e1 A1 q vs r => ?_⟩
  obtain ⟨y, rfl, q⟩ := q vs r
  refine ⟨by simp, fun a ha => ⟨a, C, y, rfl, hC, upd_same, fun dx hdx ne => ⟨rfl, dx, [("value", y)], upd_same, ?_, ?_, ?_⟩⟩⟩
  · rw [upd_ne ne, upd_same]
  · rw [upd_ne ne] at hdx; exact hdx
  · have hdx' : H1 dx = none := by rw [upd_ne ne] at hdx; exact hdx
    rw [upd_del ha ne]
    exact q dx hdx'
theorem new_exo {K : PySem.W.Frag} {ν : Nu} {h : MH} {H : Hp} {c : Nat} {a d : Addr} {x : PV} {v : V} (A : Ab K ca ν h H) (hd : H d = none) (ha : upd H d (.xd [("value", v)]) a = none) (r : Rep K ν H x v) :
    Ext ν (nuN ν h.nx [a, d]) H (upd (upd H d (.xd [("value", v)])) a (ExV (.ref (ca c)) (some d) a)) ∧ Ab K ca (nuN ν h.nx [a, d]) (h.new (.exo c x)) (upd (upd H d (.xd [("value", v)])) a (ExV (.ref (ca c)) (some d) a)) := by
  have ne : a ≠ d := fun z => by rw [z, upd_same] at ha; cases ha
  have ha' : H a = none := by rw [upd_ne ne] at ha; exact ha
  refine A.nw (fun b hb => ?_) (fun b hb => ?_) (fun b hb => ?_) fun z => ⟨a, d, v, rfl, upd_same, by rw [upd_ne (Ne.symm ne), upd_same], r.ext z⟩
  · rcases List.mem_cons.mp hb with rfl | hb
    · exact ha'
    · rw [List.mem_singleton.mp hb]; exact hd
  · have h1 : b ≠ a := fun z => hb (by rw [z]; exact List.mem_cons_self)
    have h2 : b ≠ d := fun z => hb (by rw [z]; exact List.mem_cons_of_mem _ List.mem_cons_self)
    rw [upd_ne h1, upd_ne h2]
  · rcases List.mem_cons.mp hb with rfl | hb
    · rw [upd_same]; exact fun z => nomatch z
    · rw [List.mem_singleton.mp hb, upd_ne (Ne.symm ne), upd_same]; exact fun z => nomatch z
theorem px_mkE (M : Mx X.prog X.K X.mg (ca c)) (hr : Room 2 X.A) (tk : Takes X W) (hg : Gl X x) (hm : X.mg x = some (.ref (ca c))) (ha : PXA X ca W (e :: es) ra)
    (hdb : (x == ("__debug__" : Str)) = false := by decide) (he : starEach (e :: es) X.env = (false, eval e X.env) :: starEach es X.env := by rfl) (hpl : (backTo pos (starEach es X.env)).any (·.1) = false := by rfl) :
    PX X ca W (.Call (.Name x p) (e :: es) [] pos) (eApp (mExo c) ra) := by
  obtain ⟨D, hC, mk⟩ := pmk_x (CX := L2.CX X.prog X.w) (p := p) (pos := pos) M hr (passes_call tk fun _ _ _ _ z => z.elim) hg hm ha hdb he hpl
  refine ⟨fun pins s σ H Q I ⟨ν, ρ, h, A, E, P⟩ => (pe_ofMk mk).run pins s σ H Q I (tMk_in hC ⟨ν, ρ, h, A, E, (Post.bind P).mono fun ν1 H1 h1 xs e1 A1 P1 vs r => ?_⟩)⟩
  match xs, vs, r, P1 with
  | [], _, _, P1 => exact P1.elim
  | [x], [v], .cons r .nil, P1 =>
    refine ⟨v, rfl, fun d hd a hna => ?_⟩
    obtain ⟨e2, A2⟩ := new_exo (c := c) A1 hd hna r
    exact P1 _ _ e2 A2 _ (.ref nuN_same)
  | _ :: _ :: _, _, _, P1 => exact P1.elim
theorem new_bxo {K : PySem.W.Frag} {ν : Nu} {h : MH} {H : Hp} {T : String} {a : Addr} (A : Ab K ca ν h H) (ha : H a = none) :
    Ext ν (nuN ν h.nx [a]) H (upd H a (ExV (.type T) none a)) ∧ Ab K ca (nuN ν h.nx [a]) (h.new (.bxo T)) (upd H a (ExV (.type T) none a)) := by
  refine A.nw (fun b hb => ?_) (fun b hb => ?_) (fun b hb => ?_) fun z => ⟨a, rfl, upd_same⟩
  · rw [List.mem_singleton.mp hb]; exact ha
  · exact upd_ne fun z => hb (by rw [z]; exact List.mem_cons_self)
  · rw [List.mem_singleton.mp hb, upd_same]; exact fun z => nomatch z
theorem px_mkB {T N I : String} (F : ExcB T N I) (hg : Gl X x) (hm : X.mg x = none) (hv : bootBuiltins x = some (.type T)) (ha : PXA X ca W (e :: es) ra) (hn : x ≠ "__name__" := by decide)
    (hdb : (x == ("__debug__" : Str)) = false := by decide) (he : starEach (e :: es) X.env = (false, eval e X.env) :: starEach es X.env := by rfl) (hpl : (backTo pos (starEach es X.env)).any (·.1) = false := by rfl) :
    PX X ca W (.Call (.Name x p) (e :: es) [] pos) (eApp (mBxo T) ra) := by
  refine ⟨fun pins s σ H Q I ⟨ν, ρ, h, A, E, P⟩ => (pe_ofMk (pmk_exb F hg hm hv ha hn hdb he hpl)).run pins s σ H Q I ⟨ν, ρ, h, A, E, (Post.bind P).mono fun ν1 H1 h1 xs e1 A1 P1 vs r => ?_⟩⟩
  match xs, vs, r, P1 with
  | [], _, _, P1 => exact P1.elim
  | [x], [v], .cons r .nil, P1 =>
    refine ⟨by rw [sizeLine_eq]; simp, fun a hna => ?_⟩
    obtain ⟨e2, A2⟩ := new_bxo (T := T) A1 hna
    exact P1 _ _ e2 A2 _ (.ref nuN_same)
  | _ :: _ :: _, _, _, P1 => exact P1.elim
theorem pxs_raise (M : Mx X.prog X.K X.mg (ca c)) (hr : Room 2 X.A) (hc : X.calm = true) (tk : Takes X W) (hg : Gl X x) (hm : X.mg x = some (.ref (ca c))) (ha : PXA X ca W (e :: es) ra)
    (hdb : (x == ("__debug__" : Str)) = false := by decide) (he : starEach (e :: es) X.env = (false, eval e X.env) :: starEach es X.env := by rfl) (hpl : (backTo pos (starEach es X.env)).any (·.1) = false := by rfl) :
    PXS X ca W (.Raise (some (.Call (.Name x p) (e :: es) [] pos)) none pos) (sRs c ra) := by
  obtain ⟨D, hC, mk⟩ := pmk_x (CX := L2.CX X.prog X.w) (p := p) (pos := pos) M hr (passes_call tk fun _ _ _ _ z => z.elim) hg hm ha hdb he hpl
  refine PS.imp (ps_raise hc tk mk) fun Dn σ H ⟨ν, ρ, h, A, E, P⟩ => ?_
  refine tMk_in hC ⟨ν, ρ, h, A, E, (sThen_post E P).mono fun ν1 H1 h1 xs e1 A1 P1 vs r => ?_⟩
  match xs, vs, r, P1 with
  | [], _, _, P1 => exact P1.elim
  | [x], [v], .cons r .nil, P1 =>
    refine ⟨v, rfl, fun d hd => ?_⟩
    obtain ⟨e2, A2⟩ := A1.oth (o := .xd [("value", v)]) hd
    exact Post.ret (Post.ext P1 e2) A2 σ d v ((E.ext e1).ext e2) ⟨upd_same, fun n z => A1.live z hd⟩ (r.ext e2)
  | _ :: _ :: _, _, _, P1 => exact P1.elim
theorem at_val {cs : List Nat} (hx : ∀ c ∈ cs, L2.XfC X.K (ca c) ∧ PySem.W.findIn X.K (.ref (ca c)) "value" = some none) : AtM X ca W "value" (atVal cs) := by
  intro b pins s σ H ν h x xv v Q I rv A r P
  unfold atVal at P
  cases r with
  | @ref n a l e =>
    cases rv
    have P1 : Post X.K ca W σ ν H (mAt n (fun o => match o with
      | .exo c y => if cs.contains c then M.ret y else M.bad
      | _ => M.bad) h) _ := P
    cases ho : h.get n with
    | none =>
      unfold mAt at P1
      rw [ho] at P1
      exact P1.elim
    | some o =>
      rw [mAt_ok ho] at P1
      have q := A.at_ _ o ho
      rw [e] at q
      cases o with
      | exo c y =>
        obtain ⟨a', d, w, e1, e2, e3, ry⟩ := q
        cases e1
        have P2 : Post X.K ca W σ ν H ((if cs.contains c then M.ret y else M.bad : M PV) h) _ := P1
        by_cases hc : cs.contains c = true
        · rw [if_pos hc] at P2
          obtain ⟨T, hno⟩ := hx c (List.contains_iff_mem.mp hc)
          obtain ⟨oe, vs, he, hz, hv⟩ := exV_at I.hok e2
          have hd : ObjOk X.prog X.w H s.heap d (.xd [(("value" : Str), w)]) := I.hok d _ e3
          obtain ⟨mA, hns, hr⟩ := hd
          obtain ⟨od, ho', hl⟩ := lookIn_ns hns
          obtain ⟨u, hu, ru⟩ := RelO.some_of (v := w) (o := mA "value") (by have z := hr "value"; exact z)
          have J : PySem.W.InstAt s.heap a oe (ca c) (some od) := ⟨he, hz.1, by unfold PySem.W.notCls; rw [hv] <;> rfl, by rw [hz.2]; exact ho'⟩
          exact HandSPX.exc_get I.kIn J T.ga T.gg T.exC (PySem.W.findObj_own T.hdC hno rfl (by rw [hl, hu])) (handed_of ru) ⟨w, H, I.tok _, ru, Post.ret P2 A w ry⟩
        · rw [if_neg hc] at P2
          exact P2.elim
      | _ => exact P1.elim
  | _ => exact P.elim
end
end FX

set_option Elab.async false
set_option linter.all false
set_option maxRecDepth 100000
set_option maxHeartbeats 2000000
namespace FX
open PySem PySem.Spec PyProof.Rows L2 SlX
def okPar (a : Arguments) : Bool := match a with
  | { posonlyargs := [], args := [{ arg := x, annotation := none, pos := _ }, { arg := y, annotation := none, pos := _ }], vararg := none, kwonlyargs := [], kw_defaults := [], kwarg := none, defaults := [] } => decide (x = "self") && decide (y = "value")
  | _ => false
theorem okPar_ok {a : Arguments} (h : okPar a = true) : ∃ p q, a = { posonlyargs := [], args := [{ arg := "self", annotation := none, pos := p }, { arg := "value", annotation := none, pos := q }], vararg := none, kwonlyargs := [], kw_defaults := [], kwarg := none, defaults := [] } := by
  unfold okPar at h
  split at h
  · rename_i x p y q
    simp only [Bool.and_eq_true, decide_eq_true_eq] at h
    obtain ⟨rfl, rfl⟩ := h
    exact ⟨p, q, rfl⟩
  · cases h
def okBody (b : List Stmt) : Bool := match b with
  | [.Expr (.Call (.Attribute (.Call (.Name s p0) [] [] p1) i p2) [.Name v p3] [] p4) p5, .Assign [.Attribute (.Name s2 p6) v2 p7] (.Name v3 p8) p9] =>
    decide (s = "super") && decide (i = "__init__") && decide (v = "value") && decide (s2 = "self") && decide (v2 = "value") && decide (v3 = "value") && (p2.endLine == p4.line)
  | _ => false
theorem okBody_ok {b : List Stmt} (h : okBody b = true) : ∃ p, b = wBody p ∧ ((p 2).endLine == (p 4).line) = true := by
  unfold okBody at h
  split at h
  · rename_i s p0 p1 i p2 v p3 p4 p5 s2 p6 v2 p7 v3 p8 p9
    simp only [Bool.and_eq_true, decide_eq_true_eq] at h
    obtain ⟨⟨⟨⟨⟨⟨rfl, rfl⟩, rfl⟩, rfl⟩, rfl⟩, rfl⟩, hp⟩ := h
    exact ⟨fun n => [p0, p1, p2, p3, p4, p5, p6, p7, p8, p9].getD n p0, rfl, hp⟩
  · cases h
def okCell (K : PySem.W.Frag) (D : Addr) (cl : List (Str × Addr)) : Bool := match cl with
  | [(x, cc)] => decide (x = "__class__") && (match K.lookup cc with
    | some ⟨_, _, .cell (some (.ref D')), _⟩ => D' == D
    | _ => false)
  | _ => false
theorem okCell_ok {K : PySem.W.Frag} {D : Addr} {cl : List (Str × Addr)} (h : okCell K D cl = true) : ∃ (cc : Addr) (ccl : Value) (ccd : Option Addr) (ccs : Array (Option Value)), cl = [(("__class__" : Str), cc)] ∧ K.lookup cc = some ⟨ccl, ccd, .cell (some (.ref D)), ccs⟩ := by
  unfold okCell at h
  split at h
  · rename_i x cc
    simp only [Bool.and_eq_true, decide_eq_true_eq] at h
    obtain ⟨rfl, h⟩ := h
    split at h
    · rename_i a b D' c e
      rw [beq_iff_eq.mp h] at e
      exact ⟨cc, a, b, c, rfl, e⟩
    · cases h
  · cases h
def okFile (P : Program) (K : PySem.W.Frag) (c : Addr) : Bool := match K.lookup c with
  | some ⟨_, _, .fields vs, _⟩ => (match (vs[2]? : Option Value) with
    | some (.str f _) => (P.main.file : Str) == f
    | _ => false)
  | _ => false
theorem okFile_ok {P : Program} {K : PySem.W.Frag} {c : Addr} (h : okFile P K c = true) : ∃ (oc : Obj) (vs : Array Value) (file : Str) (tf : Tok), K.lookup c = some oc ∧ oc.data = .fields vs ∧ vs[2]? = some (.str file tf) ∧ ((P.main.file : Str) == file) = true := by
  unfold okFile at h
  split at h
  · rename_i a b vs d e
    split at h
    · rename_i f t e2
      exact ⟨_, vs, f, t, e, rfl, e2, h⟩
    · cases h
  · cases h
def nfOf (fd : FuncData) : NdefX.NF := ⟨fd.name, fd.qualname, fd.params, (match fd.body with | .stmts b => b | _ => []), fd.scope, fd.closure, (match fd.code with | .ref c => c | _ => 0)⟩
def okFd (P : Program) (K : PySem.W.Frag) (D : Addr) (fd : FuncData) : Bool :=
  (match fd.body with | .stmts b => okBody b | _ => false) && (match fd.code with | .ref c => PySem.W.codeIn K (.ref c) fd.qualname && okFile P K c | _ => false) && okPar fd.params && okCell K D fd.closure &&
  decide (fd.globals = mainGlobals) && decide (fd.builtins = builtinsNs) && decide (fd.defaults = .none) && decide (fd.kwdefaults = .none) && NdefX.nscB ["self", "value", "__class__"] ["self", "value"] ["__class__"] fd.scope &&
  decide (fd.scope.names.lookup ("super" : Str) = some .globalImplicit) && !(P.main.scope.names.lookup ("super" : Str)).isSome && (PySem.W.clsIn K D).isSome && decide (PySem.W.nsIn K cStatics "thirdparty.any" = some none)
theorem okFd_ok {P : Program} {K : PySem.W.Frag} {mg : Str → Option Value} {D fI : Addr} {fd : FuncData} {oc : Value} {od : Option Addr} {osl : Array (Option Value)} (lk : K.lookup fI = some ⟨oc, od, .func fd, osl⟩) (hs : mg "super" = none) (h : okFd P K D fd = true) : WrF P K mg D fI (nfOf fd) fd := by
  unfold okFd at h
  simp only [Bool.and_eq_true, Bool.not_eq_true', decide_eq_true_eq] at h
  obtain ⟨⟨⟨⟨⟨⟨⟨⟨⟨⟨⟨⟨h1, h2⟩, h3⟩, h4⟩, h5⟩, h6⟩, h7⟩, h8⟩, h9⟩, h10⟩, h11⟩, h12⟩, h13⟩ := h
  obtain ⟨name, qual, params, body, scope, gl, cl, df, kw, doc, pm, an, code, ct, bl⟩ := fd
  dsimp only at h1 h2 h3 h4 h5 h6 h7 h8 h9 h10 h11 h12 h13
  subst h5 h6 h7 h8
  split at h1
  · rename_i b
    split at h2
    · rename_i c
      obtain ⟨h2, h2'⟩ := Bool.and_eq_true_iff.mp h2
      exact ⟨⟨oc, od, osl, doc, pm, ct, an, rfl, lk⟩, h2, okBody_ok h1, okPar_ok h3, okCell_ok h4, okFile_ok h2', h11, hs, Option.isSome_iff_exists.mp h12, NdefX.nscope_by h9, h10, h13⟩
    · cases h2
  · cases h1
def bOex (K : PySem.W.Frag) (C : Addr) : Bool := (match K.lookup C with
  | some ⟨.type "type", _, .cls cd, sl⟩ => (match cd.mro, sl.toList with
    | .ref C' :: bm, [_, _, _, _, some (.builtin n), _] => C' == C && n == "ValueError.__new__" && !cd.hasDel && cd.hasDict && PySem.HandSPX.refsVE bm
    | _, _ => false)
  | _ => false) && He.eqO (PySem.W.findIn K (.ref C) "__setattr__") (some (some (.builtin "object.__setattr__"))) && decide (PySem.W.subIn K (.ref C) (.type "BaseException") = some true) && decide (PySem.W.typeIn K (.ref C) = some (.type "type")) && PySem.W.keepIn K (.ref C)
theorem bOex_ok {K : PySem.W.Frag} {C : Addr} (h : bOex K C = true) : OexC K C := by
  unfold bOex at h
  simp only [Bool.and_eq_true, decide_eq_true_eq] at h
  obtain ⟨⟨⟨⟨h1, h2⟩, h3⟩, h4⟩, h5⟩ := h
  refine ⟨?_, He.eqO_ok h2, h3, h4, h5⟩
  split at h1
  · rename_i dd cd sl e
    split at h1
    · rename_i C' bm k0 k1 k2 k3 n k5 hm hs
      simp only [Bool.and_eq_true, Bool.not_eq_true', beq_iff_eq] at h1
      obtain ⟨⟨⟨⟨rfl, rfl⟩, hd⟩, hh⟩, hr⟩ := h1
      obtain ⟨nm, bs, mro, ns, qn, hd', sn, sb, ab, col, del⟩ := cd
      dsimp only at hm hd hh
      subst hm hd hh
      obtain ⟨sl⟩ := sl
      dsimp only at hs
      subst hs
      exact ⟨_, _, _, _, _, _, _, _, _, _, _, _, _, _, _, e, hr⟩
    · cases h1
  · cases h1
def bMx (P : Program) (D C : PySem.W.Frag → Addr) : FaB := fun K => (match K.lookup (He.ma K (D K) "__init__") with
  | some ⟨_, _, .func fd, _⟩ => okFd P K (D K) fd
  | _ => false) && bOex K (C K) && decide (PySem.W.mroIn K (C K) (.ref (D K)) = some true) && decide (PySem.W.ks_superIn K (C K) (D K) "__init__" = some (some (.builtin "ValueError.__init__"))) &&
  decide (PySem.W.subIn K (.ref (C K)) (.type "ValueError") = some true) && He.eqO (PySem.W.findIn K (.ref (C K)) "value") (some none) && He.eqO (PySem.W.findIn K (.ref (C K)) "__init__") (some (some (.ref (He.ma K (D K) "__init__")))) && decide (PySem.W.typeIn K (.ref (He.ma K (D K) "__init__")) = some (.type "function"))
theorem bMx_ok {P : Program} {D C : PySem.W.Frag → Addr} {K : PySem.W.Frag} {mg : Str → Option Value} (hs : mg "super" = none) (h : bMx P D C K = true) : Mx P K mg (C K) := by
  unfold bMx at h
  simp only [Bool.and_eq_true, decide_eq_true_eq] at h
  obtain ⟨⟨⟨⟨⟨⟨⟨h1, h2⟩, h3⟩, h4⟩, h5⟩, h6⟩, h7⟩, h8⟩ := h
  split at h1
  · rename_i oc od fd osl e
    exact ⟨_, _, _, fd, okFd_ok e hs h1, ⟨bOex_ok h2, h3, h4, h5, He.eqO_ok h6⟩, He.eqO_ok h7, h8⟩
  · cases h1
end FX

set_option Elab.async false
set_option linter.all false
set_option maxRecDepth 100000
set_option maxHeartbeats 2000000
namespace FX
open PySem PySem.Spec PyProof.Rows L2 SlX
open TL (tl)
/-- a text parted by one sign -/
def splC (c : Nat) : List Nat → List (List Nat)
  | [] => [[]]
  | d :: r => match splC c r with
    | p :: ps => if Nat.beq d c then [] :: p :: ps else (d :: p) :: ps
    | [] => []
def toSs : List PV → Option (List (List Nat))
  | [] => some []
  | .str x :: r => (toSs r).map (x :: ·)
  | _ :: _ => none
def preB (x y : List Nat) : Bool := eqL (x.take y.length) y
def sufB (x y : List Nat) : Bool := Nat.ble y.length x.length && eqL (x.drop (x.length - y.length)) y
def pSplit : FF := fun xs => match xs with
  | [.str x, .str [c]] => if decide (c < 256 ∧ x.length + 2 ≤ lim) then mNew (.lst ((splC c x).map PV.str)) else M.bad
  | _ => M.bad
def joinC (s : List Nat) : List (List Nat) → List Nat
  | [] => []
  | [x] => x
  | x :: y :: r => x ++ (s ++ joinC s (y :: r))
def pJoin : FF := fun xs => match xs with
  | [.str s, x] => mSeq x fun ys => match toSs ys with
    | some ls => if decide ((ls.map List.length).sum + ls.length * s.length ≤ lim) then M.ret (.str (joinC s ls)) else M.bad
    | none => M.bad
  | _ => M.bad
def pRemP : FF := fun xs => match xs with
  | [.str x, .str y] => if decide (x.length ≤ lim) then M.ret (.str (if preB x y then x.drop y.length else x)) else M.bad
  | _ => M.bad
def pRemS : FF := fun xs => match xs with
  | [.str x, .str y] => if decide (x.length ≤ lim) then M.ret (.str (if sufB x y then x.take (x.length - y.length) else x)) else M.bad
  | _ => M.bad
def pStaW : FF := fun xs => match xs with
  | [.str x, .str y] => M.ret (.bl (preB x y))
  | _ => M.bad
def pEndW : FF := fun xs => match xs with
  | [.str x, .str y] => M.ret (.bl (sufB x y))
  | _ => M.bad
/-- the figures of a number -/
def figs : Nat → Nat → List Nat → List Nat
  | 0, _, acc => acc
  | f + 1, n, acc => if Nat.blt n 10 then (48 + n) :: acc else figs f (n / 10) ((48 + n % 10) :: acc)
def numS (n : Nat) : List Nat := figs (n + 1) n []
def intS (i : Int) : List Nat := if i < 0 then 45 :: numS (-i).toNat else numS i.toNat
section
variable {K : PySem.W.Frag} {ν : Nu} {H : Hp} {h : MH}
theorem tl_mkS (x : List Nat) : tl (mkS x) = x := rfl
theorem mkS_tl (x : Str) : mkS (tl x) = x := TL.mk_tl x
theorem len_mkS (x : List Nat) : (mkS x).length = x.length := by rw [TL.len_tl, tl_mkS]
theorem splC_ne (c : Nat) : ∀ l, splC c l ≠ []
  | [] => by simp [splC]
  | d :: r => by
    unfold splC
    have := splC_ne c r
    cases e : splC c r with
    | nil => exact absurd e this
    | cons p ps => dsimp only; split <;> simp
theorem spl_splC (c : Nat) : ∀ (l acc : List Nat), ∃ p ps, splC c l = p :: ps ∧ TL.spl [c] 0 acc l = (acc ++ p) :: ps
  | [], acc => ⟨[], [], rfl, by rw [TL.spl_nil, List.append_nil]⟩
  | d :: r, acc => by
    by_cases e : d = c
    · subst e
      obtain ⟨p, ps, h1, h2⟩ := spl_splC d r []
      have hp : TL.pre [d] (d :: r) = true := TL.pre_self [d] r
      refine ⟨[], p :: ps, ?_, ?_⟩
      · unfold splC
        rw [h1]
        dsimp only
        rw [if_pos (Nat.beq_refl d)]
      · rw [TL.spl_hit hp, show ([d] : List Nat).length - 1 = 0 from rfl, h2, List.append_nil]; rfl
    · obtain ⟨p, ps, h1, h2⟩ := spl_splC c r (acc ++ [d])
      have hp : TL.pre [c] (d :: r) = false := TL.pre_of_head [] r e
      refine ⟨d :: p, ps, ?_, ?_⟩
      · unfold splC
        rw [h1]
        dsimp only
        rw [if_neg (by rw [Nat.beq_eq]; exact e)]
      · rw [TL.spl_miss hp, h2]; simp
theorem split_mkS {c : Nat} {x : List Nat} (hc : c < 256) : Txt.split (mkS x) (mkS [c]) = (splC c x).map mkS := by
  have hk : ¬ Builtin.Str.strKind (mkS x) < Builtin.Str.strKind (mkS [c]) := TL.kind_ok (by simp [mkS, hc])
  have e := TL.split_spl (mkS x) (mkS [c]) (by simp [tl_mkS]) hk
  rw [tl_mkS, tl_mkS] at e
  obtain ⟨p, ps, h1, h2⟩ := spl_splC c x []
  rw [h2, List.nil_append, ← h1] at e
  have := congrArg (List.map mkS) e
  rw [List.map_map] at this
  have i : (mkS ∘ tl) = id := funext fun z => mkS_tl z
  rw [i, List.map_id] at this
  exact this
theorem rep_strs : ∀ (l : List (List Nat)), RepL K ν H (l.map PV.str) ((l.map mkS).map V.str)
  | [] => .nil
  | x :: r => .cons .str (rep_strs r)
theorem toSs_rep : ∀ {xs : List PV} {ls : List (List Nat)} {vs : List V}, toSs xs = some ls → RepL K ν H xs vs → vs = (ls.map mkS).map V.str
  | [], _, _, e, .nil => by cases e; rfl
  | x :: xs, _, _ :: _, e, .cons r t => by
    cases r <;> first | (cases e; done) | skip
    unfold toSs at e
    cases q : toSs xs with
    | none => rw [q] at e; cases e
    | some ks =>
      rw [q] at e
      cases e
      rw [toSs_rep q t]; rfl
theorem joinC_L (s : List Nat) : ∀ l, joinC s l = TL.joinL s l
  | [] => rfl
  | [x] => by simp [joinC, TL.joinL]
  | x :: y :: r => by
    have := joinC_L s (y :: r)
    unfold joinC
    rw [this]
    simp [TL.joinL]
theorem join_mkS (s : List Nat) (ls : List (List Nat)) : Txt.join (mkS s) (ls.map mkS) = mkS (joinC s ls) := by
  apply TL.ext_tl
  rw [TL.join_eq, TL.tl_join, tl_mkS, tl_mkS, joinC_L, List.map_map]
  have i : (tl ∘ mkS) = id := funext fun z => tl_mkS z
  rw [i, List.map_id]
theorem subAt_mkS (x y : List Nat) (i : Nat) : Builtin.Str.subAt (mkS x) (mkS y) i = eqL ((x.drop i).take y.length) y := by
  rw [PySem.StrLaws.subAt_eq, len_mkS]
  rw [Bool.eq_iff_iff, beq_iff_eq, eqL_iff]
  rfl
theorem staW_mkS (x y : List Nat) : Txt.startswith (mkS x) (mkS y) = preB x y := by
  unfold Txt.startswith preB
  rw [subAt_mkS, len_mkS, len_mkS, List.drop_zero, Nat.zero_add]
  rw [Bool.eq_iff_iff, Bool.and_eq_true, decide_eq_true_eq, eqL_iff]
  constructor
  · exact fun z => z.2
  · intro z
    refine ⟨?_, z⟩
    have := congrArg List.length z
    rw [List.length_take] at this
    omega
theorem endW_mkS (x y : List Nat) : Txt.endswith (mkS x) (mkS y) = sufB x y := by
  unfold Txt.endswith sufB
  rw [subAt_mkS, len_mkS, len_mkS, Nat.zero_add]
  rw [Bool.eq_iff_iff, Bool.and_eq_true, Bool.and_eq_true, decide_eq_true_eq, eqL_iff, eqL_iff, Nat.ble_eq]
  constructor
  · rintro ⟨a, b⟩
    refine ⟨a, ?_⟩
    rw [List.take_of_length_le (by rw [List.length_drop]; omega)] at b
    exact b
  · rintro ⟨a, b⟩
    refine ⟨a, ?_⟩
    rw [List.take_of_length_le (by rw [List.length_drop]; omega)]
    exact b
theorem affix_mkS {x : List Nat} {lo hi : Nat} (hh : hi ≤ x.length) (hl : lo ≤ hi) : Txt.affix (mkS x) (some (lo, hi)) = mkS ((x.drop lo).take (hi - lo)) := by
  show (if hi - lo == (mkS x).length then mkS x else Builtin.Str.strSub (mkS x) lo hi) = _
  rw [len_mkS]
  split
  · rename_i e
    have e' : hi - lo = x.length := eq_of_beq e
    have h0 : lo = 0 := by omega
    subst h0
    rw [List.drop_zero, e', List.take_length]
  · apply TL.ext_tl
    rw [TL.tl_strSub]; rfl
theorem remP_mkS (x y : List Nat) : Txt.removeprefix (mkS x) (mkS y) = mkS (if preB x y then x.drop y.length else x) := by
  unfold Txt.removeprefix
  rw [subAt_mkS, List.drop_zero, len_mkS, len_mkS]
  show Txt.affix (mkS x) (if preB x y = true then _ else none) = _
  cases e : preB x y with
  | true =>
    have hl : y.length ≤ x.length := by
      unfold preB at e
      have := congrArg List.length (eqL_iff.mp e)
      rw [List.length_take] at this
      omega
    rw [if_pos rfl, affix_mkS (Nat.le_refl _) hl, if_pos rfl, List.take_of_length_le (by rw [List.length_drop]; exact Nat.le_refl _)]
  | false => rfl
theorem remS_mkS (x y : List Nat) : Txt.removesuffix (mkS x) (mkS y) = mkS (if sufB x y then x.take (x.length - y.length) else x) := by
  unfold Txt.removesuffix
  rw [subAt_mkS, len_mkS, len_mkS]
  have e0 : (decide (y.length ≤ x.length) && eqL ((x.drop (x.length - y.length)).take y.length) y) = sufB x y := by
    rw [← endW_mkS]
    unfold Txt.endswith
    rw [subAt_mkS, len_mkS, len_mkS, Nat.zero_add]
  rw [e0]
  cases e : sufB x y with
  | true =>
    rw [if_pos rfl, affix_mkS (Nat.sub_le _ _) (Nat.zero_le _), if_pos rfl, List.drop_zero, Nat.sub_zero]
  | false => rfl
theorem figs_ok : ∀ (f n : Nat) (acc : List Nat), n < f → figs f n acc = TL.numL n ++ acc
  | 0, _, _, h => absurd h (Nat.not_lt_zero _)
  | f + 1, n, acc, h => by
    unfold figs
    by_cases c : n < 10
    · rw [if_pos (by rw [Nat.blt_eq]; exact c), TL.numL_lt c]; rfl
    · rw [if_neg (by rw [Nat.blt_eq]; exact c), figs_ok f (n / 10) _ (by omega), TL.numL_step (n := n) (by omega), List.append_assoc]; rfl
theorem numS_ok (n : Nat) : numS n = TL.numL n := by
  unfold numS
  rw [figs_ok _ _ _ (Nat.lt_succ_self n), List.append_nil]
end
section
variable {X : Cx} {ca : Ca} {W : WX} {σ : L2.St} {H : Hp} {ν : Nu} {h : MH}
theorem ca_split : CaM X ca W (.builtin "str.split") pSplit := by
  intro pins s σ H ν hp xs vs us Q I rv A r P
  unfold pSplit at P
  split at P
  · rename_i x c
    cases r with
    | cons r1 r2 =>
    cases r2 with
    | cons r2 r3 =>
    cases r3
    cases r1
    cases r2
    cases rv with
    | cons rv1 rv2 =>
    by_cases hc : c < 256 ∧ x.length + 2 ≤ lim
    · rw [if_pos (decide_eq_true hc)] at P
      refine mt_split pins s σ H _ _ _ _ Q I rv1 rv2 ⟨mkS x, mkS [c], rfl, rfl, rfl, ?_, ?_⟩
      · rw [len_mkS]; exact lim_line hc.2
      · rw [split_mkS hc.1]
        intro p hpn
        obtain ⟨q, rr⟩ := new_lst A (rep_strs (splC c x)) hpn P
        exact q _ rr
    · rw [if_neg (by simpa using hc)] at P
      exact P.elim
  · exact P.elim
theorem ca_join : CaM X ca W (.builtin "str.join") pJoin := by
  intro pins s σ H ν hp xs vs us Q I rv A r P
  unfold pJoin at P
  split at P
  · rename_i a x
    cases r with
    | cons r1 r2 =>
    cases r2 with
    | cons r2 r3 =>
    cases r3
    cases r1
    obtain ⟨p, ys, ws, rfl, q, rl, P1⟩ := mSeq_post A r2 P
    cases e : toSs ys with
    | none => rw [e] at P1; exact P1.elim
    | some ls =>
      rw [e] at P1
      dsimp only at P1
      split at P1
      · rename_i hl
        have hl := of_decide_eq_true hl
        cases rv with
        | cons rv1 rv2 =>
        have e2 := toSs_rep e rl
        subst e2
        refine mt_join pins s σ H _ _ _ _ Q I rv1 rv2 ⟨mkS a, p, ls.map mkS, rfl, rfl, q, ?_, ?_⟩
        · have : ((ls.map mkS).map fun x => x.length).sum = (ls.map List.length).sum := by
            rw [List.map_map]
            congr 1
          rw [this, List.length_map, len_mkS]
          have : lim = 10000000 := rfl
          omega
        · rw [join_mkS]
          exact Post.ret P1 A _ .str
      · exact P1.elim
  · exact P.elim
theorem two_s {xs : List PV} {vs : List V} {x y : List Nat} (r : RepL X.K ν H xs vs) (e : xs = [.str x, .str y]) : vs = [.str (mkS x), .str (mkS y)] := by
  subst e
  cases r with
  | cons r1 r2 =>
  cases r2 with
  | cons r2 r3 =>
  cases r3
  cases r1
  cases r2
  rfl
theorem ca_remP : CaM X ca W (.builtin "str.removeprefix") pRemP := by
  intro pins s σ H ν hp xs vs us Q I rv A r P
  unfold pRemP at P
  split at P
  · rename_i x y
    obtain rfl := two_s r rfl
    cases rv with
    | cons rv1 rv2 =>
    split at P
    · rename_i hl
      refine mt_removeprefix pins s σ H _ _ _ _ Q I rv1 rv2 ⟨mkS x, mkS y, rfl, rfl, ?_, ?_⟩
      · rw [len_mkS]; exact lim_line (of_decide_eq_true hl)
      · rw [remP_mkS]; exact Post.ret P A _ .str
    · exact P.elim
  · exact P.elim
theorem ca_remS : CaM X ca W (.builtin "str.removesuffix") pRemS := by
  intro pins s σ H ν hp xs vs us Q I rv A r P
  unfold pRemS at P
  split at P
  · rename_i x y
    obtain rfl := two_s r rfl
    cases rv with
    | cons rv1 rv2 =>
    split at P
    · rename_i hl
      refine mt_removesuffix pins s σ H _ _ _ _ Q I rv1 rv2 ⟨mkS x, mkS y, rfl, rfl, ?_, ?_⟩
      · rw [len_mkS]; exact lim_line (of_decide_eq_true hl)
      · rw [remS_mkS]; exact Post.ret P A _ .str
    · exact P.elim
  · exact P.elim
theorem ca_staW : CaM X ca W (.builtin "str.startswith") pStaW := by
  intro pins s σ H ν hp xs vs us Q I rv A r P
  unfold pStaW at P
  split at P
  · rename_i x y
    obtain rfl := two_s r rfl
    cases rv with
    | cons rv1 rv2 =>
    refine mt_startswith pins s σ H _ _ _ _ Q I rv1 rv2 ⟨mkS x, mkS y, rfl, rfl, ?_⟩
    rw [staW_mkS]; exact Post.ret P A _ .bl
  · exact P.elim
theorem ca_endW : CaM X ca W (.builtin "str.endswith") pEndW := by
  intro pins s σ H ν hp xs vs us Q I rv A r P
  unfold pEndW at P
  split at P
  · rename_i x y
    obtain rfl := two_s r rfl
    cases rv with
    | cons rv1 rv2 =>
    refine mt_endswith pins s σ H _ _ _ _ Q I rv1 rv2 ⟨mkS x, mkS y, rfl, rfl, ?_⟩
    rw [endW_mkS]; exact Post.ret P A _ .bl
  · exact P.elim
def pStr : FF := fun xs => match xs with
  | [.int i] => if decide (i.natAbs < 2 ^ 1900) then M.ret (.str (intS i)) else M.bad
  | [.str x] => M.ret (.str x)
  | _ => M.bad
theorem intS_ok (i : Int) : mkS (intS i) = Str.ofString (toString i) := by
  apply TL.ext_tl
  rw [tl_mkS]
  unfold intS
  cases i with
  | ofNat n =>
    have : ¬ (Int.ofNat n) < 0 := Int.not_lt.mpr (Int.natCast_nonneg n)
    rw [if_neg this, numS_ok]
    exact (TL.tl_num n).symm
  | negSucc n =>
    rw [if_pos (Int.negSucc_lt_zero n), numS_ok, TL.tl_ofString]
    show 45 :: TL.numL (n + 1) = _
    have e : (toString (Int.negSucc n)).toList = '-' :: (toString (n + 1)).toList := by
      show (("-" ++ toString (n + 1) : String)).toList = _
      rw [String.toList_append]; rfl
    rw [e, List.map_cons]
    have e2 := TL.tl_num (n + 1)
    rw [TL.tl_ofString] at e2
    have e3 : (toString ((n + 1 : Nat) : Int)) = toString (n + 1) := rfl
    rw [e3] at e2
    rw [e2]; rfl
theorem ca_str : CaM X ca W (.type "str") pStr := by
  intro pins s σ H ν hp xs vs us Q I rv A r P
  unfold pStr at P
  split at P
  · rename_i i
    cases r with
    | cons r1 r2 =>
    cases r2
    cases r1
    split at P
    · rename_i hl
      refine call_str_int pins s σ H _ _ Q I rv ⟨i, rfl, ?_, ?_⟩
      · have h1 := of_decide_eq_true hl
        by_cases z : i.natAbs = 0
        · rw [z]; decide
        · have := (Nat.log2_lt z).mpr h1
          omega
      · have : (toString i : Str) = mkS (intS i) := (intS_ok i).symm
        rw [this]
        exact Post.ret P A _ .str
    · exact P.elim
  · rename_i x
    cases r with
    | cons r1 r2 =>
    cases r2
    cases r1
    exact SkE.call_str_str pins s σ H _ _ Q I rv ⟨mkS x, rfl, Post.ret P A _ .str⟩
  · exact P.elim
end
end FX

set_option Elab.async false
set_option linter.all false
set_option maxRecDepth 100000
set_option maxHeartbeats 2000000
namespace FX
open PySem PySem.Spec PyProof.Rows L2 SlX
inductive DV where
  | non | bl (b : Bool) | int (i : Int) | str (x : List Nat) | tup (xs : List DV) | lst (xs : List DV)
  deriving Inhabited
def allS {α β : Type} (f : α → Option β) : List α → Option (List β)
  | [] => some []
  | x :: xs => match f x with
    | some y => (allS f xs).map (y :: ·)
    | none => none
def datF (h : MH) : Nat → PV → Option DV
  | _, .non => some .non
  | _, .bl b => some (.bl b)
  | _, .int i => some (.int i)
  | _, .str x => if (x.all fun c => Nat.blt c 0x110000) = true then some (.str x) else none
  | n + 1, .tup xs => (allS (datF h n) xs).map .tup
  | n + 1, .kl _ xs => (allS (datF h n) xs).map .lst
  | n + 1, .ref m => match h.get m with
    | some (.lst xs) => (allS (datF h n) xs).map .lst
    | _ => none
  | _, _ => none
mutual
def eqd : DV → DV → Bool
  | .non, .non => true
  | .bl a, .bl b => a == b
  | .bl a, .int j => (if a then 1 else 0) == j
  | .int i, .bl b => i == (if b then 1 else 0)
  | .int i, .int j => decide (i = j)
  | .str x, .str y => eqL x y
  | .tup xs, .tup ys => eqdL xs ys
  | .lst xs, .lst ys => eqdL xs ys
  | _, _ => false
def eqdL : List DV → List DV → Bool
  | [], [] => true
  | x :: xs, y :: ys => eqd x y && eqdL xs ys
  | _, _ => false
end
mutual
def toPD : DV → PyData
  | .non => .none
  | .bl b => .bool b
  | .int i => .int i
  | .str x => .str (mkS x)
  | .tup xs => .tuple (toPDs xs)
  | .lst xs => .list (toPDs xs)
def toPDs : List DV → List PyData
  | [] => []
  | x :: xs => toPD x :: toPDs xs
end
mutual
theorem eqd_of : ∀ (d e : DV), PyData.eqv (toPD d) (toPD e) = eqd d e
  | .tup xs, .tup ys => eqdL_of xs ys
  | .lst xs, .lst ys => eqdL_of xs ys
  | .int i, .int j => by
    show (i == j) = decide (i = j)
    by_cases h : i = j <;> simp [h]
  | .str x, .str y => mkS_eq
  | .non, .non => rfl
  | .non, .bl _ => rfl
  | .non, .int _ => rfl
  | .non, .str _ => rfl
  | .non, .tup _ => rfl
  | .non, .lst _ => rfl
  | .bl _, .non => rfl
  | .bl _, .bl _ => rfl
  | .bl _, .int _ => rfl
  | .bl _, .str _ => rfl
  | .bl _, .tup _ => rfl
  | .bl _, .lst _ => rfl
  | .int _, .non => rfl
  | .int _, .bl _ => rfl
  | .int _, .str _ => rfl
  | .int _, .tup _ => rfl
  | .int _, .lst _ => rfl
  | .str _, .non => rfl
  | .str _, .bl _ => rfl
  | .str _, .int _ => rfl
  | .str _, .tup _ => rfl
  | .str _, .lst _ => rfl
  | .tup _, .non => rfl
  | .tup _, .bl _ => rfl
  | .tup _, .int _ => rfl
  | .tup _, .str _ => rfl
  | .tup _, .lst _ => rfl
  | .lst _, .non => rfl
  | .lst _, .bl _ => rfl
  | .lst _, .int _ => rfl
  | .lst _, .str _ => rfl
  | .lst _, .tup _ => rfl
theorem eqdL_of : ∀ (xs ys : List DV), PyData.eqvAll (toPDs xs) (toPDs ys) = eqdL xs ys
  | [], [] => rfl
  | [], _ :: _ => rfl
  | _ :: _, [] => rfl
  | x :: xs, y :: ys => by
    show (PyData.eqv (toPD x) (toPD y) && PyData.eqvAll (toPDs xs) (toPDs ys)) = (eqd x y && eqdL xs ys)
    rw [eqd_of x y, eqdL_of xs ys]
end
section
variable {K : PySem.W.Frag} {ca : Ca} {ν : Nu} {H : Hp} {h : MH}
theorem allS_cons {α β : Type} {f : α → Option β} {x : α} {xs : List α} {ys : List β} (e : allS f (x :: xs) = some ys) : ∃ y zs, f x = some y ∧ allS f xs = some zs ∧ ys = y :: zs := by
  unfold allS at e
  cases q : f x with
  | none => rw [q] at e; cases e
  | some y =>
    rw [q] at e
    dsimp only at e
    cases q2 : allS f xs with
    | none => rw [q2] at e; cases e
    | some zs => rw [q2] at e; cases e; exact ⟨y, zs, rfl, rfl, rfl⟩
/-- what is asked of a value's data -/
def DatOk (K : PySem.W.Frag) (H : Hp) (n : Nat) (v : V) (d : DV) : Prop := Dp K H v (toPD d) ∧ (toPD d).canLay0 = true ∧ (toPD d).depth ≤ n
theorem dat_all {n : Nat} {f : PV → Option DV} (ih : ∀ x v d, Rep K ν H x v → f x = some d → DatOk K H n v d) : ∀ {xs : List PV} {vs : List V} {ds : List DV}, RepL K ν H xs vs → allS f xs = some ds → DpAll K H vs (toPDs ds) ∧ PyData.canLayAll0 (toPDs ds) = true ∧ PyData.depthAll (toPDs ds) ≤ n
  | [], _, _, .nil, e => by cases e; exact ⟨.nil, rfl, Nat.zero_le _⟩
  | x :: xs, _ :: _, ds, .cons r t, e => by
    obtain ⟨y, zs, h1, h2, rfl⟩ := allS_cons e
    obtain ⟨a1, a2, a3⟩ := ih _ _ _ r h1
    obtain ⟨b1, b2, b3⟩ := dat_all ih t h2
    refine ⟨.cons a1 b1, ?_, Nat.max_le.mpr ⟨a3, b3⟩⟩
    show ((toPD y).canLay0 && PyData.canLayAll0 (toPDs zs)) = true
    rw [a2, b2]; rfl
theorem dat_ok (A : Ab K ca ν h H) : ∀ (n : Nat) (x : PV) (v : V) (d : DV), Rep K ν H x v → datF h n x = some d → DatOk K H n v d
  | n, .non, _, _, .non, e => by cases n <;> cases e <;> exact ⟨.non, rfl, Nat.zero_le _⟩
  | n, .bl b, _, _, .bl, e => by cases n <;> cases e <;> exact ⟨.bl _, rfl, Nat.zero_le _⟩
  | n, .int b, _, _, .int, e => by cases n <;> cases e <;> exact ⟨.int _, rfl, Nat.zero_le _⟩
  | n, .str x, _, d, .str, e => by
    have e' : (if (x.all fun c => Nat.blt c 0x110000) = true then some (DV.str x) else none) = some d := by cases n <;> exact e
    split at e'
    · rename_i hx
      cases e'
      refine ⟨.str _, strOk_of ?_, Nat.zero_le _⟩
      rw [List.all_eq_true] at hx ⊢
      intro c hc
      have := hx c hc
      rw [Nat.blt_eq] at this
      exact decide_eq_true this
    · cases e'
  | 0, .ty _, _, _, .ty, e => by cases e
  | _ + 1, .ty _, _, _, .ty, e => by cases e
  | 0, .tup _, _, _, .tup _ _, e => by cases e
  | n + 1, .tup xs, _, d, .tup q r, e => by
    have e' : (allS (datF h n) xs).map DV.tup = some d := e
    cases q2 : allS (datF h n) xs with
    | none => rw [q2] at e'; cases e'
    | some ds =>
      rw [q2] at e'
      cases e'
      obtain ⟨a, b, c⟩ := dat_all (fun x v d => dat_ok A n x v d) r q2
      exact ⟨.tup (.of q) a, b, Nat.succ_le_succ c⟩
  | 0, .kl _ _, _, _, .kl _ _, e => by cases e
  | n + 1, .kl a xs, _, d, .kl q r, e => by
    have e' : (allS (datF h n) xs).map DV.lst = some d := e
    cases q2 : allS (datF h n) xs with
    | none => rw [q2] at e'; cases e'
    | some ds =>
      rw [q2] at e'
      cases e'
      obtain ⟨a, b, c⟩ := dat_all (fun x v d => dat_ok A n x v d) r q2
      exact ⟨.lst q.sq a, b, Nat.succ_le_succ c⟩
  | 0, .ref _, _, _, .ref _, e => by cases e
  | n + 1, .ref m, _, d, .ref em, e => by
    have e' : (match h.get m with
      | some (.lst xs) => (allS (datF h n) xs).map DV.lst
      | _ => none) = some d := e
    cases ho : h.get m with
    | none => rw [ho] at e'; cases e'
    | some o =>
      rw [ho] at e'
      cases o with
      | lst xs =>
        dsimp only at e'
        cases q2 : allS (datF h n) xs with
        | none => rw [q2] at e'; cases e'
        | some ds =>
          rw [q2] at e'
          cases e'
          obtain ⟨a, ws, e3, e4, rl⟩ := A.at_ m _ ho
          rw [em] at e3
          cases e3
          obtain ⟨a, b, c⟩ := dat_all (fun x v d => dat_ok A n x v d) rl q2
          exact ⟨.lst (.of e4) a, b, Nat.succ_le_succ c⟩
      | _ => cases e'
theorem shaped_dat {n : Nat} {v : V} {d : DV} (q : DatOk K H n v d) (hn : n ≤ 64) : SeqAt.shaped (toPD d) = true := by
  unfold SeqAt.shaped
  rw [q.2.1, decide_eq_true (Nat.le_trans q.2.2 hn)]; rfl
end
def txs2 : PV → PV → Option Bool
  | .str a, .str b => some (eqL a b)
  | _, _ => none
def cmpD (f : Bool → Bool) : PV → PV → M PV := fun x y h => match txs2 x y with
  | some b => .ok (.bl (f b)) h
  | none => (match datF h 40 x, datF h 40 y with
    | some d, some e => .ok (.bl (f (eqd d e))) h
    | _, _ => .bad)
abbrev pEqD : PV → PV → M PV := cmpD fun b => b
abbrev pNeD : PV → PV → M PV := cmpD fun b => !b
section
variable {X : Cx} {ca : Ca} {W : WX}
theorem eqD_post {σ : L2.St} {H : Hp} {ν : Nu} {h : MH} {x y : PV} {v u : V} {f : Bool → Bool} {Q : VK} (A : Ab X.K ca ν h H) (rx : Rep X.K ν H x v) (ry : Rep X.K ν H y u)
    (P : Post X.K ca W σ ν H (cmpD f x y h) fun ν' H' _ z => ∀ w, Rep X.K ν' H' z w → Q w H') : (∃ d e, Dp X.K H v d ∧ Dp X.K H u e ∧ SeqAt.shaped d = true ∧ SeqAt.shaped e = true ∧ Q (.bl (f (PyData.eqv d e))) H) ∨ (scal v u = true ∧ Q (.bl (f (decide (v = u)))) H) := by
  unfold cmpD at P
  cases e0 : txs2 x y with
  | some b =>
    rw [e0] at P
    refine .inr ?_
    cases rx <;> first | (cases e0; done) | skip
    cases ry <;> first | (cases e0; done) | skip
    rename_i a c
    cases e0
    refine ⟨rfl, ?_⟩
    have : decide (V.str (mkS a) = V.str (mkS c)) = eqL a c := by
      rw [eqL_dec]
      exact decide_eq_decide.mpr ⟨fun z => mkS_inj (by injection z), fun z => by rw [z]⟩
    rw [this]
    exact Post.ret P A _ .bl
  | none =>
    rw [e0] at P
    refine .inl ?_
    cases e1 : datF h 40 x with
    | none => rw [e1] at P; exact P.elim
    | some d =>
      cases e2 : datF h 40 y with
      | none => rw [e1, e2] at P; exact P.elim
      | some e =>
        rw [e1, e2] at P
        have q1 := dat_ok A 40 x v d rx e1
        have q2 := dat_ok A 40 y u e ry e2
        refine ⟨_, _, q1.1, q2.1, shaped_dat q1 (by decide), shaped_dat q2 (by decide), ?_⟩
        rw [eqd_of]
        exact Post.ret P A _ .bl
theorem om_eqD (hu : X.A.units + 64 < cLine) : OpM X ca W (compareOp .Eq) pEqD := OpM.of (r := fun x y H Q => rEqD X.K x y H Q ∨ rEq x y H Q) (fun pins s σ H x y v u Q I rx ry q => q.elim (fun q => op_eqD hu pins s σ H x y v u Q I rx ry q) fun q => op_eq pins s σ H x y v u Q I rx ry q) fun σ H ν hp x y xv yv Q A rx ry P => eqD_post (f := fun b => b) A rx ry P
theorem om_neD (hu : X.A.units + 64 < cLine) : OpM X ca W (compareOp .NotEq) pNeD := OpM.of (r := fun x y H Q => rNeD X.K x y H Q ∨ rNe x y H Q) (fun pins s σ H x y v u Q I rx ry q => q.elim (fun q => op_neD hu pins s σ H x y v u Q I rx ry q) fun q => op_ne pins s σ H x y v u Q I rx ry q) fun σ H ν hp x y xv yv Q A rx ry P => eqD_post (f := fun b => !b) A rx ry P
end
end FX

set_option Elab.async false
set_option linter.all false
set_option maxRecDepth 100000
set_option maxHeartbeats 2000000
namespace FX
open PySem PySem.Spec PyProof.Rows L2 SlX
def flatP : PV → Bool
  | .non => true
  | .bl _ => true
  | .int _ => true
  | .str _ => true
  | _ => false
/-- y in a sequence's items -/
def inSq (neg : Bool) (y : PV) (isL : Bool) (xs : List PV) : M PV := fun h =>
  if flatP y && xs.all flatP then .ok (.bl (xor neg (xs.any fun z => eqv z y))) h
  else if isL then (match datF h 40 y, allS (datF h 39) xs with
    | some d, some ds => .ok (.bl (xor neg (ds.any fun z => eqd z d))) h
    | _, _ => .bad) else .bad
def signIn (neg : Bool) (s : List Nat) (y : PV) : M PV := match y with
  | .str [c] => M.ret (.bl (xor neg (s.any fun d => Nat.beq d c)))
  | _ => M.bad
def pInS (neg : Bool) : PV → PV → M PV := fun y x => match x with
  | .str s => signIn neg s y
  | .tup xs => inSq neg y false xs
  | .kl _ xs => inSq neg y true xs
  | .ref n => mAt n fun o => match o with
    | .lst xs => inSq neg y true xs
    | .dct kvs => (match asK y with
      | some _ => M.ret (.bl (xor neg (dGet kvs y).isSome))
      | none => M.bad)
    | .dtt kvs => (match asT y with
      | some _ => M.ret (.bl (xor neg (dGet kvs y).isSome))
      | none => M.bad)
    | _ => M.bad
  | _ => M.bad
section
variable {K : PySem.W.Frag} {ν : Nu} {H : Hp}
theorem flat_rep {x : PV} {v : V} (r : Rep K ν H x v) (e : flatP x = true) : flatV v = true := by cases r <;> first | rfl | cases e
theorem flats_rep : ∀ {xs : List PV} {vs : List V}, RepL K ν H xs vs → xs.all flatP = true → vs.all flatV = true
  | [], _, .nil, _ => rfl
  | x :: xs, _ :: _, .cons r t, e => by
    rw [List.all_cons, Bool.and_eq_true] at e
    rw [List.all_cons, flat_rep r e.1, flats_rep t e.2]; rfl
theorem eqV_rep {x y : PV} {v u : V} (r : Rep K ν H x v) (s : Rep K ν H y u) (e : flatP x = true) (f : flatP y = true) : eqV v u = eqv x y := by
  cases r <;> first | (cases e; done) | skip
  · cases s <;> first | rfl | cases f
  · cases s <;> first | rfl | cases f
  · cases s <;> first | (cases f; done) | rfl
  · cases s <;> first | (cases f; done) | rfl | exact mkS_eq
theorem inV_rep {y : PV} {u : V} (s : Rep K ν H y u) (f : flatP y = true) : ∀ {xs : List PV} {vs : List V}, RepL K ν H xs vs → xs.all flatP = true → inV u vs = xs.any fun z => eqv z y
  | [], _, .nil, _ => rfl
  | x :: xs, v :: vs, .cons r t, e => by
    rw [List.all_cons, Bool.and_eq_true] at e
    show (eqV v u || inV u vs) = (eqv x y || _)
    rw [eqV_rep r s e.1 f, inV_rep s f t e.2]
theorem any_dat (d : DV) : ∀ (ds : List DV), ((toPDs ds).any fun z => PyData.eqv z (toPD d)) = ds.any fun z => eqd z d
  | [] => rfl
  | x :: xs => by
    show (PyData.eqv (toPD x) (toPD d) || _) = (eqd x d || _)
    rw [eqd_of, any_dat d xs]
end
section
variable {X : Cx} {ca : Ca} {W : WX}
/-- what an `in` answers by -/
def InR (X : Cx) (neg : Bool) : R2 := fun x y H Q => rIn X.K neg x y H Q ∨ (if neg then rNotInD X.K x y H Q else rInD X.K x y H Q)
theorem inSq_post {neg : Bool} {σ : L2.St} {H : Hp} {ν : Nu} {h : MH} {y : PV} {u : V} {a : Addr} {isL : Bool} {xs : List PV} {vs : List V} {Q : VK} (A : Ab X.K ca ν h H) (ry : Rep X.K ν H y u) (rl : RepL X.K ν H xs vs) (q : if isL then SqL X.K H a vs else SqT X.K H a vs)
    (P : Post X.K ca W σ ν H (inSq neg y isL xs h) fun ν' H' _ z => ∀ w, Rep X.K ν' H' z w → Q w H') : InR X neg u (.ref a) H Q := by
  unfold inSq at P
  by_cases c : (flatP y && xs.all flatP) = true
  · rw [if_pos c] at P
    rw [Bool.and_eq_true] at c
    refine .inl ⟨a, vs, rfl, ?_, flat_rep ry c.1, flats_rep rl c.2, ?_⟩
    · cases isL with
      | true => exact .inl q
      | false => exact .inr q
    · have := Post.ret P A _ .bl
      rw [inV_rep ry c.1 rl c.2]
      cases neg with
      | true => simpa using this
      | false => simpa using this
  · rw [if_neg c] at P
    cases isL with
    | false => exact P.elim
    | true =>
      rw [if_pos rfl] at P
      cases e1 : datF h 40 y with
      | none => rw [e1] at P; exact P.elim
      | some d =>
        cases e2 : allS (datF h 39) xs with
        | none => rw [e1, e2] at P; exact P.elim
        | some ds =>
          rw [e1, e2] at P
          have q1 := dat_ok A 40 y u d ry e1
          obtain ⟨a1, a2, a3⟩ := dat_all (fun x v d => dat_ok A 39 x v d) rl e2
          have q2 : DatOk X.K H 40 (.ref a) (.lst ds) := ⟨.lst q a1, a2, Nat.succ_le_succ a3⟩
          have fin := Post.ret P A _ .bl
          refine .inr ?_
          cases neg with
          | true =>
            refine ⟨toPD d, toPDs ds, q1.1, q2.1, shaped_dat q1 (by decide), shaped_dat q2 (by decide), ?_⟩
            rw [any_dat]
            simpa using fin
          | false =>
            refine ⟨toPD d, toPDs ds, q1.1, q2.1, shaped_dat q1 (by decide), shaped_dat q2 (by decide), ?_⟩
            rw [any_dat]
            simpa using fin
theorem sign_post {neg : Bool} {σ : L2.St} {H : Hp} {ν : Nu} {h : MH} {y : PV} {u : V} {s : List Nat} {Q : VK} (A : Ab X.K ca ν h H) (ry : Rep X.K ν H y u)
    (P : Post X.K ca W σ ν H (signIn neg s y h) fun ν' H' _ z => ∀ w, Rep X.K ν' H' z w → Q w H') : ∃ c, u = .str ⟨#[c]⟩ ∧ Q (.bl (xor neg (s.any fun d => Nat.beq d c))) H := by
  unfold signIn at P
  split at P
  · rename_i c
    cases ry
    refine ⟨c, rfl, ?_⟩
    exact Post.ret P A _ .bl
  · exact P.elim
theorem dec_eq {p : Prop} [Decidable p] {b : Bool} (h : p ↔ b = true) : decide p = b := by
  cases b with
  | true => exact decide_eq_true (h.mpr rfl)
  | false => exact decide_eq_false fun z => nomatch h.mp z
theorem any_sign {s : List Nat} {c : Nat} : (c ∈ s) ↔ (s.any fun d => Nat.beq d c) = true := by
  rw [List.any_eq_true]
  constructor
  · exact fun hc => ⟨c, hc, Nat.beq_refl c⟩
  · rintro ⟨d, h1, h2⟩
    rw [Nat.beq_eq] at h2
    rw [← h2]; exact h1
theorem om_inS (neg : Bool) (hu : X.A.units + 65 < cLine) : OpM X ca W (compareOp (if neg then .NotIn else .In)) (pInS neg) := by
  intro pins s σ H ν h y x yv xv v u Q I rv ru A ry rx P
  have seq : ∀ {a : Addr}, xv = .ref a → InR X neg yv (.ref a) H Q → wpAny (model X.prog X.w) X.A (compareOp (if neg then .NotIn else .In) v u) (EP X pins σ Q) X.xe s := fun {a} e q => by
    subst e
    cases neg with
    | true =>
      rcases q with q | q
      · exact op_notIn_seq pins s σ H _ _ _ _ Q I rv ru q
      · exact op_notInD hu pins s σ H _ _ _ _ Q I rv ru q
    | false =>
      rcases q with q | q
      · exact op_in_seq pins s σ H _ _ _ _ Q I rv ru q
      · exact op_inD hu pins s σ H _ _ _ _ Q I rv ru q
  cases rx with
  | @str z =>
    obtain ⟨c, rfl, q⟩ := sign_post A ry P
    cases neg with
    | true => exact op_notIn_sign pins s σ H _ _ _ _ Q I rv ru ⟨c, mkS z, rfl, rfl, by rw [dec_eq (show c ∈ (mkS z).cps.toList ↔ (z.any fun d => Nat.beq d c) = true from any_sign (s := z))]; simpa using q⟩
    | false => exact op_in_sign pins s σ H _ _ _ _ Q I rv ru ⟨c, mkS z, rfl, rfl, by rw [dec_eq (show c ∈ (mkS z).cps.toList ↔ (z.any fun d => Nat.beq d c) = true from any_sign (s := z))]; simpa using q⟩
  | tup q r => exact seq rfl (inSq_post (isL := false) A ry r (.of q) P)
  | kl q r => exact seq rfl (inSq_post (isL := true) A ry r q.sq P)
  | @ref n a l e =>
    obtain ⟨o, ho, P⟩ := mAt_post (show Post X.K ca W σ ν H (mAt n (fun o => match o with
      | .lst xs => inSq neg y true xs
      | .dct kvs => (match asK y with
        | some _ => M.ret (.bl (xor neg (dGet kvs y).isSome))
        | none => M.bad)
      | .dtt kvs => (match asT y with
        | some _ => M.ret (.bl (xor neg (dGet kvs y).isSome))
        | none => M.bad)
      | _ => M.bad) h) _ from P)
    have q := A.at_ _ o ho
    rw [e] at q
    have dd : ∀ (kvs : List (PV × PV)) (tb : Bool), o = mkD tb kvs → (∃ k, (if tb then asT y else (asK y).map fun k => [k]) = some k) → Post X.K ca W σ ν H ((M.ret (.bl (xor neg (dGet kvs y).isSome)) : M PV) h) (fun ν' H' _ z => ∀ w, Rep X.K ν' H' z w → Q w H') →
        wpAny (model X.prog X.w) X.A (compareOp (if neg then .NotIn else .In) v u) (EP X pins σ Q) X.xe s := fun kvs tb eo ek P => by
      have P2 : Post X.K ca W σ ν H ((if neg then pDNotIn else pDIn) y (.ref n) h) fun ν' H' _ z => ∀ w, Rep X.K ν' H' z w → Q w H' := by
        have e1 : mDct (.ref n) y (fun _ _ kvs => (M.ret (.bl (xor neg (dGet kvs y).isSome)) : M PV)) h = M.ret (.bl (xor neg (dGet kvs y).isSome)) h := by
          show mAt n _ h = _
          rw [mAt_ok ho, eo]
          cases tb with
          | true =>
            obtain ⟨k, hk⟩ := ek
            have hk : asT y = some k := hk
            show (match asT y with
              | some _ => M.ret (.bl (xor neg (dGet kvs y).isSome))
              | none => M.bad : M PV) h = _
            rw [hk]
          | false =>
            obtain ⟨k, hk⟩ := ek
            have hk' : ∃ k2, asK y = some k2 := by
              cases hk2 : asK y with
              | none => rw [hk2] at hk; cases hk
              | some k2 => exact ⟨k2, rfl⟩
            obtain ⟨k2, hk2⟩ := hk'
            show (match asK y with
              | some _ => M.ret (.bl (xor neg (dGet kvs y).isSome))
              | none => M.bad : M PV) h = _
            rw [hk2]
        cases neg with
        | true =>
          show Post X.K ca W σ ν H (mDct (.ref n) y (fun _ _ kvs => (M.ret (.bl (!(dGet kvs y).isSome)) : M PV)) h) _
          have e2 : (fun (_ : Nat) (_ : Bool) (kvs : List (PV × PV)) => (M.ret (.bl (!(dGet kvs y).isSome)) : M PV)) = fun _ _ kvs => M.ret (.bl (xor true (dGet kvs y).isSome)) := by funext _ _ kvs; simp
          rw [e2, e1]; exact P
        | false =>
          show Post X.K ca W σ ν H (mDct (.ref n) y (fun _ _ kvs => (M.ret (.bl (dGet kvs y).isSome) : M PV)) h) _
          have e2 : (fun (_ : Nat) (_ : Bool) (kvs : List (PV × PV)) => (M.ret (.bl (dGet kvs y).isSome) : M PV)) = fun _ _ kvs => M.ret (.bl (xor false (dGet kvs y).isSome)) := by funext _ _ kvs; simp
          rw [e2, e1]; exact P
      have hu1 : X.A.units + 1 < cLine := Nat.lt_of_le_of_lt (Nat.add_le_add_left (by decide) _) hu
      cases neg with
      | true => exact om_dnin hu1 pins s σ H ν h y (.ref n) yv _ v u Q I rv ru A ry (.ref e) P2
      | false => exact om_din hu1 pins s σ H ν h y (.ref n) yv _ v u Q I rv ru A ry (.ref e) P2
    cases o with
    | lst xs =>
      obtain ⟨a', vs, e1, e2, rl⟩ := q
      cases e1
      exact seq rfl (inSq_post (isL := true) A ry rl (.of e2) P)
    | dct kvs =>
      dsimp only at P
      cases ek : asK y with
      | none => rw [ek] at P; exact P.elim
      | some k => rw [ek] at P; exact dd kvs false rfl ⟨[k], by rw [ek]; rfl⟩ P
    | dtt kvs =>
      dsimp only at P
      cases ek : asT y with
      | none => rw [ek] at P; exact P.elim
      | some k => rw [ek] at P; exact dd kvs true rfl ⟨k, by rw [ek]; rfl⟩ P
    | _ => exact P.elim
  | _ => exact P.elim
end
end FX

set_option Elab.async false
set_option linter.all false
set_option maxRecDepth 100000
set_option maxHeartbeats 2000000
namespace FX
open PySem PySem.Spec PyProof.Rows L2 SlX
def sIxC (n d : Nat) : Option Int → Nat
  | none => d
  | some v => if v < 0 then (v + (n : Int)).toNat else min v.toNat n
def cutC {α : Type} (xs : List α) (lo hi : Option Int) : List α := (xs.drop (sIxC xs.length 0 lo)).take (sIxC xs.length xs.length hi - sIxC xs.length 0 lo)
def mSlc (x : PV) (lo hi : Option Int) : M PV := match x with
  | .str z => if z.length ≤ lim then M.ret (.str (cutC z lo hi)) else M.bad
  | .tup xs => M.ret (.tup (cutC xs lo hi))
  | .kl _ xs => mNew (.lst (cutC xs lo hi))
  | .ref n => mAt n fun o => match o with
    | .lst xs => mNew (.lst (cutC xs lo hi))
    | _ => M.bad
  | _ => M.bad
/-- a part: an int, if there is one -/
def asI : PV → M (Option Int)
  | .int i => M.ret (some i)
  | _ => M.bad
abbrev OF := Env → M (Option Int)
def oNo : OF := fun _ => M.ret none
def oSo (f : EF) : OF := fun ρ => (f ρ).bind asI
def eSl (f : EF) (lo hi : OF) : EF := fun ρ => (f ρ).bind fun x => (lo ρ).bind fun l => (hi ρ).bind fun u => mSlc x l u
theorem sIx_eq (n d : Nat) (o : Option Int) : HT.sIx n d o = sIxC n d o := by cases o <;> rfl
section
variable {X : Cx} {ca : Ca} {W : WX} {e : Expr} {f : EF} {l u : Option Expr} {lf uf : OF} {p2 pos : Pos}
def tO (ca : Ca) (W : WX) (K : PySem.W.Frag) (f : OF) : TO := fun σ H Q => ∃ ν ρ h, Ab K ca ν h H ∧ EnvR K ν H ρ σ ∧ Post K ca W σ ν H (f ρ h) fun ν' H' _ o => Q o H'
def PXO (X : Cx) (ca : Ca) (W : WX) (e : Option Expr) (f : OF) : Prop := PO X e (tO ca W X.K f)
theorem pxo_no : PXO X ca W none oNo := by
  have h := po_none (X := X)
  exact ⟨fun pins s σ H Q I ⟨ν, ρ, hp, A, E, P⟩ => h.run pins s σ H Q I (Post.ret P A)⟩
theorem pxo_so (he : PX X ca W e f) : PXO X ca W (some e) (oSo f) := by
  have h := po_some he
  refine ⟨fun pins s σ H Q I ⟨ν, ρ, hp, A, E, P⟩ => h.run pins s σ H Q I ?_⟩
  refine ⟨ν, ρ, hp, A, E, (Post.bind P).mono fun ν1 H1 h1 px e1 A1 P1 v rv => ?_⟩
  cases rv <;> first | exact ⟨_, rfl, Post.ret P1 A1⟩ | exact P1.elim
theorem cut_rep {K : PySem.W.Frag} {ν : Nu} {H : Hp} {xs : List PV} {vs : List V} (r : RepL K ν H xs vs) (lo hi : Option Int) : RepL K ν H (cutC xs lo hi) (cutV vs lo hi) := by
  unfold cutC cutV
  rw [← r.length, sIx_eq, sIx_eq]
  exact (r.drop _).take _
theorem px_slc (he : PX X ca W e f) (hl : PXO X ca W l lf) (hu : PXO X ca W u uf) : PX X ca W (.Subscript e (.Slice l u none p2) pos) (eSl f lf uf) := by
  refine PE.imp (pe_slice ((sl_str (X := X)).or ((sl_tupA (X := X)).or sl_list)) he hl hu) fun σ H Q ⟨ν, ρ, h, A, E, P⟩ => ?_
  refine ⟨ν, ρ, h, A, E, (Post.bind P).mono fun ν1 H1 h1 px e1 A1 P1 v rv => ⟨ν1, ρ, h1, A1, E.ext e1, (Post.bind P1).mono fun ν2 H2 h2 lo e2 A2 P2 => ⟨ν2, ρ, h2, A2, (E.ext e1).ext e2, (Post.bind P2).mono fun ν3 H3 h3 hi e3 A3 P3 => ?_⟩⟩⟩
  have r3 := (rv.ext e2).ext e3
  have lst : ∀ {a : Addr} {xs : List PV} {vs : List V}, v = .ref a → SqL X.K H3 a vs → RepL X.K ν3 H3 xs vs → Post X.K ca W σ ν3 H3 ((mNew (.lst (cutC xs lo hi))) h3) (fun ν' H' _ x => ∀ v, Rep X.K ν' H' x v → Q v H') → rSlL X.K v lo hi H3 Q := fun {a xs vs} ev q rl P => by
    subst ev
    refine ⟨a, vs, rfl, q, fun p hp => ?_⟩
    obtain ⟨q2, rr⟩ := new_lst A3 (cut_rep rl lo hi) hp P
    exact q2 _ rr
  cases r3 with
  | @str z =>
    have P4 : Post X.K ca W σ ν3 H3 ((if z.length ≤ lim then M.ret (.str (cutC z lo hi)) else M.bad : M PV) h3) fun ν' H' _ x => ∀ v, Rep X.K ν' H' x v → Q v H' := P3
    split at P4
    · rename_i hz
      refine .inl ⟨mkS z, rfl, by rw [len_mkS]; exact lim_line hz, ?_⟩
      have : cutS (mkS z) lo hi = mkS (cutC z lo hi) := by
        unfold cutS cutC
        rw [len_mkS, sIx_eq, sIx_eq]; rfl
      rw [this]
      exact Post.ret P4 A3 _ .str
    · exact P4.elim
  | @tup xs a vs q r =>
    have P4 : Post X.K ca W σ ν3 H3 ((M.ret (.tup (cutC xs lo hi)) : M PV) h3) fun ν' H' _ x => ∀ v, Rep X.K ν' H' x v → Q v H' := P3
    refine .inr (.inl ⟨a, vs, rfl, .of q, fun hw => ?_, fun hw p hp => ?_⟩)
    · have : cutC xs lo hi = xs := by
        unfold cutC
        rw [r.length, ← sIx_eq, ← sIx_eq, hw.1, hw.2, List.drop_zero, Nat.sub_zero, ← r.length, List.take_length]
      rw [this] at P4
      exact Post.ret P4 A3 _ (.tup q r)
    · obtain ⟨x2, A2⟩ := A3.oth (o := .tup (cutV vs lo hi)) hp
      exact P4 ν3 _ x2 A2 _ (.tup upd_same ((cut_rep r lo hi).ext x2))
  | @kl a xs vs q r => exact .inr (.inr (lst rfl q.sq r P3))
  | @ref n a l em =>
    obtain ⟨o, ho, P4⟩ := mAt_post (show Post X.K ca W σ ν3 H3 (mAt n (fun o => match o with
      | .lst xs => mNew (.lst (cutC xs lo hi))
      | _ => M.bad) h3) _ from P3)
    have q := A3.at_ _ o ho
    rw [em] at q
    cases o with
    | lst xs =>
      obtain ⟨a', vs, e1, e2, rl⟩ := q
      cases e1
      exact .inr (.inr (lst rfl (.of e2) rl P4))
    | _ => exact P4.elim
  | _ => exact P3.elim
def pRev : PV → M PV := fun x => mLst x fun xs => mNew (.lst xs.reverse)
theorem px_rev {k : Nat} {p1 p3 p4 : Pos} (he : PX X ca W e f) : PX X ca W (.Subscript e (.Slice none none (some (.UnaryOp .USub (.Constant (.int 1) k p1) p2)) p3) pos) (eUn pRev f) :=
  PE.imp (pe_revL he) fun σ H Q ⟨ν, ρ, h, A, E, P⟩ => ⟨ν, ρ, h, A, E, (Post.bind P).mono fun ν1 H1 h1 px e1 A1 P1 v rv => by
    obtain ⟨a, xs, vs, rfl, q, rl, P2⟩ := mLst_post A1 rv P1
    refine ⟨a, vs, rfl, q, fun p hp => ?_⟩
    obtain ⟨q2, rr⟩ := new_lst A1 rl.reverse hp P2
    exact q2 _ rr⟩
end
end FX

set_option Elab.async false
set_option linter.all false
set_option maxRecDepth 100000
set_option maxHeartbeats 2000000
namespace FX
open PySem PySem.Spec PyProof.Rows L2 SlX
def mPopI : FF := fun xs => match xs with
  | [x, .int i] => mMut x fun n ys => match ixN ys.length i with
    | some k => (match ys[k]? with
      | some y => if ys.length ≤ lim then (mPut n (.lst (ys.eraseIdx k))).bind fun _ => M.ret y else M.bad
      | none => M.bad)
    | none => M.bad
  | _ => M.bad
def mPop : FF := fun xs => match xs with
  | [x] => mMut x fun n ys => match ys.getLast? with
    | some y => (mPut n (.lst ys.dropLast)).bind fun _ => M.ret y
    | none => M.bad
  | _ => M.bad
def pDGetD : FF := fun xs => match xs with
  | [x, y] => mDct x y fun _ _ kvs => M.ret ((dGet kvs y).getD .non)
  | [x, y, z] => mDct x y fun _ _ kvs => M.ret ((dGet kvs y).getD z)
  | _ => M.bad
def prsE : List (EF × EF) → Env → M (List (PV × PV))
  | [], _ => M.ret []
  | (k, v) :: r, ρ => (k ρ).bind fun x => (v ρ).bind fun y => (prsE r ρ).bind fun ps => M.ret ((x, y) :: ps)
def keysOk : List (PV × PV) → Bool
  | [] => true
  | (k, _) :: r => (asK k).isSome && keysOk r
def dspF (d : PV) (kvs : List (PV × PV)) : M PV := match d with
  | .ref n => mAt n fun o => match o with
    | .dct [] => if keysOk kvs && decide (kvs.length ≤ 15) then (mPut n (.dct (mrg [] kvs))).bind fun _ => M.ret (.ref n) else M.bad
    | _ => M.bad
  | _ => M.bad
def eDsp (prs : List (EF × EF)) : EF := fun ρ => (mNew (.dct [])).bind fun d => (prsE prs ρ).bind fun kvs => dspF d kvs
def pFmt : PV → M PV
  | .str x => if x.length ≤ lim then M.ret (.str x) else M.bad
  | .int i => if decide (i.natAbs < 2 ^ 1900) then M.ret (.str (intS i)) else M.bad
  | _ => M.bad
def jsE : List EF → List Nat → Env → M (List Nat)
  | [], acc, _ => M.ret acc
  | f :: fs, acc, ρ => (f ρ).bind fun x => match x with
    | .str y => if (acc ++ y).length ≤ lim then jsE fs (acc ++ y) ρ else M.bad
    | _ => M.bad
def eJs (fs : List EF) : EF := fun ρ => (jsE fs [] ρ).bind fun z => M.ret (.str z)
def srcS (x : List Nat) : Src := fun i _ => some (x[i]?.map fun c => PV.str [c])
def iStq (f : EF) : IF := fun ρ => (f ρ).bind fun x => match x with
  | .str y => M.ret (srcS y)
  | _ => M.bad
def pIxS : PV → PV → M PV := fun x y => match x, y with
  | .str z, .int i => (match atI z i with
    | some c => if z.length ≤ lim then M.ret (.str [c]) else M.bad
    | none => M.bad)
  | _, _ => M.bad
section
variable {X : Cx} {ca : Ca} {W : WX}
theorem eraseIdx_rep {K : PySem.W.Frag} {ν : Nu} {H : Hp} : ∀ {xs : List PV} {vs : List V} (k : Nat), RepL K ν H xs vs → RepL K ν H (xs.eraseIdx k) (vs.eraseIdx k)
  | _, _, _, .nil => .nil
  | _, _, 0, .cons _ t => t
  | _, _, k + 1, .cons r t => .cons r (eraseIdx_rep k t)
theorem ca_popI : CaM X ca W (.builtin "list.pop") mPopI := by
  intro pins s σ H ν hp xs vs us Q I rv A r P
  unfold mPopI at P
  split at P
  · rename_i x i
    cases r with
    | cons r1 r2 =>
    cases r2 with
    | cons r2 r3 =>
    cases r3
    cases r2
    obtain ⟨n, a, ys, ws, rfl, rfl, ho, e, ha, rl, P1⟩ := mMut_post A r1 P
    cases e1 : ixN ys.length i with
    | none => rw [e1] at P1; exact P1.elim
    | some k =>
      rw [e1] at P1
      dsimp only at P1
      cases e2 : ys[k]? with
      | none => rw [e2] at P1; exact P1.elim
      | some y =>
        rw [e2] at P1
        dsimp only at P1
        obtain ⟨hl, P2⟩ := post_ifp P1
        obtain ⟨w, hw, rw'⟩ := rl.get e2
        cases rv with
        | cons rv rvs =>
          have hlen := rl.length
          have hlim : ys.length ≤ 10000000 := hl
          obtain ⟨h1, h3, h4, h5⟩ := ixN_seq e1
          refine mt_popAt pins s σ H _ _ _ _ Q I rv rvs ⟨a, ws, i, k, w, rfl, rfl, ha, by omega, by omega, by rw [← hlen]; exact h1, hw, ?_⟩
          obtain ⟨x2, A2⟩ := wr_lst A ho e (eraseIdx_rep k rl)
          exact Post.ret ((Post.bind P2) ν _ x2 A2) A2 _ (rw'.ext x2)
  · exact P.elim
theorem dGet_post {σ : L2.St} {H : Hp} {ν : Nu} {h : MH} {x y z : PV} {v u w0 : V} {Q : VK} (A : Ab X.K ca ν h H) (rx : Rep X.K ν H x v) (ry : Rep X.K ν H y u) (rz : Rep X.K ν H z w0)
    (P : Post X.K ca W σ ν H (mDct x y (fun _ _ kvs => (M.ret ((dGet kvs y).getD z) : M PV)) h) fun ν' H' _ z => ∀ w, Rep X.K ν' H' z w → Q w H') : ∃ a o, v = .ref a ∧ DGet H a u o ∧ Q (o.getD w0) H := by
  obtain ⟨n, a, rfl, rfl, en, c⟩ := mDct_post A rx ry P
  rcases c with ⟨kvs, kws, k, hn, ha, rk, rfl, rfl, P1⟩ | ⟨kvs, kws, k, b, hn, ha, rk, rfl, rfl, hb, P1⟩
  · have g := rk.get (fun a b => keyE_kP) (k := k)
    refine ⟨a, valV kws k, rfl, .inl ⟨kws, k, .inl ha, rfl, rfl⟩, ?_⟩
    cases e : dGet kvs (kP k) with
    | none => rw [e] at P1; rw [g.1 e]; exact Post.ret P1 A _ rz
    | some v => rw [e] at P1; obtain ⟨u, h1, h2⟩ := g.2 v e; rw [h1]; exact Post.ret P1 A _ h2
  · have g := rk.get (fun a b => keyE_kPs) (k := k)
    refine ⟨a, valV kws k, rfl, .inr ⟨kws, k, b, .inl ha, rfl, hb, rfl⟩, ?_⟩
    cases e : dGet kvs (kPs k) with
    | none => rw [e] at P1; rw [g.1 e]; exact Post.ret P1 A _ rz
    | some v => rw [e] at P1; obtain ⟨u, h1, h2⟩ := g.2 v e; rw [h1]; exact Post.ret P1 A _ h2
theorem ca_dget (hu : X.A.units + 1 < cLine) : CaM X ca W (.builtin "dict.get") pDGetD := by
  intro pins s σ H ν hp xs vs us Q I rv A r P
  unfold pDGetD at P
  split at P
  · cases r with
    | cons r1 r2 =>
    cases r2 with
    | cons r2 r3 =>
    cases r3
    obtain ⟨a, o, rfl, g, q⟩ := dGet_post A r1 r2 .non P
    cases rv with
    | cons rv1 rv =>
    cases rv with
    | cons rv2 rv =>
    cases rv
    cases rv1
    exact d_get1 hu I g rv2 fun w' s' I' rw' => ⟨_, H, I', rw', q⟩
  · cases r with
    | cons r1 r2 =>
    cases r2 with
    | cons r2 r3 =>
    cases r3 with
    | cons r3 r4 =>
    cases r4
    obtain ⟨a, o, rfl, g, q⟩ := dGet_post A r1 r2 r3 P
    cases rv with
    | cons rv1 rv =>
    cases rv with
    | cons rv2 rv =>
    cases rv with
    | cons rv3 rv =>
    cases rv
    cases rv1
    exact d_get2 hu I g rv2 rv3 fun w' s' I' rw' => ⟨_, H, I', rw', q⟩
  · exact P.elim
variable {e tg : Expr} {f : EF}
theorem pxi_stq (he : PX X ca W e f) : PXI X ca W tg e (iStq f) := by
  refine PI.imp (pi_str he) fun σ H R ⟨ν, ρ, h, A, E, P⟩ => ⟨ν, ρ, h, A, E, (Post.bind P).mono fun ν1 H1 h1 px e1 A1 P1 v rv => ?_⟩
  cases rv with
  | @str y =>
    refine ⟨mkS y, rfl, Post.ret P1 A1 _ fun ν' h' H' i e' A' => ?_⟩
    have hsz : (mkS y).cps.size = y.length := by simp [mkS]
    have hg : ∀ j : Nat, (mkS y).cps[j]? = y[j]? := fun j => by simp [mkS]
    constructor
    · intro z
      show (mkS y).cps.size ≤ i
      have : y[i]?.map (fun c => PV.str [c]) = none := Option.some.inj z
      rw [Option.map_eq_none_iff, List.getElem?_eq_none_iff] at this
      rw [hsz]; exact this
    · intro x z
      have z' : y[i]?.map (fun c => PV.str [c]) = some x := Option.some.inj z
      cases ec : y[i]? with
      | none => rw [ec] at z'; cases z'
      | some c =>
        rw [ec] at z'
        cases z'
        refine ⟨?_, fun v H'' hy => ?_⟩
        · show i < (mkS y).cps.size
          rw [hsz]; exact (List.getElem?_eq_some_iff.mp ec).1
        · obtain ⟨rfl, c', h1, rfl⟩ := hy
          rw [hg, ec] at h1
          cases h1
          exact ⟨ν', Ext.refl _ _, A', .str⟩
  | _ => exact P1.elim
end
end FX

set_option Elab.async false
set_option linter.all false
set_option maxRecDepth 100000
set_option maxHeartbeats 2000000
namespace FX
open PySem PySem.Spec PyProof.Rows L2 SlX
section
variable {X : Cx} {ca : Ca} {W : WX} {e k v o : Expr} {f fk fv fo : EF} {nm : Str} {apos cpos pos : Pos} {g : FF}
theorem px_bm0 {ck : PV → M Unit} {T id : String} (pa : PlainAttrs T) (slot : Slot T nm id) (hty : typeOf (.builtin id) = pure (.type "method_descriptor")) (hck : ∀ σ H ν h x v Φ, Ab X.K ca ν h H → Rep X.K ν H x v → Post X.K ca W σ ν H (ck x h) Φ → tyV X.K T v H ∧ Φ ν H h ())
    (hc : CaM X ca W (.builtin id) g) (ho : PX X ca W o fo) (hbase : attributeBase o nm X.env (eval o X.env) = eval o X.env := by rfl) (hline : (apos.endLine == cpos.line) = true := by rfl) :
    PX X ca W (.Call (.Attribute o nm apos) [] [] cpos) (eBm ck g fo aNil) := by
  refine ⟨fun pins s σ H Q I ⟨ν, ρ, h, A, E, P⟩ => ?_⟩
  refine wpAny_Call_method0_late hbase hline (thn (ho.run pins s σ H _ I ⟨ν, ρ, h, A, E, (Post.bind P).mono fun ν1 H1 h1 px e1 A1 P1 v rv => (⟨ν1, h1, px, A1, rv, P1⟩ : ∃ ν1 h1 px, Ab X.K ca ν1 h1 H1 ∧ Rep X.K ν1 H1 px v ∧ Post X.K ca W σ ν1 H1 (((ck px).bind fun _ => (aNil ρ).bind fun xs => g (px :: xs)) h1) fun ν' H' _ x => ∀ v, Rep X.K ν' H' x v → Q v H')⟩) fun v s1 ⟨x, H1, I1, r1, ν1, h1, px, A1, rp, P1⟩ => ?_)
  obtain ⟨ty, P2⟩ := hck σ H1 ν1 h1 px x _ A1 rp (Post.bind P1)
  obtain ⟨t1, t2⟩ := tyV_is I1 r1 ty
  exact ⟨T, id, pa, slot, hty, t1, t2, Calls.callWith_builtin rfl (PySem.evalArgs_none (hc pins s1 σ H1 ν1 h1 [px] [x] [v] Q I1 (.cons r1 .nil) A1 (.cons rp .nil) P2))⟩
theorem dropLast_rep {K : PySem.W.Frag} {ν : Nu} {H : Hp} {xs : List PV} {vs : List V} (r : RepL K ν H xs vs) : RepL K ν H xs.dropLast vs.dropLast := by
  rw [List.dropLast_eq_take, List.dropLast_eq_take, r.length]
  exact r.take _
theorem ca_pop : CaM X ca W (.builtin "list.pop") mPop := by
  intro pins s σ H ν hp xs vs us Q I rv A r P
  unfold mPop at P
  split at P
  · cases r with
    | cons r1 r2 =>
    cases r2
    obtain ⟨n, a, ys, ws, rfl, rfl, ho, e, ha, rl, P1⟩ := mMut_post A r1 P
    cases e1 : ys.getLast? with
    | none => rw [e1] at P1; exact P1.elim
    | some y =>
      rw [e1] at P1
      rw [List.getLast?_eq_getElem?] at e1
      obtain ⟨w, hw, rw'⟩ := rl.get e1
      cases rv with
      | cons rv rvs =>
        refine mt_pop pins s σ H _ _ _ _ Q I rv rvs ⟨a, ws, w, rfl, rfl, ha, by rw [← rl.length]; exact hw, ?_⟩
        obtain ⟨x2, A2⟩ := wr_lst A ho e (dropLast_rep rl)
        exact Post.ret ((Post.bind P1) ν _ x2 A2) A2 _ (rw'.ext x2)
  · exact P.elim
inductive PXJ (X : Cx) (ca : Ca) (W : WX) : List Expr → List EF → Prop
  | nil : PXJ X ca W [] []
  | cons {e f es fs} (h : PX X ca W e f) (t : PXJ X ca W es fs) : PXJ X ca W (e :: es) (f :: fs)
theorem px_fmt (he : PX X ca W e f) : PX X ca W (.FormattedValue e (-1) none pos) (eUn pFmt f) :=
  PE.imp (pe_fmt he) fun σ H Q ⟨ν, ρ, h, A, E, P⟩ => ⟨ν, ρ, h, A, E, (Post.bind P).mono fun ν1 H1 h1 px e1 A1 P1 v rv => by
    cases rv with
    | @str y =>
      have P2 : Post X.K ca W σ ν1 H1 ((if y.length ≤ lim then M.ret (.str y) else M.bad : M PV) h1) fun ν' H' _ x => ∀ v, Rep X.K ν' H' x v → Q v H' := P1
      obtain ⟨hl, P3⟩ := post_ifp P2
      exact .inl ⟨mkS y, rfl, by rw [len_mkS]; exact lim_line hl, Post.ret P3 A1 _ .str⟩
    | @int i =>
      have P2 : Post X.K ca W σ ν1 H1 ((if decide (i.natAbs < 2 ^ 1900) = true then M.ret (.str (intS i)) else M.bad : M PV) h1) fun ν' H' _ x => ∀ v, Rep X.K ν' H' x v → Q v H' := P1
      obtain ⟨hl, P3⟩ := post_ifp P2
      refine .inr ⟨i, rfl, ?_, ?_⟩
      · have h1 := of_decide_eq_true hl
        by_cases z : i.natAbs = 0
        · rw [z]; decide
        · have := (Nat.log2_lt z).mpr h1
          omega
      · have : (toString i : Str) = mkS (intS i) := (intS_ok i).symm
        rw [this]
        exact Post.ret P3 A1 _ .str
    | _ => exact P1.elim⟩
theorem mkS_app (x y : List Nat) : mkS x ++ mkS y = mkS (x ++ y) := TL.ext_tl (by rw [TL.tl_append]; rfl)
theorem js_run {ts : List Expr} {fs : List EF} (h : PXJ X ca W ts fs) : ∃ trs, PJ X ts trs ∧ ∀ (acc : List Nat) (σ : L2.St) (H : Hp) (Q : Str → Hp → Prop) (ν : Nu) (ρ : Env) (hp : MH), Ab X.K ca ν hp H → EnvR X.K ν H ρ σ → Post X.K ca W σ ν H (jsE fs acc ρ hp) (fun ν' H' _ z => Q (mkS z) H') → tJs trs (mkS acc) σ H Q := by
  induction h with
  | nil => exact ⟨[], .nil, fun acc σ H Q ν ρ hp A E P => Post.ret P A⟩
  | @cons e f es fs h t ih =>
    obtain ⟨trs, h1, h2⟩ := ih
    refine ⟨_ :: trs, .cons h h1, fun acc σ H Q ν ρ hp A E P => ?_⟩
    refine ⟨ν, ρ, hp, A, E, (Post.bind P).mono fun ν1 H1 hp1 px e1 A1 P1 v rv => ?_⟩
    cases rv with
    | @str y =>
      have P2 : Post X.K ca W σ ν1 H1 ((if (acc ++ y).length ≤ lim then jsE fs (acc ++ y) ρ else M.bad : M (List Nat)) hp1) (fun ν' H' _ z => Q (mkS z) H') := P1
      obtain ⟨hl, P3⟩ := post_ifp P2
      refine ⟨mkS y, rfl, ?_, ?_⟩
      · rw [mkS_app, len_mkS]; exact lim_line hl
      · rw [mkS_app]
        exact h2 (acc ++ y) σ H1 Q ν1 ρ hp1 A1 (E.ext e1) P3
    | _ => exact P1.elim
theorem px_js {v1 v2 : Expr} {rest : List Expr} {fs : List EF} (h : PXJ X ca W (v1 :: v2 :: rest) fs) : PX X ca W (.JoinedStr (v1 :: v2 :: rest) pos) (eJs fs) := by
  obtain ⟨trs, h1, h2⟩ := js_run h
  refine PE.imp (pe_joined h1) fun σ H Q ⟨ν, ρ, hp, A, E, P⟩ => ?_
  exact h2 [] σ H (fun out H1 => Q (.str out) H1) ν ρ hp A E ((Post.bind P).mono fun ν1 H1 hp1 z e1 A1 P1 => Post.ret P1 A1 _ .str)
inductive PXP (X : Cx) (ca : Ca) (W : WX) : List (Option Expr) → List Expr → List (EF × EF) → Prop
  | nil : PXP X ca W [] [] []
  | cons {k v fk fv ks vs fs} (hk : PX X ca W k fk) (hv : PX X ca W v fv) (t : PXP X ca W ks vs fs) : PXP X ca W (some k :: ks) (v :: vs) ((fk, fv) :: fs)
theorem prs_run {pos : Pos} {ks : List (Option Expr)} {vs : List Expr} {fs : List (EF × EF)} (h : PXP X ca W ks vs fs) : ∃ trs, PPs X pos ks vs trs ∧ ∀ (σ : L2.St) (H : Hp) (Q : List (V × V) → Hp → Prop) (ν : Nu) (ρ : Env) (hp : MH), Ab X.K ca ν hp H → EnvR X.K ν H ρ σ →
    Post X.K ca W σ ν H (prsE fs ρ hp) (fun ν' H' _ ps => ∀ qs, RepL X.K ν' H' (ps.map (·.1)) (qs.map (·.1)) → RepL X.K ν' H' (ps.map (·.2)) (qs.map (·.2)) → Q qs H') → tPairs trs σ H Q := by
  induction h with
  | nil => exact ⟨[], pps_nil, fun σ H Q ν ρ hp A E P => Post.ret P A [] .nil .nil⟩
  | @cons k v fk fv ks vs fs hk hv t ih =>
    obtain ⟨trs, h1, h2⟩ := ih
    refine ⟨(_, _) :: trs, pps_cons hk hv h1, fun σ H Q ν ρ hp A E P => ?_⟩
    refine ⟨ν, ρ, hp, A, E, (Post.bind P).mono fun ν1 H1 hp1 px e1 A1 P1 x rx => ⟨ν1, ρ, hp1, A1, E.ext e1, (Post.bind P1).mono fun ν2 H2 hp2 py e2 A2 P2 y ry => ?_⟩⟩
    refine h2 σ H2 _ ν2 ρ hp2 A2 ((E.ext e1).ext e2) ((Post.bind P2).mono fun ν3 H3 hp3 ps e3 A3 P3 qs r1 r2 => ?_)
    exact Post.ret P3 A3 ((x, y) :: qs) (.cons ((rx.ext e2).ext e3) r1) (.cons (ry.ext e3) r2)
theorem keys_rep {K : PySem.W.Frag} {ν : Nu} {H : Hp} : ∀ {ps : List (PV × PV)} {qs : List (V × V)}, keysOk ps = true → RepL K ν H (ps.map (·.1)) (qs.map (·.1)) → RepL K ν H (ps.map (·.2)) (qs.map (·.2)) → ∃ kvs : List (L2.Key × V), qs = kvs.map (fun kv => (kV kv.1, kv.2)) ∧ RepKV kP K ν H ps kvs
  | [], [], _, _, _ => ⟨[], rfl, rfl, .nil⟩
  | [], _ :: _, _, r, _ => by have := r.length; simp at this
  | _ :: _, [], _, r, _ => by have := r.length; simp at this
  | (k, x) :: ps, (kv, xv) :: qs, hk, .cons a b, .cons c d => by
    have hk' : ((asK k).isSome && keysOk ps) = true := hk
    rw [Bool.and_eq_true] at hk'
    obtain ⟨kk, ek⟩ := Option.isSome_iff_exists.mp hk'.1
    obtain ⟨kvs, h1, h2⟩ := keys_rep hk'.2 b d
    have e1 := asK_kP ek
    subst e1
    have e2 : kv = kV kk := by
      cases kk with
      | inl i => cases a; rfl
      | inr z =>
        cases a
        show V.str (mkS z.cps.toList) = V.str z
        rw [mkS_cps]
    subst e2
    refine ⟨(kk, xv) :: kvs, by rw [h1]; rfl, ?_, .cons c h2.2⟩
    show kP kk :: ps.map (·.1) = kP kk :: kvs.map _
    rw [h2.1]
theorem mrg_repK {K : PySem.W.Frag} {ν : Nu} {H : Hp} : ∀ {ps : List (PV × PV)} {kvs : List (L2.Key × V)} {d : List (PV × PV)} {c : List (L2.Key × V)}, RepKV kP K ν H ps kvs → RepKV kP K ν H d c → RepKV kP K ν H (mrg d ps) (mergeK c kvs)
  | [], [], _, _, _, r => r
  | [], _ :: _, _, _, r, _ => by have := r.1; simp at this
  | _ :: _, [], _, _, r, _ => by have := r.1; simp at this
  | (k, x) :: ps, (kk, xv) :: kvs, d, c, r, r2 => by
    have hk : k = kP kk := by have := r.1; simp at this; exact this.1
    subst hk
    have r' : RepKV kP K ν H ps kvs := ⟨by have := r.1; simp at this; simpa using this, by cases r.2 with | cons _ t => exact t⟩
    have rx : Rep K ν H x xv := by cases r.2 with | cons q _ => exact q
    exact mrg_repK (ps := ps) (kvs := kvs) r' (r2.put (fun a b => keyE_kP) rx)
theorem px_dsp {pos : Pos} {ks : List (Option Expr)} {vs : List Expr} {fs : List (EF × EF)} (h : PXP X ca W ks vs fs) (hall : ks.all (·.isSome) = true := by rfl) (hl : ks.length = vs.length := by rfl) (h0 : ks ≠ [] := by simp) (h15 : ks.length ≤ 15 := by decide) : PX X ca W (.Dict ks vs pos) (eDsp fs) := by
  obtain ⟨trs, h1, h2⟩ := prs_run (pos := pos) h
  refine PE.imp (pe_disp h1 hall hl h0 h15) fun σ H Q ⟨ν, ρ, hp, A, E, P⟩ p hpn => ?_
  obtain ⟨x2, A2⟩ := A.nw (as := [p]) (mo := .dct []) (H' := upd H p (.dK [])) (fun a ha => by rw [List.mem_singleton.mp ha]; exact hpn) (fun b hb => upd_ne fun z => hb (by rw [z]; exact List.mem_cons_self))
    (fun b hb => by rw [List.mem_singleton.mp hb, upd_same]; exact fun z => nomatch z) (fun x => ⟨p, [], rfl, upd_same, rfl, .nil⟩)
  have P1 := (Post.bind P) _ _ x2 A2
  refine h2 σ _ _ _ ρ _ A2 (E.ext x2) ((Post.bind P1).mono fun ν3 H3 hp3 ps e3 A3 P3 qs r1 r2 => ?_)
  have e5 : ν3 hp.nx = [p] := (e3.nu hp.nx (by rw [nuN_same]; exact List.cons_ne_nil _ _)).trans nuN_same
  obtain ⟨o, ho, P4⟩ := mAt_post (show Post X.K ca W σ ν3 H3 (mAt hp.nx (fun o => match o with
    | .dct [] => if (keysOk ps && decide (ps.length ≤ 15)) = true then (mPut hp.nx (.dct (mrg [] ps))).bind fun _ => M.ret (PV.ref hp.nx) else M.bad
    | _ => M.bad) hp3) _ from P3)
  cases o with
  | dct kk =>
    cases kk with
    | nil =>
      obtain ⟨hk, P5⟩ := post_ifp P4
      rw [Bool.and_eq_true] at hk
      obtain ⟨a, kws, q1, q2, rk⟩ := A3.at_ _ _ ho
      rw [e5] at q1
      cases q1
      have hkw : kws = [] := by
        have := rk.1
        simp at this
        exact this
      subst hkw
      obtain ⟨kvs, rfl, rkv⟩ := keys_rep hk.1 r1 r2
      refine ⟨q2, kvs, rfl, ?_, ?_⟩
      · have : ps.length = kvs.length := by
          have := congrArg List.length rkv.1
          simpa using this
        rw [← this]; exact of_decide_eq_true hk.2
      · obtain ⟨x4, A4⟩ := wr_dct A3 ho e5 (mrg_repK rkv (⟨rfl, .nil⟩ : RepKV kP X.K ν3 H3 [] []))
        exact Post.ret ((Post.bind P5) ν3 _ x4 A4) A4 _ (.ref (l := []) e5)
    | cons _ _ => exact P4.elim
  | _ => exact P4.elim
end
end FX

set_option Elab.async false
set_option linter.all false
set_option maxRecDepth 100000
set_option maxHeartbeats 2000000
namespace FX
open PySem PySem.Spec PyProof.Rows L2 SlX
def flD : PV → Option PyData
  | .non => some .none
  | .bl b => some (.bool b)
  | .int i => some (.int i)
  | .str x => some (.str (mkS x))
  | _ => none
def kvD (p : PV × PV) : Option (PyData × PyData) := match flD p.1, flD p.2 with
  | some a, some b => some (a, b)
  | _, _ => none
/-- the data that repr tells -/
def shwD (h : MH) (x : PV) : Option PyData := match x with
  | .ref n => match h.get n with
    | some (.dct kvs) => (allS kvD kvs).map .dict
    | _ => (datF h 40 (.ref n)).map toPD
  | x => (datF h 40 x).map toPD
def okRp (d : PyData) : Bool := d.showable && decide (d.shown.length ≤ sizeLine)
def pRepr : FF := fun xs => match xs with
  | [x] => fun h => match shwD h x with
    | some d => if okRp d = true then .ok (.str d.shown.cps.toList) h else .bad
    | none => .bad
  | _ => M.bad
section
variable {K : PySem.W.Frag} {ca : Ca} {ν : Nu} {H : Hp} {h : MH}
theorem flD_reads {hp : Heap} {x : PV} {v : V} {u : Value} {d : PyData} (r : Rep K ν H x v) (ru : L2.RelV v u) (e : flD x = some d) : Reads hp u d [] ∧ d.depth = 0 := by
  cases r with
  | non => cases ru; cases e; exact ⟨.none, rfl⟩
  | bl => cases ru; cases e; exact ⟨.bool _, rfl⟩
  | int => obtain ⟨t, rfl⟩ := ru; cases e; exact ⟨.int _ _, rfl⟩
  | str => obtain ⟨t, rfl⟩ := ru; cases e; exact ⟨.str _ _, rfl⟩
  | _ => cases e
theorem kvD_reads {P : Program} {w : World} {hp : Heap} : ∀ {kvs : List (PV × PV)} {kws : List (Key × V)} {vs : List (Key × Value)} {es : List DictEntry} {ds : List (PyData × PyData)}, kvs.map (·.1) = kws.map (fun q => kP q.1) → RepL K ν H (kvs.map (·.2)) (kws.map (·.2)) → KV kws vs →
    Pairs (mixKind P w) es vs → allS kvD kvs = some ds → ReadsAll hp (es.map (·.key)) (ds.map (·.1)) [] ∧ ReadsAll hp (es.map (·.val)) (ds.map (·.2)) [] ∧ PyData.depthKv ds = 0
  | [], kws, vs, es, ds, e1, r, k, p, e => by
    have : kws = [] := by cases kws with | nil => rfl | cons _ _ => cases e1
    subst this
    cases k
    cases p
    cases e
    exact ⟨.nil, .nil, rfl⟩
  | kv :: kvs, [], vs, es, ds, e1, r, k, p, e => by cases e1
  | kv :: kvs, kw :: kws, vs, es, ds, e1, r, k, p, e => by
    cases k with
    | cons k1 k2 =>
    cases p with
    | @cons en _ _ _ p1 p2 p3 =>
    obtain ⟨y, zs, h1, h2, rfl⟩ := allS_cons e
    rw [List.map_cons, List.map_cons] at e1
    injection e1 with e1 e1'
    have r' : RepL K ν H (kv.2 :: kvs.map (·.2)) (kw.2 :: kws.map (·.2)) := r
    cases r' with
    | cons ra rb =>
    obtain ⟨a, b, c⟩ := kvD_reads (hp := hp) e1' rb k2 p3 h2
    obtain ⟨kx, px⟩ := kv
    obtain ⟨kk, vv⟩ := kw
    dsimp only at e1 ra k1
    subst e1
    unfold kvD at h1
    dsimp only at h1
    cases hv : flD px with
    | none =>
      rw [hv] at h1
      generalize flD (kP kk) = z at h1
      cases z <;> cases h1
    | some dv =>
      rw [hv] at h1
      obtain ⟨rv, dp⟩ := flD_reads (hp := hp) ra k1.2 hv
      rw [← p2] at rv
      have key : ∃ dk, flD (kP kk) = some dk ∧ Reads hp en.key dk [] ∧ dk.depth = 0 := by
        rw [← k1.1] at p1
        rcases keyIs_shape p1 with ⟨i, t, e1, e2⟩ | ⟨x, t, e1, e2⟩
        · subst e1
          exact ⟨_, rfl, by rw [e2]; exact .int _ _, rfl⟩
        · subst e1
          refine ⟨_, rfl, ?_, rfl⟩
          rw [e2, mkS_cps]; exact .str _ _
      obtain ⟨dk, k2, k3, k4⟩ := key
      rw [k2] at h1
      cases h1
      refine ⟨.cons k3 a, .cons rv b, ?_⟩
      show max (max dk.depth dv.depth) (PyData.depthKv zs) = 0
      rw [k4, dp, c]; rfl
end
section
variable {X : Cx} {ca : Ca} {W : WX}
theorem shw_reads {pins : List (Addr × Obj)} {σ : L2.St} {H : Hp} {s : Shared} {ν : Nu} {h : MH} {x : PV} {v : V} {u : Value} {d : PyData} (I : Inv X pins σ H s) (A : Ab X.K ca ν h H) (r : Rep X.K ν H x v) (ru : L2.RelV v u) (e : shwD h x = some d) :
    ∃ as, Reads s.heap u d as ∧ (d.hasDict = true → sysModules ∉ as) ∧ d.depth ≤ 41 := by
  have base : ∀ dv, datF h 40 x = some dv → d = toPD dv → ∃ as, Reads s.heap u d as ∧ (d.hasDict = true → sysModules ∉ as) ∧ d.depth ≤ 41 := fun dv e1 e2 => by
    subst e2
    obtain ⟨h1, h2, h3⟩ := dat_ok A 40 x v dv r e1
    obtain ⟨as, rr⟩ := Dp.reads I _ _ _ h1 ru
    exact ⟨as, rr, fun z => (by rw [PyData.hasDict_of_canLay _ h2] at z; cases z), by omega⟩
  have flat : ∀ _ : Unit, (datF h 40 x).map toPD = some d → ∃ as, Reads s.heap u d as ∧ (d.hasDict = true → sysModules ∉ as) ∧ d.depth ≤ 41 := fun _ e => by
    cases q : datF h 40 x with
    | none => rw [q] at e; cases e
    | some dv => rw [q] at e; cases e; exact base dv q rfl
  unfold shwD at e
  cases r with
  | @ref n a l en =>
    have e' : (match h.get n with
      | some (.dct kvs) => (allS kvD kvs).map PyData.dict
      | _ => (datF h 40 (.ref n)).map toPD) = some d := e
    cases ho : h.get n with
    | none => rw [ho] at e'; exact flat () e'
    | some o =>
      rw [ho] at e'
      have q := A.at_ _ o ho
      rw [en] at q
      cases o with
      | dct kvs =>
        obtain ⟨a', kws, e1, e2, rk⟩ := q
        cases e1
        dsimp only at e'
        cases q2 : allS kvD kvs with
        | none => rw [q2] at e'; cases e'
        | some ds =>
          rw [q2] at e'
          cases e'
          cases ru
          have ok : ObjOk X.prog X.w H s.heap a (.dK kws) := I.hok a _ e2
          obtain ⟨h1, h2, vs, h3, o, es, ep, g1, g2, g3, g4, g5, g6⟩ := ok
          obtain ⟨b1, b2, b3⟩ := kvD_reads (hp := s.heap) rk.1 rk.2 h3 g5 q2
          refine ⟨_, .dict g1 g2.1 g3 b1 b2, fun _ z => ?_, ?_⟩
          · have : sysModules = a := by simpa using z
            rw [← this] at h2
            simp at h2
          · show PyData.depthKv ds + 1 ≤ 41
            omega
      | _ => exact flat () e'
  | _ => exact flat () e
theorem ca_repr (hg : X.A.guards = some []) (hu : X.A.units + 64 < cLine) : CaM X ca W (.builtin "repr") pRepr := by
  intro pins s σ H ν hp xs vs us Q I rv A r P
  cases r with
  | nil => exact P.elim
  | @cons x v xs vs r t =>
    cases t with
    | cons _ _ => exact P.elim
    | nil =>
      cases rv with
      | @cons _ u _ _ ru rt =>
      cases rt
      have P1 : Post X.K ca W σ ν H (match shwD hp x with
        | some d => if okRp d = true then R.ok (PV.str d.shown.cps.toList) hp else R.bad
        | none => R.bad) _ := P
      cases q : shwD hp x with
      | none => rw [q] at P1; exact P1.elim
      | some d =>
        rw [q] at P1
        dsimp only at P1
        by_cases hk : okRp d = true
        · rw [if_pos hk] at P1
          unfold okRp at hk
          obtain ⟨h1, h2⟩ := Bool.and_eq_true_iff.mp hk
          have h2 := of_decide_eq_true h2
          obtain ⟨as, rr, hs, hd⟩ := shw_reads I A r ru q
          have fin := Post.ret P1 A (.str (mkS d.shown.cps.toList)) .str
          rw [mkS_cps] at fin
          cases rr with
          | none => exact PySem.P.repr_of_none ⟨.str _, H, I.tok _, ⟨_, rfl⟩, by rw [PyData.shown_none] at fin; exact fin⟩
          | bool b => exact PySem.P.repr_of_bool ⟨.str _, H, I.tok _, ⟨_, rfl⟩, by rw [PyData.shown_bool] at fin; exact fin⟩
          | int i t => exact PySem.P.repr_of_int (of_decide_eq_true h1) ⟨.str _, H, I.tok _, ⟨_, rfl⟩, by rw [PyData.shown_int] at fin; exact fin⟩
          | str y t => exact PySem.P.repr_of_str (h := ⟨.str _, H, I.tok _, ⟨_, rfl⟩, by rw [PyData.shown_str] at fin; exact fin⟩) (hsz := by rw [PyData.shown_str] at h2; exact h2)
          | list a1 a2 a3 a4 => exact repr_of_reads' (.list a1 a2 a3 a4) h1 hs hg (by omega) (fun _ _ z => z) (fun h' u tk k => ⟨.str _, H, I.kept (t' := tk) k, ⟨_, rfl⟩, fin⟩) h2
          | tuple a1 a2 a3 a4 => exact repr_of_reads' (.tuple a1 a2 a3 a4) h1 hs hg (by omega) (fun _ _ z => z) (fun h' u tk k => ⟨.str _, H, I.kept (t' := tk) k, ⟨_, rfl⟩, fin⟩) h2
          | dict a1 a2 a3 a4 a5 => exact repr_of_reads' (.dict a1 a2 a3 a4 a5) h1 hs hg (by omega) (fun _ _ z => z) (fun h' u tk k => ⟨.str _, H, I.kept (t' := tk) k, ⟨_, rfl⟩, fin⟩) h2
        · rw [if_neg hk] at P1
          exact P1.elim
end
end FX

set_option Elab.async false
set_option linter.all false
set_option maxRecDepth 100000
set_option maxHeartbeats 2000000
namespace FX
open PySem PySem.Spec PyProof.Rows L2 SlX
section
variable (P : Program) (w : World) (K : PySem.W.Frag) (mg : Str → Option Value) (base : Heap) (ca : Ca)
structure FnXg (k : Nat) (f : Addr) (F : FF) : Prop where
  run : ∀ (A : Around) (outer : List PySem.Env) (s : Shared) (H : Hp) (us : List Value) (vs : List V) (Q : VK) (E : XK), A.guards = some [] → Room k A → Env0 P w K mg base A outer s H → Vals vs us → spM K ca F vs H Q E →
    codeAny (model P w) A (.call (.ref f) ⟨us, []⟩) (CR (L2.CX P w) outer P w H s Q E) s
  kp : PySem.W.keepIn K (.ref f) = true
end
section
variable {P : Program} {w : World} {K : PySem.W.Frag} {mg : Str → Option Value} {base : Heap} {ca : Ca} {j k : Nat} {f : Addr} {F : FF}
theorem FnX.g (h : FnX P w K mg base ca k f F) : FnXg P w K mg base ca k f F := ⟨fun A outer s H us vs Q E _ hr e r q => h.fn A outer s H us vs Q E hr e r q, h.kp⟩
theorem FnXg.mono (h : FnXg P w K mg base ca j f F) (l : j ≤ k) : FnXg P w K mg base ca k f F := ⟨fun A outer s H us vs Q E hg hr => h.run A outer s H us vs Q E hg (hr.mono l), h.kp⟩
end
section
variable {X : Cx} {ca : Ca} {W : WX} {pins : List (Addr × Obj)} {σ : L2.St} {H : Hp} {s : Shared} {k : Nat} {f : Addr} {F : FF} {x : Str} {e : Expr} {es : List Expr} {ra : AF} {p pos : Pos}
theorem call_xg {Q : VK} {us : List Value} {vs : List V} {xs : List PV} {ν : Nu} {h : MH} (Fn : FnXg X.prog X.w X.K X.mg X.base ca k f F) (hg : X.A.guards = some []) (hr : Room k X.A) (tk : Takes X W) (I : Inv X pins σ H s) (r : Vals vs us) (A : Ab X.K ca ν h H) (rx : RepL X.K ν H xs vs)
    (P : Post X.K ca W σ ν H (F xs h) fun ν' H' _ x => ∀ v, Rep X.K ν' H' x v → Q v H') :
    codeAny (model X.prog X.w) X.A (.call (.ref f) ⟨us, []⟩) (fun r s' => match r with | .ok (.ret v) => EP X pins σ Q v s' | .ok _ => False | .error e => X.xe e s') s := by
  refine codeAny_mono (Fn.run X.A X.stack s H us vs Q (WE W σ) hg hr I.env0 r ⟨ν, h, xs, A, rx, P.sig fun _ _ _ h => h⟩) fun r s' hq => ?_
  cases r with
  | error e => exact passAt tk σ pins H s e s' I hq
  | ok fl =>
    cases fl with
    | ret u => exact I.after hq
    | next => exact False.elim hq
    | brk => exact False.elim hq
    | cont => exact False.elim hq
theorem px_callg (Fn : FnXg X.prog X.w X.K X.mg X.base ca k f F) (hgd : X.A.guards = some []) (hr : Room k X.A) (tk : Takes X W) (hg : Gl X x) (hm : X.mg x = some (.ref f)) (ha : PXA X ca W (e :: es) ra)
    (hdb : (x == ("__debug__" : Str)) = false := by decide) (he : starEach (e :: es) X.env = (false, eval e X.env) :: starEach es X.env := by rfl) (hpl : (backTo pos (starEach es X.env)).any (·.1) = false := by rfl) :
    PX X ca W (.Call (.Name x p) (e :: es) [] pos) (eApp F ra) := by
  refine ⟨fun pins s σ H Q I ⟨ν, ρ, h, A, E, P⟩ => ?_⟩
  refine wpAny_Call_Name_kw (ld_glob I hg hm ?_ hdb)
  refine PySem.W.callWith_K (h₀ := X.base) I.ok.mod.kin Fn.kp (thn (ha.run pos pins s σ H _ I (app_post A E P)) fun us s1 ⟨vs, H1, I1, r, ν1, h1, xs, A1, rx, P1⟩ => ⟨I1.kIn, ?_⟩) he hpl
  exact wpAny_call (call_xg Fn hgd hr tk I1 r A1 rx P1)
theorem px_callg0 (Fn : FnXg X.prog X.w X.K X.mg X.base ca k f F) (hgd : X.A.guards = some []) (hr : Room k X.A) (tk : Takes X W) (hg : Gl X x) (hm : X.mg x = some (.ref f)) (hdb : (x == ("__debug__" : Str)) = false := by decide) :
    PX X ca W (.Call (.Name x p) [] [] pos) (eApp F aNil) := by
  refine ⟨fun pins s σ H Q I ⟨ν, ρ, h, A, E, P⟩ => ?_⟩
  refine wpAny_Call_Name_kw (ld_glob I hg hm ?_ hdb)
  exact PySem.W.callWith_K0 I.kIn Fn.kp (wpAny_call (call_xg (us := []) (vs := []) (xs := []) Fn hgd hr tk I .nil A .nil P))
end
section
variable {P : Program} {w : World} {K : PySem.W.Frag} {mg : Str → Option Value} {base : Heap} {ca : Ca}
theorem fnXg_of {name qual : Str} {params : Arguments} {body : List Stmt} {scope : Scope} {dvs : List V} {kws : List (Str × V)} {f : Addr} {fd : FuncData} {N ps : List Str} {k m : Nat} {g : SF} {ds : List Value} {dws : List V} {dxs : List PV}
    (Fd : FunD K name qual params body scope dvs kws f fd) (S : FnScope N ps scope) (b : Binds K fd ps ds) (hd : Vals dws ds) (hx : ∀ ν H, RepL K ν H dxs dws) (hm : m + dxs.length = ps.length)
    (hb : ∀ (cdv : Value) (A : Around) (outer : List PySem.Env) (s : Shared) (H : Hp) (E : XK), (A.deeper (envOfC qual scope s.heap.objs.size f cdv)).guards = some [] → Room k (A.deeper (envOfC qual scope s.heap.objs.size f cdv)) → Takes (cxOf (L2.CX P w) P w K mg base N qual scope f cdv A outer s H E) (fun c d _ H => E c d H) →
      PassesOwn (model P w) (A.deeper (envOfC qual scope s.heap.objs.size f cdv)) (envOfC qual scope s.heap.objs.size f cdv) (cxOf (L2.CX P w) P w K mg base N qual scope f cdv A outer s H E).xe →
      PXSs (cxOf (L2.CX P w) P w K mg base N qual scope f cdv A outer s H E) ca (fun c d _ H => E c d H) body g) : FnXg P w K mg base ca (k + 1) f (defB N.length m dxs g) := by
  refine ⟨fun A outer s H us vs Q E hgd hr e0 r ⟨ν, hp, xs, Ax, rx, p⟩ => ?_, Fd.kp⟩
  obtain ⟨oc, od, dV, kV, doc, pm, an, cdv, ct, osl, rfl, lk, hcd, _, _⟩ := Fd.ex
  unfold defB at p
  by_cases hl : xs.length = m
  · rw [if_pos hl] at p
    have hlen : (vs ++ dws).length = ps.length := by
      rw [List.length_append, ← rx.length, ← (hx ν H).length, hl, hm]
    have rv : Vals (vs ++ dws) (us ++ ds) := r.append hd
    have KX : K.In s.heap := e0.mod.kin.keeps fun b o e => (e0.bs b o e).1
    refine LamX.run_ofS lk hcd S hr e0 (b s us KX (by rw [← rv.length]; exact hlen)) rv hlen fun hr' => ?_
    exact ⟨_, hb cdv A outer s H E hgd hr' (takes_of rfl rfl rfl rfl) (passes_of (X := cxOf (L2.CX P w) P w K mg base N qual scope f cdv A outer s H E) rfl), body_read Ax (rx.append (hx ν H)) p rfl⟩
  · rw [if_neg hl] at p
    exact p.elim
/-- the law's own def at its caller -/
def LawOk (P : Program) (w : World) (K : PySem.W.Frag) (mg : Str → Option Value) (ca : Ca) (fa : Addr) (fd : FuncData) (x : Str) (sp : Sp) : Prop := ∀ (base : Heap) (s : Shared) (H : Hp) (a : Addr) (Q : VK), Env0 P w K mg base callerA [] s H → BindsTo s fd ⟨[.ref a], []⟩ [(x, .ref a)] → sp [.ref a] H Q (fun _ _ _ => False) →
  codeAny (model P w) callerA (.call (.ref fa) ⟨[.ref a], []⟩) (CR CX0 [] P w H s Q fun _ _ _ => False) s
theorem lawOk_of {name qual x : Str} {params : Arguments} {body : List Stmt} {scope : Scope} {dvs : List V} {kws : List (Str × V)} {f : Addr} {fd : FuncData} {N : List Str} {k : Nat} {g : SF} (hr : Room (k + 1) callerA)
    (Fd : FunD K name qual params body scope dvs kws f fd) (S : FnScope N [x] scope)
    (hb : ∀ (base : Heap) (cdv : Value) (A : Around) (outer : List PySem.Env) (s : Shared) (H : Hp) (E : XK), (A.deeper (envOfC qual scope s.heap.objs.size f cdv)).guards = some [] → Room k (A.deeper (envOfC qual scope s.heap.objs.size f cdv)) → Takes (cxOf (L2.CX P w) P w K mg base N qual scope f cdv A outer s H E) (fun c d _ H => E c d H) →
      PassesOwn (model P w) (A.deeper (envOfC qual scope s.heap.objs.size f cdv)) (envOfC qual scope s.heap.objs.size f cdv) (cxOf (L2.CX P w) P w K mg base N qual scope f cdv A outer s H E).xe →
      PXSs (cxOf (L2.CX P w) P w K mg base N qual scope f cdv A outer s H E) ca (fun c d _ H => E c d H) body g) : LawOk P w K mg ca f fd x (spL K ca N.length g 1) := by
  intro base s H a Q e0 hbd ⟨hl, ν, hp, xs, A1, r, p⟩
  obtain ⟨oc, od, dV, kV, doc, pm, an, cdv, ct, osl, rfl, lk, hcd, _, _⟩ := Fd.ex
  have p' : Post K ca (fun c d _ H => (fun _ _ _ => False : XK) c d H) [] ν H (runB N.length g xs hp) fun ν' H' _ x => ∀ v, Rep K ν' H' x v → Q v H' := p.sig fun _ _ _ z => z.elim
  have rc : codeAny (model P w) callerA (.call (.ref f) ⟨[.ref a], []⟩) (CR (L2.CX P w) [] P w H s Q fun _ _ _ => False) s := by
    refine LamX.run_ofS (us := [.ref a]) (vs := [.ref a]) lk hcd S hr e0 hbd (.cons rfl .nil) rfl fun hr' => ?_
    exact ⟨_, hb base cdv callerA [] s H _ rfl hr' (takes_of rfl rfl rfl rfl) (passes_of (X := cxOf (L2.CX P w) P w K mg base N qual scope f cdv callerA [] s H _) rfl), body_read A1 r p' rfl⟩
  refine codeAny_mono rc fun r s' z => ?_
  cases r with
  | error e => exact (cx_false z).elim
  | ok fl => cases fl <;> exact z
end
theorem room65 {k : Nat} {A : Around} (r : Room k A) : A.units + 65 < cLine := by have := r.un; omega
theorem law_at {P : Program} {w : World} {K : PySem.W.Frag} {mg mb : Str → Option Value} {ca : Ca} {fa a : Addr} {fd : FuncData} {x : Str} {sp : Sp} {s₁ : Shared} {vs : List Value} {ns : List Int}
    (KX : K.In s₁.heap) (hns : s₁.heap.Ns mainGlobals mg) (hb : s₁.heap.Ns builtinsNs mb) (hbb : ∀ x : Str, x ≠ "__name__" → mb x = bootBuiltins x) (hlim : s₁.heap.NoLimit) (hg : s₁.gens = #[])
    (ha : s₁.heap.get? a = some { cls := .type "list", data := .seq vs.toArray }) (hi : IntsAre vs ns) (hl : ns.length ≤ sizeLine)
    (F : LawOk P w K mg ca fa fd x sp) (hbind : ∀ (s : Shared) (u : Value), BindsTo s fd ⟨[u], []⟩ [(x, u)])
    (hsp : ∀ H : Hp, Only H → SqL K H a (ns.map V.int) → sp [.ref a] H (fun v _ => v = .bl true) fun _ _ _ => False) :
    codeAny (model P w) callerA (.call (.ref fa) ⟨[.ref a], []⟩) (fun r s' => r = .ok (.ret (.bool true)) ∧ OldK s₁.heap s'.heap ∧ s'.os = s₁.os ∧ AllBare s'.gens) s₁ := by
  have core : ∀ H : Hp, Only H → SqL K H a (ns.map V.int) → HOk P w H s₁.heap → (∀ b, H b ≠ none → b = a) → (H a ≠ none → K.lookup a = none) →
      codeAny (model P w) callerA (.call (.ref fa) ⟨[.ref a], []⟩) (fun r s' => r = .ok (.ret (.bool true)) ∧ OldK s₁.heap s'.heap ∧ s'.os = s₁.os ∧ AllBare s'.gens) s₁ := by
    intro H hO hS hok hA hK
    have only : ∀ {b : Addr} {o : Obj}, s₁.heap.get? b = some o → o.data ≠ .seq vs.toArray → H b = none := fun {b o} e d => by
      cases q : H b with
      | none => rfl
      | some u =>
        have e' : b = a := hA b (by rw [q]; simp)
        subst e'
        rw [ha] at e; cases e
        exact absurd rfl d
    have nsK : ∀ {b : Addr} {m : Str → Option Value}, s₁.heap.Ns b m → (hidT s₁.heap H).Ns b m := fun {b m} ⟨o, es, ep, e, d, r⟩ => ⟨o, es, ep, hidT_get e (only e (by rw [d]; exact fun z => nomatch z)), d, r⟩
    have hKb : K.In (hidT s₁.heap H) := fun b o e => hidT_get (KX b o e) (by
      cases q : H b with
      | none => rfl
      | some u =>
        have e' : b = a := hA b (by rw [q]; simp)
        subst e'
        rw [hK (by rw [q]; simp)] at e; cases e)
    have hM : Mod K mg (hidT s₁.heap H) := ⟨hKb, nsK hns, ⟨mb, nsK hb, hbb⟩, let ⟨mc, h1, h2⟩ := hlim; ⟨mc, nsK h1, h2⟩⟩
    have e0 : Env0 P w K mg (hidT s₁.heap H) callerA [] s₁ H := ⟨rfl, hM, fun b o e => of_hidT e, Nat.le_of_eq (hidT_size _ _), trivial, fun b hb => absurd (show b ∈ ([] : List Addr) from hb) (by simp), hok, .of_eq hg⟩
    refine codeAny_mono (F _ s₁ H a _ e0 (hbind s₁ (.ref a)) (hsp H hO hS)) fun r s' h => ?_
    cases r with
    | error e => exact False.elim h
    | ok fl =>
      cases fl with
      | ret u =>
        obtain ⟨v, H', os, bare, un, hok', r', q⟩ := h
        have q' : v = .bl true := q
        subst q'
        obtain rfl : u = Value.bool true := r'
        refine ⟨rfl, OldK.of_keep fun b o e => ?_, os, bare⟩
        cases q : H b with
        | none => exact un.keep b o e q (by intro z; exact absurd (show b ∈ ([] : List Addr) from z) (by simp)) (by simp)
        | some u =>
          rcases hO b with z | ⟨ob, xs, z⟩
          · rw [q] at z; cases z
          · obtain ⟨e1, _⟩ := hok b _ z
            obtain ⟨e2, _⟩ := hok' b _ (un.frzs b ob _ z)
            rw [e] at e1; cases e1
            exact e2
      | next => exact False.elim h
      | brk => exact False.elim h
      | cont => exact False.elim h
  cases hk : K.lookup a with
  | some o =>
    have e := KX a o hk
    rw [ha] at e
    cases e
    exact core (fun _ => none) (fun _ => .inl rfl) (.inr ⟨_, vs.toArray, _, hk, rfl, rfl, rfl, by rw [List.size_toArray, hi.length]; exact hl, by simpa using vals_ints hi⟩) (fun b u z => by cases (z : (none : Option HO) = some u)) (fun b z => absurd rfl z) fun z => absurd rfl z
  | none =>
    let o0 : Obj := { cls := .type "list", data := .seq vs.toArray }
    refine core (fun b => if b = a then some (.frz o0 (.lst (ns.map V.int))) else none) (fun b => ?_) (.inl (.inr ⟨o0, if_pos rfl⟩)) (fun b u z => ?_) (fun b z => ?_) fun _ => hk
    · by_cases hb : b = a
      · exact .inr ⟨_, _, if_pos hb⟩
      · exact .inl (if_neg hb)
    · by_cases hb : b = a
      · cases (if_pos hb).symm.trans z
        subst hb
        exact ⟨ha, by rw [List.length_map]; exact hl, vs, _, vals_ints hi, ha⟩
      · cases (if_neg hb).symm.trans z
    · by_cases hb : b = a
      · exact hb
      · exact absurd (if_neg hb) z
theorem walk_law {l : PySem.W.OpenLaw} {n : Nat} {q : Program} {loose : List Str} {XP : (Str → Option Value) → Heap → Prop} {YP : World → Heap → Prop} {d : DefRec} {x : Str}
    (hn : l.most = some n) (hn2 : n ≤ sizeLine) (hdf : d.params.defaults = [])
    (F : ∀ (w : World) (mg : Str → Option Value) (fa : Addr) (h : Heap), YP w h → h.Ns mainGlobals mg → mg d.name = some (.ref fa) →
      ∃ (K : PySem.W.Frag) (ca : Ca) (fd : FuncData) (sp : Sp), K.In h ∧ (∀ (s : Shared) (u : Value), BindsTo s fd ⟨[u], []⟩ [(x, u)]) ∧
        (∀ (H : Hp) (a : Addr) (ns : List Int), ns.length ≤ n → Only H → SqL K H a (ns.map V.int) → sp [.ref a] H (fun v _ => v = .bl true) fun _ _ _ => False) ∧ LawOk l.prog w K mg ca fa fd x sp) :
    PySem.W.WalkO q loose XP YP l.row.toRowW d [] (fun f vs => PySem.call f vs) := by
  refine Att.attach_call hn hdf fun w s₀ s₁ mg mb fa o pm cd doc a vs ns G Y ho hd hcd hmg hobj hints hlen hg => ?_
  obtain ⟨K, ca, fd, sp, KX, hb, hsp, hF⟩ := F w mg fa _ Y G.T.g hmg
  exact law_at KX G.T.g G.T.b G.T.builtins G.T.nolimit hg hobj hints (Nat.le_trans hlen hn2) hF hb fun H hO hS => hsp H a ns hlen hO hS
end FX

set_option Elab.async false
set_option linter.all false
set_option maxRecDepth 100000
set_option maxHeartbeats 4000000
namespace FX
open PySem PySem.Spec PyProof.Rows L2 SlX
def top (i : Nat) : Stmt := PySem.Challenge.pw_landingwires_k00_errors_and_what_they_ke.main.body.getD i (.Pass ⟨0, 0, 0, 0⟩)
abbrev a_WireError (K : PySem.W.Frag) : Addr := He.ga K "WireError"
abbrev a_BadMarks (K : PySem.W.Frag) : Addr := He.ga K "BadMarks"
abbrev a_BadWires (K : PySem.W.Frag) : Addr := He.ga K "BadWires"
abbrev a_OtherWires (K : PySem.W.Frag) : Addr := He.ga K "OtherWires"
abbrev a_BadBook (K : PySem.W.Frag) : Addr := He.ga K "BadBook"
abbrev a_NoKind (K : PySem.W.Frag) : Addr := He.ga K "NoKind"
abbrev a_NoLine (K : PySem.W.Frag) : Addr := He.ga K "NoLine"
abbrev a_BadChange (K : PySem.W.Frag) : Addr := He.ga K "BadChange"
abbrev a_BadPosition (K : PySem.W.Frag) : Addr := He.ga K "BadPosition"
abbrev a_BadStanding (K : PySem.W.Frag) : Addr := He.ga K "BadStanding"
abbrev a_BadLandings (K : PySem.W.Frag) : Addr := He.ga K "BadLandings"
abbrev a_NoLanding (K : PySem.W.Frag) : Addr := He.ga K "NoLanding"
abbrev a_NoLamp (K : PySem.W.Frag) : Addr := He.ga K "NoLamp"
abbrev a_BadPlace (K : PySem.W.Frag) : Addr := He.ga K "BadPlace"
abbrev a_NoSwitch (K : PySem.W.Frag) : Addr := He.ga K "NoSwitch"
abbrev a_BadWhat (K : PySem.W.Frag) : Addr := He.ga K "BadWhat"
abbrev a_BadSwitch (K : PySem.W.Frag) : Addr := He.ga K "BadSwitch"
abbrev a_BadLamp (K : PySem.W.Frag) : Addr := He.ga K "BadLamp"
abbrev a_TooMany (K : PySem.W.Frag) : Addr := He.ga K "TooMany"
abbrev a_BadRule (K : PySem.W.Frag) : Addr := He.ga K "BadRule"
abbrev a_Unlike (K : PySem.W.Frag) : Addr := He.ga K "Unlike"
abbrev a_BadBooks (K : PySem.W.Frag) : Addr := He.ga K "BadBooks"
abbrev a_BadTrials (K : PySem.W.Frag) : Addr := He.ga K "BadTrials"
abbrev a_BadKinds (K : PySem.W.Frag) : Addr := He.ga K "BadKinds"
abbrev a_BadWord (K : PySem.W.Frag) : Addr := He.ga K "BadWord"
abbrev a_BadOffers (K : PySem.W.Frag) : Addr := He.ga K "BadOffers"
abbrev a_BadWishes (K : PySem.W.Frag) : Addr := He.ga K "BadWishes"
abbrev a_NoRoom (K : PySem.W.Frag) : Addr := He.ga K "NoRoom"
abbrev a_Empty (K : PySem.W.Frag) : Addr := He.ga K "Empty"
abbrev a_NothingToUndo (K : PySem.W.Frag) : Addr := He.ga K "NothingToUndo"
abbrev a_NothingToRedo (K : PySem.W.Frag) : Addr := He.ga K "NothingToRedo"
abbrev a_NoTrial (K : PySem.W.Frag) : Addr := He.ga K "NoTrial"
abbrev a_BadJournal (K : PySem.W.Frag) : Addr := He.ga K "BadJournal"
abbrev a_BadSay (K : PySem.W.Frag) : Addr := He.ga K "BadSay"
abbrev Pr : Program := (PySem.Challenge.rw_landingwires_k00_errors_and_what_they_ke).prog
def cA : Nat → PySem.W.Frag → Addr
  | 0 => a_WireError
  | 1 => a_BadMarks
  | 2 => a_BadWires
  | 3 => a_OtherWires
  | 4 => a_BadBook
  | 5 => a_NoKind
  | 6 => a_NoLine
  | 7 => a_BadChange
  | 8 => a_BadPosition
  | 9 => a_BadStanding
  | 10 => a_BadLandings
  | 11 => a_NoLanding
  | 12 => a_NoLamp
  | 13 => a_BadPlace
  | 14 => a_NoSwitch
  | 15 => a_BadWhat
  | 16 => a_BadSwitch
  | 17 => a_BadLamp
  | 18 => a_TooMany
  | 19 => a_BadRule
  | 20 => a_Unlike
  | 21 => a_BadBooks
  | 22 => a_BadTrials
  | 23 => a_BadKinds
  | 24 => a_BadWord
  | 25 => a_BadOffers
  | 26 => a_BadWishes
  | 27 => a_NoRoom
  | 28 => a_Empty
  | 29 => a_NothingToUndo
  | 30 => a_NothingToRedo
  | 31 => a_NoTrial
  | 32 => a_BadJournal
  | 33 => a_BadSay
  | _ => fun _ => 0
abbrev cas (K : PySem.W.Frag) : Ca := fun c => cA c K
abbrev t__law_made : Stmt := top 36
abbrev a__law_made (K : PySem.W.Frag) : Addr := (He.ga K "_law_made")
abbrev t__law_marked : Stmt := top 37
abbrev a__law_marked (K : PySem.W.Frag) : Addr := (He.ga K "_law_marked")
abbrev t__law_is_kept : Stmt := top 38
abbrev a__law_is_kept (K : PySem.W.Frag) : Addr := (He.ga K "_law_is_kept")
abbrev t_law : Stmt := top 39
abbrev a_law (K : PySem.W.Frag) : Addr := (He.ga K "law")
def ti_OtherWires : Kd → Option Bool := tbL [] [0, 1, 2, 3, 4, 5, 6, 7, 8, 9, 10, 11, 12, 13, 14, 15, 16, 17, 18, 19, 20, 21, 22, 23, 24, 25, 26, 27, 28, 29, 30, 31, 32, 33] true (tbG [] [] [3] [])
def ti_BadWires : Kd → Option Bool := tbL [] [0, 1, 2, 3, 4, 5, 6, 7, 8, 9, 10, 11, 12, 13, 14, 15, 16, 17, 18, 19, 20, 21, 22, 23, 24, 25, 26, 27, 28, 29, 30, 31, 32, 33] true (tbG [] [] [2] [])
def ti_BadMarks : Kd → Option Bool := tbL [] [0, 1, 2, 3, 4, 5, 6, 7, 8, 9, 10, 11, 12, 13, 14, 15, 16, 17, 18, 19, 20, 21, 22, 23, 24, 25, 26, 27, 28, 29, 30, 31, 32, 33] true (tbG [] [] [1] [])
def ti_NoLine : Kd → Option Bool := tbL [] [0, 1, 2, 3, 4, 5, 6, 7, 8, 9, 10, 11, 12, 13, 14, 15, 16, 17, 18, 19, 20, 21, 22, 23, 24, 25, 26, 27, 28, 29, 30, 31, 32, 33] true (tbG [] [] [6] [])
def ti_NoKind : Kd → Option Bool := tbL [] [0, 1, 2, 3, 4, 5, 6, 7, 8, 9, 10, 11, 12, 13, 14, 15, 16, 17, 18, 19, 20, 21, 22, 23, 24, 25, 26, 27, 28, 29, 30, 31, 32, 33] true (tbG [] [] [5] [])
def ti_BadBook : Kd → Option Bool := tbL [] [0, 1, 2, 3, 4, 5, 6, 7, 8, 9, 10, 11, 12, 13, 14, 15, 16, 17, 18, 19, 20, 21, 22, 23, 24, 25, 26, 27, 28, 29, 30, 31, 32, 33] true (tbG [] [] [4] [])
def ti_BadStanding : Kd → Option Bool := tbL [] [0, 1, 2, 3, 4, 5, 6, 7, 8, 9, 10, 11, 12, 13, 14, 15, 16, 17, 18, 19, 20, 21, 22, 23, 24, 25, 26, 27, 28, 29, 30, 31, 32, 33] true (tbG [] [] [9] [])
def ti_BadPosition : Kd → Option Bool := tbL [] [0, 1, 2, 3, 4, 5, 6, 7, 8, 9, 10, 11, 12, 13, 14, 15, 16, 17, 18, 19, 20, 21, 22, 23, 24, 25, 26, 27, 28, 29, 30, 31, 32, 33] true (tbG [] [] [8] [])
def ti_BadChange : Kd → Option Bool := tbL [] [0, 1, 2, 3, 4, 5, 6, 7, 8, 9, 10, 11, 12, 13, 14, 15, 16, 17, 18, 19, 20, 21, 22, 23, 24, 25, 26, 27, 28, 29, 30, 31, 32, 33] true (tbG [] [] [7] [])
def ti_NoLamp : Kd → Option Bool := tbL [] [0, 1, 2, 3, 4, 5, 6, 7, 8, 9, 10, 11, 12, 13, 14, 15, 16, 17, 18, 19, 20, 21, 22, 23, 24, 25, 26, 27, 28, 29, 30, 31, 32, 33] true (tbG [] [] [12] [])
def ti_NoLanding : Kd → Option Bool := tbL [] [0, 1, 2, 3, 4, 5, 6, 7, 8, 9, 10, 11, 12, 13, 14, 15, 16, 17, 18, 19, 20, 21, 22, 23, 24, 25, 26, 27, 28, 29, 30, 31, 32, 33] true (tbG [] [] [11] [])
def ti_BadLandings : Kd → Option Bool := tbL [] [0, 1, 2, 3, 4, 5, 6, 7, 8, 9, 10, 11, 12, 13, 14, 15, 16, 17, 18, 19, 20, 21, 22, 23, 24, 25, 26, 27, 28, 29, 30, 31, 32, 33] true (tbG [] [] [10] [])
def ti_BadWhat : Kd → Option Bool := tbL [] [0, 1, 2, 3, 4, 5, 6, 7, 8, 9, 10, 11, 12, 13, 14, 15, 16, 17, 18, 19, 20, 21, 22, 23, 24, 25, 26, 27, 28, 29, 30, 31, 32, 33] true (tbG [] [] [15] [])
def ti_NoSwitch : Kd → Option Bool := tbL [] [0, 1, 2, 3, 4, 5, 6, 7, 8, 9, 10, 11, 12, 13, 14, 15, 16, 17, 18, 19, 20, 21, 22, 23, 24, 25, 26, 27, 28, 29, 30, 31, 32, 33] true (tbG [] [] [14] [])
def ti_BadPlace : Kd → Option Bool := tbL [] [0, 1, 2, 3, 4, 5, 6, 7, 8, 9, 10, 11, 12, 13, 14, 15, 16, 17, 18, 19, 20, 21, 22, 23, 24, 25, 26, 27, 28, 29, 30, 31, 32, 33] true (tbG [] [] [13] [])
def ti_TooMany : Kd → Option Bool := tbL [] [0, 1, 2, 3, 4, 5, 6, 7, 8, 9, 10, 11, 12, 13, 14, 15, 16, 17, 18, 19, 20, 21, 22, 23, 24, 25, 26, 27, 28, 29, 30, 31, 32, 33] true (tbG [] [] [18] [])
def ti_BadLamp : Kd → Option Bool := tbL [] [0, 1, 2, 3, 4, 5, 6, 7, 8, 9, 10, 11, 12, 13, 14, 15, 16, 17, 18, 19, 20, 21, 22, 23, 24, 25, 26, 27, 28, 29, 30, 31, 32, 33] true (tbG [] [] [17] [])
def ti_BadSwitch : Kd → Option Bool := tbL [] [0, 1, 2, 3, 4, 5, 6, 7, 8, 9, 10, 11, 12, 13, 14, 15, 16, 17, 18, 19, 20, 21, 22, 23, 24, 25, 26, 27, 28, 29, 30, 31, 32, 33] true (tbG [] [] [16] [])
def ti_BadBooks : Kd → Option Bool := tbL [] [0, 1, 2, 3, 4, 5, 6, 7, 8, 9, 10, 11, 12, 13, 14, 15, 16, 17, 18, 19, 20, 21, 22, 23, 24, 25, 26, 27, 28, 29, 30, 31, 32, 33] true (tbG [] [] [21] [])
def ti_Unlike : Kd → Option Bool := tbL [] [0, 1, 2, 3, 4, 5, 6, 7, 8, 9, 10, 11, 12, 13, 14, 15, 16, 17, 18, 19, 20, 21, 22, 23, 24, 25, 26, 27, 28, 29, 30, 31, 32, 33] true (tbG [] [] [20] [])
def ti_BadRule : Kd → Option Bool := tbL [] [0, 1, 2, 3, 4, 5, 6, 7, 8, 9, 10, 11, 12, 13, 14, 15, 16, 17, 18, 19, 20, 21, 22, 23, 24, 25, 26, 27, 28, 29, 30, 31, 32, 33] true (tbG [] [] [19] [])
def ti_BadWord : Kd → Option Bool := tbL [] [0, 1, 2, 3, 4, 5, 6, 7, 8, 9, 10, 11, 12, 13, 14, 15, 16, 17, 18, 19, 20, 21, 22, 23, 24, 25, 26, 27, 28, 29, 30, 31, 32, 33] true (tbG [] [] [24] [])
def ti_BadKinds : Kd → Option Bool := tbL [] [0, 1, 2, 3, 4, 5, 6, 7, 8, 9, 10, 11, 12, 13, 14, 15, 16, 17, 18, 19, 20, 21, 22, 23, 24, 25, 26, 27, 28, 29, 30, 31, 32, 33] true (tbG [] [] [23] [])
def ti_BadTrials : Kd → Option Bool := tbL [] [0, 1, 2, 3, 4, 5, 6, 7, 8, 9, 10, 11, 12, 13, 14, 15, 16, 17, 18, 19, 20, 21, 22, 23, 24, 25, 26, 27, 28, 29, 30, 31, 32, 33] true (tbG [] [] [22] [])
def ti_NoRoom : Kd → Option Bool := tbL [] [0, 1, 2, 3, 4, 5, 6, 7, 8, 9, 10, 11, 12, 13, 14, 15, 16, 17, 18, 19, 20, 21, 22, 23, 24, 25, 26, 27, 28, 29, 30, 31, 32, 33] true (tbG [] [] [27] [])
def ti_BadWishes : Kd → Option Bool := tbL [] [0, 1, 2, 3, 4, 5, 6, 7, 8, 9, 10, 11, 12, 13, 14, 15, 16, 17, 18, 19, 20, 21, 22, 23, 24, 25, 26, 27, 28, 29, 30, 31, 32, 33] true (tbG [] [] [26] [])
def ti_BadOffers : Kd → Option Bool := tbL [] [0, 1, 2, 3, 4, 5, 6, 7, 8, 9, 10, 11, 12, 13, 14, 15, 16, 17, 18, 19, 20, 21, 22, 23, 24, 25, 26, 27, 28, 29, 30, 31, 32, 33] true (tbG [] [] [25] [])
def ti_NothingToRedo : Kd → Option Bool := tbL [] [0, 1, 2, 3, 4, 5, 6, 7, 8, 9, 10, 11, 12, 13, 14, 15, 16, 17, 18, 19, 20, 21, 22, 23, 24, 25, 26, 27, 28, 29, 30, 31, 32, 33] true (tbG [] [] [30] [])
def ti_NothingToUndo : Kd → Option Bool := tbL [] [0, 1, 2, 3, 4, 5, 6, 7, 8, 9, 10, 11, 12, 13, 14, 15, 16, 17, 18, 19, 20, 21, 22, 23, 24, 25, 26, 27, 28, 29, 30, 31, 32, 33] true (tbG [] [] [29] [])
def ti_Empty : Kd → Option Bool := tbL [] [0, 1, 2, 3, 4, 5, 6, 7, 8, 9, 10, 11, 12, 13, 14, 15, 16, 17, 18, 19, 20, 21, 22, 23, 24, 25, 26, 27, 28, 29, 30, 31, 32, 33] true (tbG [] [] [28] [])
def ti_BadSay : Kd → Option Bool := tbL [] [0, 1, 2, 3, 4, 5, 6, 7, 8, 9, 10, 11, 12, 13, 14, 15, 16, 17, 18, 19, 20, 21, 22, 23, 24, 25, 26, 27, 28, 29, 30, 31, 32, 33] true (tbG [] [] [33] [])
def ti_BadJournal : Kd → Option Bool := tbL [] [0, 1, 2, 3, 4, 5, 6, 7, 8, 9, 10, 11, 12, 13, 14, 15, 16, 17, 18, 19, 20, 21, 22, 23, 24, 25, 26, 27, 28, 29, 30, 31, 32, 33] true (tbG [] [] [32] [])
def ti_NoTrial : Kd → Option Bool := tbL [] [0, 1, 2, 3, 4, 5, 6, 7, 8, 9, 10, 11, 12, 13, 14, 15, 16, 17, 18, 19, 20, 21, 22, 23, 24, 25, 26, 27, 28, 29, 30, 31, 32, 33] true (tbG [] [] [31] [])
def ti_WireError : Kd → Option Bool := tbL [] [0, 1, 2, 3, 4, 5, 6, 7, 8, 9, 10, 11, 12, 13, 14, 15, 16, 17, 18, 19, 20, 21, 22, 23, 24, 25, 26, 27, 28, 29, 30, 31, 32, 33] true (tbG [] [] [0, 1, 2, 3, 4, 5, 6, 7, 8, 9, 10, 11, 12, 13, 14, 15, 16, 17, 18, 19, 20, 21, 22, 23, 24, 25, 26, 27, 28, 29, 30, 31, 32, 33] [])
def ti_ValueError : Kd → Option Bool := tbL [] [0, 1, 2, 3, 4, 5, 6, 7, 8, 9, 10, 11, 12, 13, 14, 15, 16, 17, 18, 19, 20, 21, 22, 23, 24, 25, 26, 27, 28, 29, 30, 31, 32, 33] true (tbG [] [] [0, 1, 2, 3, 4, 5, 6, 7, 8, 9, 10, 11, 12, 13, 14, 15, 16, 17, 18, 19, 20, 21, 22, 23, 24, 25, 26, 27, 28, 29, 30, 31, 32, 33] ["ValueError"])
theorem bo_int : bootBuiltins "int" = some (.type "int") := by decide +kernel
theorem bo_str : bootBuiltins "str" = some (.type "str") := by decide +kernel
theorem bo_all : bootBuiltins "all" = some (.builtin "all") := by decide +kernel
theorem bo_repr : bootBuiltins "repr" = some (.builtin "repr") := by decide +kernel
theorem bo_ValueError : bootBuiltins "ValueError" = some (.type "ValueError") := by decide +kernel
structure Wd (P : Program) (K : PySem.W.Frag) (mg : Str → Option Value) : Prop where
  d__law_made : ∃ fd, FunD K "_law_made" "_law_made" (defArgs t__law_made) (defBody t__law_made) (defScope t__law_made) [] [] (a__law_made K) fd
  d__law_marked : ∃ fd, FunD K "_law_marked" "_law_marked" (defArgs t__law_marked) (defBody t__law_marked) (defScope t__law_marked) [] [] (a__law_marked K) fd
  d__law_is_kept : ∃ fd, FunD K "_law_is_kept" "_law_is_kept" (defArgs t__law_is_kept) (defBody t__law_is_kept) (defScope t__law_is_kept) [] [] (a__law_is_kept K) fd
  d_law : ∃ fd, FunD K "law" "law" (defArgs t_law) (defBody t_law) (defScope t_law) [] [] (a_law K) fd
  g_NoLine : mg "NoLine" = some (.ref (a_NoLine K))
  g_NoKind : mg "NoKind" = some (.ref (a_NoKind K))
  g_BadBook : mg "BadBook" = some (.ref (a_BadBook K))
  g_OtherWires : mg "OtherWires" = some (.ref (a_OtherWires K))
  g_BadWires : mg "BadWires" = some (.ref (a_BadWires K))
  g_BadMarks : mg "BadMarks" = some (.ref (a_BadMarks K))
  g_BadStanding : mg "BadStanding" = some (.ref (a_BadStanding K))
  g_BadPosition : mg "BadPosition" = some (.ref (a_BadPosition K))
  g_BadChange : mg "BadChange" = some (.ref (a_BadChange K))
  g_NoLamp : mg "NoLamp" = some (.ref (a_NoLamp K))
  g_NoLanding : mg "NoLanding" = some (.ref (a_NoLanding K))
  g_BadLandings : mg "BadLandings" = some (.ref (a_BadLandings K))
  g_BadWhat : mg "BadWhat" = some (.ref (a_BadWhat K))
  g_NoSwitch : mg "NoSwitch" = some (.ref (a_NoSwitch K))
  g_BadPlace : mg "BadPlace" = some (.ref (a_BadPlace K))
  g_TooMany : mg "TooMany" = some (.ref (a_TooMany K))
  g_BadLamp : mg "BadLamp" = some (.ref (a_BadLamp K))
  g_BadSwitch : mg "BadSwitch" = some (.ref (a_BadSwitch K))
  g_BadBooks : mg "BadBooks" = some (.ref (a_BadBooks K))
  g_Unlike : mg "Unlike" = some (.ref (a_Unlike K))
  g_BadRule : mg "BadRule" = some (.ref (a_BadRule K))
  g_BadWord : mg "BadWord" = some (.ref (a_BadWord K))
  g_BadKinds : mg "BadKinds" = some (.ref (a_BadKinds K))
  g_BadTrials : mg "BadTrials" = some (.ref (a_BadTrials K))
  g_NoRoom : mg "NoRoom" = some (.ref (a_NoRoom K))
  g_BadWishes : mg "BadWishes" = some (.ref (a_BadWishes K))
  g_BadOffers : mg "BadOffers" = some (.ref (a_BadOffers K))
  g_NothingToRedo : mg "NothingToRedo" = some (.ref (a_NothingToRedo K))
  g_NothingToUndo : mg "NothingToUndo" = some (.ref (a_NothingToUndo K))
  g_Empty : mg "Empty" = some (.ref (a_Empty K))
  g_BadSay : mg "BadSay" = some (.ref (a_BadSay K))
  g_BadJournal : mg "BadJournal" = some (.ref (a_BadJournal K))
  g_NoTrial : mg "NoTrial" = some (.ref (a_NoTrial K))
  g__law_made : mg "_law_made" = some (.ref (a__law_made K))
  g__law_marked : mg "_law_marked" = some (.ref (a__law_marked K))
  g_WireError : mg "WireError" = some (.ref (a_WireError K))
  g__law_is_kept : mg "_law_is_kept" = some (.ref (a__law_is_kept K))
  b_int : mg "int" = none
  b_str : mg "str" = none
  b_all : mg "all" = none
  b_enumerate : mg "enumerate" = none
  b_isinstance : mg "isinstance" = none
  b_range : mg "range" = none
  b_repr : mg "repr" = none
  b_ValueError : mg "ValueError" = none
  x_NoLine : Mx P K mg (cas K 6)
  x_NoKind : Mx P K mg (cas K 5)
  x_BadBook : Mx P K mg (cas K 4)
  x_OtherWires : Mx P K mg (cas K 3)
  x_BadWires : Mx P K mg (cas K 2)
  x_BadMarks : Mx P K mg (cas K 1)
  x_BadStanding : Mx P K mg (cas K 9)
  x_BadPosition : Mx P K mg (cas K 8)
  x_BadChange : Mx P K mg (cas K 7)
  x_NoLamp : Mx P K mg (cas K 12)
  x_NoLanding : Mx P K mg (cas K 11)
  x_BadLandings : Mx P K mg (cas K 10)
  x_BadWhat : Mx P K mg (cas K 15)
  x_NoSwitch : Mx P K mg (cas K 14)
  x_BadPlace : Mx P K mg (cas K 13)
  x_TooMany : Mx P K mg (cas K 18)
  x_BadLamp : Mx P K mg (cas K 17)
  x_BadSwitch : Mx P K mg (cas K 16)
  x_BadBooks : Mx P K mg (cas K 21)
  x_Unlike : Mx P K mg (cas K 20)
  x_BadRule : Mx P K mg (cas K 19)
  x_BadWord : Mx P K mg (cas K 24)
  x_BadKinds : Mx P K mg (cas K 23)
  x_BadTrials : Mx P K mg (cas K 22)
  x_NoRoom : Mx P K mg (cas K 27)
  x_BadWishes : Mx P K mg (cas K 26)
  x_BadOffers : Mx P K mg (cas K 25)
  x_NothingToRedo : Mx P K mg (cas K 30)
  x_NothingToUndo : Mx P K mg (cas K 29)
  x_Empty : Mx P K mg (cas K 28)
  x_BadSay : Mx P K mg (cas K 33)
  x_BadJournal : Mx P K mg (cas K 32)
  x_NoTrial : Mx P K mg (cas K 31)
  x_WireError : Mx P K mg (cas K 0)
  xs : ∀ c ∈ ([0, 1, 2, 3, 4, 5, 6, 7, 8, 9, 10, 11, 12, 13, 14, 15, 16, 17, 18, 19, 20, 21, 22, 23, 24, 25, 26, 27, 28, 29, 30, 31, 32, 33] : List Nat), Xcl K (cas K c)
  i_OtherWires : KdF K (cas K) (.ref (a_OtherWires K)) ti_OtherWires
  i_BadWires : KdF K (cas K) (.ref (a_BadWires K)) ti_BadWires
  i_BadMarks : KdF K (cas K) (.ref (a_BadMarks K)) ti_BadMarks
  i_NoLine : KdF K (cas K) (.ref (a_NoLine K)) ti_NoLine
  i_NoKind : KdF K (cas K) (.ref (a_NoKind K)) ti_NoKind
  i_BadBook : KdF K (cas K) (.ref (a_BadBook K)) ti_BadBook
  i_BadStanding : KdF K (cas K) (.ref (a_BadStanding K)) ti_BadStanding
  i_BadPosition : KdF K (cas K) (.ref (a_BadPosition K)) ti_BadPosition
  i_BadChange : KdF K (cas K) (.ref (a_BadChange K)) ti_BadChange
  i_NoLamp : KdF K (cas K) (.ref (a_NoLamp K)) ti_NoLamp
  i_NoLanding : KdF K (cas K) (.ref (a_NoLanding K)) ti_NoLanding
  i_BadLandings : KdF K (cas K) (.ref (a_BadLandings K)) ti_BadLandings
  i_BadWhat : KdF K (cas K) (.ref (a_BadWhat K)) ti_BadWhat
  i_NoSwitch : KdF K (cas K) (.ref (a_NoSwitch K)) ti_NoSwitch
  i_BadPlace : KdF K (cas K) (.ref (a_BadPlace K)) ti_BadPlace
  i_TooMany : KdF K (cas K) (.ref (a_TooMany K)) ti_TooMany
  i_BadLamp : KdF K (cas K) (.ref (a_BadLamp K)) ti_BadLamp
  i_BadSwitch : KdF K (cas K) (.ref (a_BadSwitch K)) ti_BadSwitch
  i_BadBooks : KdF K (cas K) (.ref (a_BadBooks K)) ti_BadBooks
  i_Unlike : KdF K (cas K) (.ref (a_Unlike K)) ti_Unlike
  i_BadRule : KdF K (cas K) (.ref (a_BadRule K)) ti_BadRule
  i_BadWord : KdF K (cas K) (.ref (a_BadWord K)) ti_BadWord
  i_BadKinds : KdF K (cas K) (.ref (a_BadKinds K)) ti_BadKinds
  i_BadTrials : KdF K (cas K) (.ref (a_BadTrials K)) ti_BadTrials
  i_NoRoom : KdF K (cas K) (.ref (a_NoRoom K)) ti_NoRoom
  i_BadWishes : KdF K (cas K) (.ref (a_BadWishes K)) ti_BadWishes
  i_BadOffers : KdF K (cas K) (.ref (a_BadOffers K)) ti_BadOffers
  i_NothingToRedo : KdF K (cas K) (.ref (a_NothingToRedo K)) ti_NothingToRedo
  i_NothingToUndo : KdF K (cas K) (.ref (a_NothingToUndo K)) ti_NothingToUndo
  i_Empty : KdF K (cas K) (.ref (a_Empty K)) ti_Empty
  i_BadSay : KdF K (cas K) (.ref (a_BadSay K)) ti_BadSay
  i_BadJournal : KdF K (cas K) (.ref (a_BadJournal K)) ti_BadJournal
  i_NoTrial : KdF K (cas K) (.ref (a_NoTrial K)) ti_NoTrial
  i_WireError : KdF K (cas K) (.ref (a_WireError K)) ti_WireError
  i_ValueError : KdF K (cas K) (.type "ValueError") ti_ValueError
def N__law_made : List Str := ["_law_value", "_law_found"]
theorem sc__law_made : FnScope N__law_made ["_law_value"] (defScope t__law_made) := ⟨rfl, rfl, rfl, by decide +kernel, rfl, by decide +kernel, by decide +kernel⟩
def N__law_marked : List Str := ["_law_error", "_law_found"]
theorem sc__law_marked : FnScope N__law_marked ["_law_error"] (defScope t__law_marked) := ⟨rfl, rfl, rfl, by decide +kernel, rfl, by decide +kernel, by decide +kernel⟩
def N__law_is_kept : List Str := ["_law_value", "_law_number", "_law_error", "_law_at", "_law_base"]
theorem sc__law_is_kept : FnScope N__law_is_kept ["_law_value"] (defScope t__law_is_kept) := ⟨rfl, rfl, rfl, by decide +kernel, rfl, by decide +kernel, by decide +kernel⟩
def N_law : List Str := ["_law_script", "_law_cell", "_law_some", "_law_value"]
theorem sc_law : FnScope N_law ["_law_script"] (defScope t_law) := ⟨rfl, rfl, rfl, by decide +kernel, rfl, by decide +kernel, by decide +kernel⟩
def s__law_made : SF := sSeq (sAsg (eLst (aCons (eApp (mExo 1) (aCons (eVar 0) (aNil))) (aCons (eApp (mExo 2) (aCons (eVar 0) (aNil))) (aCons (eApp (mExo 3) (aCons (eVar 0) (aNil))) (aCons (eApp (mExo 4) (aCons (eVar 0) (aNil))) (aCons (eApp (mExo 5) (aCons (eVar 0) (aNil))) (aCons (eApp (mExo 6) (aCons (eVar 0) (aNil))) (aNil)))))))) (gSet 1)) (sSeq (sExp (eBm ckLst mExt (eVar 1) (aCons (eLst (aCons (eApp (mExo 7) (aCons (eVar 0) (aNil))) (aCons (eApp (mExo 8) (aCons (eVar 0) (aNil))) (aCons (eApp (mExo 9) (aCons (eVar 0) (aNil))) (aNil))))) (aNil)))) (sSeq (sExp (eBm ckLst mExt (eVar 1) (aCons (eLst (aCons (eApp (mExo 10) (aCons (eVar 0) (aNil))) (aCons (eApp (mExo 11) (aCons (eVar 0) (aNil))) (aCons (eApp (mExo 12) (aCons (eVar 0) (aNil))) (aNil))))) (aNil)))) (sSeq (sExp (eBm ckLst mExt (eVar 1) (aCons (eLst (aCons (eApp (mExo 13) (aCons (eVar 0) (aNil))) (aCons (eApp (mExo 14) (aCons (eVar 0) (aNil))) (aCons (eApp (mExo 15) (aCons (eVar 0) (aNil))) (aNil))))) (aNil)))) (sSeq (sExp (eBm ckLst mExt (eVar 1) (aCons (eLst (aCons (eApp (mExo 16) (aCons (eVar 0) (aNil))) (aCons (eApp (mExo 17) (aCons (eVar 0) (aNil))) (aCons (eApp (mExo 18) (aCons (eVar 0) (aNil))) (aNil))))) (aNil)))) (sSeq (sExp (eBm ckLst mExt (eVar 1) (aCons (eLst (aCons (eApp (mExo 19) (aCons (eVar 0) (aNil))) (aCons (eApp (mExo 20) (aCons (eVar 0) (aNil))) (aCons (eApp (mExo 21) (aCons (eVar 0) (aNil))) (aNil))))) (aNil)))) (sSeq (sExp (eBm ckLst mExt (eVar 1) (aCons (eLst (aCons (eApp (mExo 22) (aCons (eVar 0) (aNil))) (aCons (eApp (mExo 23) (aCons (eVar 0) (aNil))) (aCons (eApp (mExo 24) (aCons (eVar 0) (aNil))) (aNil))))) (aNil)))) (sSeq (sExp (eBm ckLst mExt (eVar 1) (aCons (eLst (aCons (eApp (mExo 25) (aCons (eVar 0) (aNil))) (aCons (eApp (mExo 26) (aCons (eVar 0) (aNil))) (aCons (eApp (mExo 27) (aCons (eVar 0) (aNil))) (aNil))))) (aNil)))) (sSeq (sExp (eBm ckLst mExt (eVar 1) (aCons (eLst (aCons (eApp (mExo 28) (aCons (eVar 0) (aNil))) (aCons (eApp (mExo 29) (aCons (eVar 0) (aNil))) (aCons (eApp (mExo 30) (aCons (eVar 0) (aNil))) (aNil))))) (aNil)))) (sSeq (sExp (eBm ckLst mExt (eVar 1) (aCons (eLst (aCons (eApp (mExo 31) (aCons (eVar 0) (aNil))) (aCons (eApp (mExo 32) (aCons (eVar 0) (aNil))) (aCons (eApp (mExo 33) (aCons (eVar 0) (aNil))) (aNil))))) (aNil)))) (sRet (eVar 1)))))))))))
def F__law_made : FF := defB 2 1 [] s__law_made
def s__law_marked : SF := sSeq (sAsg (eLst (aCons (eUn (isiT ti_BadMarks) (eVar 0)) (aCons (eUn (isiT ti_BadWires) (eVar 0)) (aCons (eUn (isiT ti_OtherWires) (eVar 0)) (aNil))))) (gSet 1)) (sSeq (sExp (eBm ckLst mExt (eVar 1) (aCons (eLst (aCons (eUn (isiT ti_BadBook) (eVar 0)) (aCons (eUn (isiT ti_NoKind) (eVar 0)) (aCons (eUn (isiT ti_NoLine) (eVar 0)) (aNil))))) (aNil)))) (sSeq (sExp (eBm ckLst mExt (eVar 1) (aCons (eLst (aCons (eUn (isiT ti_BadChange) (eVar 0)) (aCons (eUn (isiT ti_BadPosition) (eVar 0)) (aCons (eUn (isiT ti_BadStanding) (eVar 0)) (aNil))))) (aNil)))) (sSeq (sExp (eBm ckLst mExt (eVar 1) (aCons (eLst (aCons (eUn (isiT ti_BadLandings) (eVar 0)) (aCons (eUn (isiT ti_NoLanding) (eVar 0)) (aCons (eUn (isiT ti_NoLamp) (eVar 0)) (aNil))))) (aNil)))) (sSeq (sExp (eBm ckLst mExt (eVar 1) (aCons (eLst (aCons (eUn (isiT ti_BadPlace) (eVar 0)) (aCons (eUn (isiT ti_NoSwitch) (eVar 0)) (aCons (eUn (isiT ti_BadWhat) (eVar 0)) (aNil))))) (aNil)))) (sSeq (sExp (eBm ckLst mExt (eVar 1) (aCons (eLst (aCons (eUn (isiT ti_BadSwitch) (eVar 0)) (aCons (eUn (isiT ti_BadLamp) (eVar 0)) (aCons (eUn (isiT ti_TooMany) (eVar 0)) (aNil))))) (aNil)))) (sSeq (sExp (eBm ckLst mExt (eVar 1) (aCons (eLst (aCons (eUn (isiT ti_BadRule) (eVar 0)) (aCons (eUn (isiT ti_Unlike) (eVar 0)) (aCons (eUn (isiT ti_BadBooks) (eVar 0)) (aNil))))) (aNil)))) (sSeq (sExp (eBm ckLst mExt (eVar 1) (aCons (eLst (aCons (eUn (isiT ti_BadTrials) (eVar 0)) (aCons (eUn (isiT ti_BadKinds) (eVar 0)) (aCons (eUn (isiT ti_BadWord) (eVar 0)) (aNil))))) (aNil)))) (sSeq (sExp (eBm ckLst mExt (eVar 1) (aCons (eLst (aCons (eUn (isiT ti_BadOffers) (eVar 0)) (aCons (eUn (isiT ti_BadWishes) (eVar 0)) (aCons (eUn (isiT ti_NoRoom) (eVar 0)) (aNil))))) (aNil)))) (sSeq (sExp (eBm ckLst mExt (eVar 1) (aCons (eLst (aCons (eUn (isiT ti_Empty) (eVar 0)) (aCons (eUn (isiT ti_NothingToUndo) (eVar 0)) (aCons (eUn (isiT ti_NothingToRedo) (eVar 0)) (aNil))))) (aNil)))) (sSeq (sExp (eBm ckLst mExt (eVar 1) (aCons (eLst (aCons (eUn (isiT ti_NoTrial) (eVar 0)) (aCons (eUn (isiT ti_BadJournal) (eVar 0)) (aCons (eUn (isiT ti_BadSay) (eVar 0)) (aNil))))) (aNil)))) (sRet (eVar 1))))))))))))
def F__law_marked : FF := defB 2 1 [] s__law_marked
def s__law_is_kept : SF := sSeq (sFor (iEnu (eApp F__law_made (aCons (eVar 0) (aNil)))) (gTupl 2 [gSet 1, gSet 2]) (sSeq (sIf (tOo (tCm pNeD (eApp F__law_marked (aCons (eVar 2) (aNil))) (eLc (iRg1 (eC (.int 33))) [3] (gSet 3) (tYes) (eOp pEqD (eVar 3) (eVar 1)))) (tCm pNeD (eApp pRepr (aCons (eUn (atVal [0, 1, 2, 3, 4, 5, 6, 7, 8, 9, 10, 11, 12, 13, 14, 15, 16, 17, 18, 19, 20, 21, 22, 23, 24, 25, 26, 27, 28, 29, 30, 31, 32, 33]) (eVar 2)) (aNil))) (eApp pRepr (aCons (eVar 0) (aNil))))) (sRet (eC (.bl false))) (sPass)) (sIf (tOo (tNo (tOf (eUn (isiT ti_WireError) (eVar 2)))) (tNo (tOf (eUn (isiT ti_ValueError) (eVar 2))))) (sRet (eC (.bl false))) (sPass)))) (sSeq (sAsg (eApp (mExo 0) (aCons (eVar 0) (aNil))) (gSet 4)) (sSeq (sIf (tOo (tCm pNeD (eApp pRepr (aCons (eUn (atVal [0, 1, 2, 3, 4, 5, 6, 7, 8, 9, 10, 11, 12, 13, 14, 15, 16, 17, 18, 19, 20, 21, 22, 23, 24, 25, 26, 27, 28, 29, 30, 31, 32, 33]) (eVar 4)) (aNil))) (eApp pRepr (aCons (eVar 0) (aNil)))) (tOo (tCm (pInS false) (eC (.bl true)) (eApp F__law_marked (aCons (eVar 4) (aNil)))) (tNo (tOf (eUn (isiT ti_ValueError) (eVar 4)))))) (sRet (eC (.bl false))) (sPass)) (sRet (eOp (pInS true) (eC (.bl true)) (eApp F__law_marked (aCons (eApp (mBxo "ValueError") (aCons (eVar 0) (aNil))) (aNil)))))))
def F__law_is_kept : FF := defB 5 1 [] s__law_is_kept
def s_law : SF := sSeq (sAsg (eOp pMod (eApp pInt (aCons (eIf (tCm pNeD (eVar 0) (eLst (aNil))) (eOp pIx (eVar 0) (eC (.int 0))) (eC (.int 0))) (aNil))) (eOp pPow (eC (.int 10)) (eC (.int 9)))) (gSet 1)) (sSeq (sAsg (eLst (aCons (eC .non) (aCons (eVar 1) (aCons (eUn pNeg (eVar 1)) (aCons (eC (.bl true)) (aCons (eOp pAdd (eC (.str [116, 101, 120, 116, 32])) (eApp pStr (aCons (eVar 1) (aNil)))) (aCons (eTup (aCons (eVar 1) (aCons (eC (.str [97])) (aNil)))) (aCons (eLst (aCons (eVar 1) (aNil))) (aCons (eDsp [(eC (.str [97]), eVar 1)]) (aCons (eTup (aNil)) (aCons (eTup (aCons (eTup (aCons (eVar 1) (aCons (eC .non) (aNil)))) (aCons (eLst (aNil)) (aNil)))) (aNil)))))))))))) (gSet 2)) (sRet (eApp pAll (aCons (eLc (iSeq (eVar 2)) [3] (gSet 3) (tYes) (eApp F__law_is_kept (aCons (eVar 3) (aNil)))) (aNil)))))
def F_law : FF := defB 4 1 [] s_law
section
variable {P : Program} {w : World} {K : PySem.W.Frag} {mg : Str → Option Value} {base : Heap}
theorem ok__law_made (e : Wd P K mg) : FnX P w K mg base (cas K) 3 (a__law_made K) F__law_made := by
  obtain ⟨fd, F⟩ := e.d__law_made
  refine fnX_of (N := N__law_made) (ps := ["_law_value"]) (m := 1) (dxs := []) F sc__law_made (F.bindsN fun _ _ _ _ _ _ us hl => match us, hl with | [_], _ => rfl) .nil (fun _ _ => .nil) rfl fun cdv A outer s H E hr tk po => ?_
  have hu2 := room65 hr
  have hu := hr.units
  have hu1 := Nat.lt_of_le_of_lt (Nat.add_le_add_left (show 1 ≤ 64 by decide) _) hu
  exact (pxss_cons (pxs_set 1 sc__law_made.nd (px_lst (pxa_cons (px_mkE (c := 1) e.x_BadMarks (hr.mono (by decide)) tk rfl e.g_BadMarks (pxa_cons (px_var 0) pxa_nil)) (pxa_cons (px_mkE (c := 2) e.x_BadWires (hr.mono (by decide)) tk rfl e.g_BadWires (pxa_cons (px_var 0) pxa_nil)) (pxa_cons (px_mkE (c := 3) e.x_OtherWires (hr.mono (by decide)) tk rfl e.g_OtherWires (pxa_cons (px_var 0) pxa_nil)) (pxa_cons (px_mkE (c := 4) e.x_BadBook (hr.mono (by decide)) tk rfl e.g_BadBook (pxa_cons (px_var 0) pxa_nil)) (pxa_cons (px_mkE (c := 5) e.x_NoKind (hr.mono (by decide)) tk rfl e.g_NoKind (pxa_cons (px_var 0) pxa_nil)) (pxa_cons (px_mkE (c := 6) e.x_NoLine (hr.mono (by decide)) tk rfl e.g_NoLine (pxa_cons (px_var 0) pxa_nil)) pxa_nil))))))))
      (pxss_cons (pxs_expr (px_bm PySem.F.plainAttrs_list PySem.F.slot_list_extend PySem.F.type_list_extend (fun _ _ _ _ _ _ _ A r P => ckLst_ok A r P) ca_extend (px_var 1) (pxa_cons (px_lst (pxa_cons (px_mkE (c := 7) e.x_BadChange (hr.mono (by decide)) tk rfl e.g_BadChange (pxa_cons (px_var 0) pxa_nil)) (pxa_cons (px_mkE (c := 8) e.x_BadPosition (hr.mono (by decide)) tk rfl e.g_BadPosition (pxa_cons (px_var 0) pxa_nil)) (pxa_cons (px_mkE (c := 9) e.x_BadStanding (hr.mono (by decide)) tk rfl e.g_BadStanding (pxa_cons (px_var 0) pxa_nil)) pxa_nil)))) pxa_nil)))
      (pxss_cons (pxs_expr (px_bm PySem.F.plainAttrs_list PySem.F.slot_list_extend PySem.F.type_list_extend (fun _ _ _ _ _ _ _ A r P => ckLst_ok A r P) ca_extend (px_var 1) (pxa_cons (px_lst (pxa_cons (px_mkE (c := 10) e.x_BadLandings (hr.mono (by decide)) tk rfl e.g_BadLandings (pxa_cons (px_var 0) pxa_nil)) (pxa_cons (px_mkE (c := 11) e.x_NoLanding (hr.mono (by decide)) tk rfl e.g_NoLanding (pxa_cons (px_var 0) pxa_nil)) (pxa_cons (px_mkE (c := 12) e.x_NoLamp (hr.mono (by decide)) tk rfl e.g_NoLamp (pxa_cons (px_var 0) pxa_nil)) pxa_nil)))) pxa_nil)))
      (pxss_cons (pxs_expr (px_bm PySem.F.plainAttrs_list PySem.F.slot_list_extend PySem.F.type_list_extend (fun _ _ _ _ _ _ _ A r P => ckLst_ok A r P) ca_extend (px_var 1) (pxa_cons (px_lst (pxa_cons (px_mkE (c := 13) e.x_BadPlace (hr.mono (by decide)) tk rfl e.g_BadPlace (pxa_cons (px_var 0) pxa_nil)) (pxa_cons (px_mkE (c := 14) e.x_NoSwitch (hr.mono (by decide)) tk rfl e.g_NoSwitch (pxa_cons (px_var 0) pxa_nil)) (pxa_cons (px_mkE (c := 15) e.x_BadWhat (hr.mono (by decide)) tk rfl e.g_BadWhat (pxa_cons (px_var 0) pxa_nil)) pxa_nil)))) pxa_nil)))
      (pxss_cons (pxs_expr (px_bm PySem.F.plainAttrs_list PySem.F.slot_list_extend PySem.F.type_list_extend (fun _ _ _ _ _ _ _ A r P => ckLst_ok A r P) ca_extend (px_var 1) (pxa_cons (px_lst (pxa_cons (px_mkE (c := 16) e.x_BadSwitch (hr.mono (by decide)) tk rfl e.g_BadSwitch (pxa_cons (px_var 0) pxa_nil)) (pxa_cons (px_mkE (c := 17) e.x_BadLamp (hr.mono (by decide)) tk rfl e.g_BadLamp (pxa_cons (px_var 0) pxa_nil)) (pxa_cons (px_mkE (c := 18) e.x_TooMany (hr.mono (by decide)) tk rfl e.g_TooMany (pxa_cons (px_var 0) pxa_nil)) pxa_nil)))) pxa_nil)))
      (pxss_cons (pxs_expr (px_bm PySem.F.plainAttrs_list PySem.F.slot_list_extend PySem.F.type_list_extend (fun _ _ _ _ _ _ _ A r P => ckLst_ok A r P) ca_extend (px_var 1) (pxa_cons (px_lst (pxa_cons (px_mkE (c := 19) e.x_BadRule (hr.mono (by decide)) tk rfl e.g_BadRule (pxa_cons (px_var 0) pxa_nil)) (pxa_cons (px_mkE (c := 20) e.x_Unlike (hr.mono (by decide)) tk rfl e.g_Unlike (pxa_cons (px_var 0) pxa_nil)) (pxa_cons (px_mkE (c := 21) e.x_BadBooks (hr.mono (by decide)) tk rfl e.g_BadBooks (pxa_cons (px_var 0) pxa_nil)) pxa_nil)))) pxa_nil)))
      (pxss_cons (pxs_expr (px_bm PySem.F.plainAttrs_list PySem.F.slot_list_extend PySem.F.type_list_extend (fun _ _ _ _ _ _ _ A r P => ckLst_ok A r P) ca_extend (px_var 1) (pxa_cons (px_lst (pxa_cons (px_mkE (c := 22) e.x_BadTrials (hr.mono (by decide)) tk rfl e.g_BadTrials (pxa_cons (px_var 0) pxa_nil)) (pxa_cons (px_mkE (c := 23) e.x_BadKinds (hr.mono (by decide)) tk rfl e.g_BadKinds (pxa_cons (px_var 0) pxa_nil)) (pxa_cons (px_mkE (c := 24) e.x_BadWord (hr.mono (by decide)) tk rfl e.g_BadWord (pxa_cons (px_var 0) pxa_nil)) pxa_nil)))) pxa_nil)))
      (pxss_cons (pxs_expr (px_bm PySem.F.plainAttrs_list PySem.F.slot_list_extend PySem.F.type_list_extend (fun _ _ _ _ _ _ _ A r P => ckLst_ok A r P) ca_extend (px_var 1) (pxa_cons (px_lst (pxa_cons (px_mkE (c := 25) e.x_BadOffers (hr.mono (by decide)) tk rfl e.g_BadOffers (pxa_cons (px_var 0) pxa_nil)) (pxa_cons (px_mkE (c := 26) e.x_BadWishes (hr.mono (by decide)) tk rfl e.g_BadWishes (pxa_cons (px_var 0) pxa_nil)) (pxa_cons (px_mkE (c := 27) e.x_NoRoom (hr.mono (by decide)) tk rfl e.g_NoRoom (pxa_cons (px_var 0) pxa_nil)) pxa_nil)))) pxa_nil)))
      (pxss_cons (pxs_expr (px_bm PySem.F.plainAttrs_list PySem.F.slot_list_extend PySem.F.type_list_extend (fun _ _ _ _ _ _ _ A r P => ckLst_ok A r P) ca_extend (px_var 1) (pxa_cons (px_lst (pxa_cons (px_mkE (c := 28) e.x_Empty (hr.mono (by decide)) tk rfl e.g_Empty (pxa_cons (px_var 0) pxa_nil)) (pxa_cons (px_mkE (c := 29) e.x_NothingToUndo (hr.mono (by decide)) tk rfl e.g_NothingToUndo (pxa_cons (px_var 0) pxa_nil)) (pxa_cons (px_mkE (c := 30) e.x_NothingToRedo (hr.mono (by decide)) tk rfl e.g_NothingToRedo (pxa_cons (px_var 0) pxa_nil)) pxa_nil)))) pxa_nil)))
      (pxss_cons (pxs_expr (px_bm PySem.F.plainAttrs_list PySem.F.slot_list_extend PySem.F.type_list_extend (fun _ _ _ _ _ _ _ A r P => ckLst_ok A r P) ca_extend (px_var 1) (pxa_cons (px_lst (pxa_cons (px_mkE (c := 31) e.x_NoTrial (hr.mono (by decide)) tk rfl e.g_NoTrial (pxa_cons (px_var 0) pxa_nil)) (pxa_cons (px_mkE (c := 32) e.x_BadJournal (hr.mono (by decide)) tk rfl e.g_BadJournal (pxa_cons (px_var 0) pxa_nil)) (pxa_cons (px_mkE (c := 33) e.x_BadSay (hr.mono (by decide)) tk rfl e.g_BadSay (pxa_cons (px_var 0) pxa_nil)) pxa_nil)))) pxa_nil)))
      (pxss_one (pxs_ret (px_var 1)))))))))))))
theorem ok__law_marked (e : Wd P K mg) : FnX P w K mg base (cas K) 1 (a__law_marked K) F__law_marked := by
  obtain ⟨fd, F⟩ := e.d__law_marked
  refine fnX_of (N := N__law_marked) (ps := ["_law_error"]) (m := 1) (dxs := []) F sc__law_marked (F.bindsN fun _ _ _ _ _ _ us hl => match us, hl with | [_], _ => rfl) .nil (fun _ _ => .nil) rfl fun cdv A outer s H E hr tk po => ?_
  have hu2 := room65 hr
  have hu := hr.units
  have hu1 := Nat.lt_of_le_of_lt (Nat.add_le_add_left (show 1 ≤ 64 by decide) _) hu
  exact (pxss_cons (pxs_set 1 sc__law_marked.nd (px_lst (pxa_cons (px_isi (.own _) e.i_BadMarks (px_var 0) (pe_glob rfl e.g_BadMarks rfl) rfl e.b_isinstance) (pxa_cons (px_isi (.own _) e.i_BadWires (px_var 0) (pe_glob rfl e.g_BadWires rfl) rfl e.b_isinstance) (pxa_cons (px_isi (.own _) e.i_OtherWires (px_var 0) (pe_glob rfl e.g_OtherWires rfl) rfl e.b_isinstance) pxa_nil)))))
      (pxss_cons (pxs_expr (px_bm PySem.F.plainAttrs_list PySem.F.slot_list_extend PySem.F.type_list_extend (fun _ _ _ _ _ _ _ A r P => ckLst_ok A r P) ca_extend (px_var 1) (pxa_cons (px_lst (pxa_cons (px_isi (.own _) e.i_BadBook (px_var 0) (pe_glob rfl e.g_BadBook rfl) rfl e.b_isinstance) (pxa_cons (px_isi (.own _) e.i_NoKind (px_var 0) (pe_glob rfl e.g_NoKind rfl) rfl e.b_isinstance) (pxa_cons (px_isi (.own _) e.i_NoLine (px_var 0) (pe_glob rfl e.g_NoLine rfl) rfl e.b_isinstance) pxa_nil)))) pxa_nil)))
      (pxss_cons (pxs_expr (px_bm PySem.F.plainAttrs_list PySem.F.slot_list_extend PySem.F.type_list_extend (fun _ _ _ _ _ _ _ A r P => ckLst_ok A r P) ca_extend (px_var 1) (pxa_cons (px_lst (pxa_cons (px_isi (.own _) e.i_BadChange (px_var 0) (pe_glob rfl e.g_BadChange rfl) rfl e.b_isinstance) (pxa_cons (px_isi (.own _) e.i_BadPosition (px_var 0) (pe_glob rfl e.g_BadPosition rfl) rfl e.b_isinstance) (pxa_cons (px_isi (.own _) e.i_BadStanding (px_var 0) (pe_glob rfl e.g_BadStanding rfl) rfl e.b_isinstance) pxa_nil)))) pxa_nil)))
      (pxss_cons (pxs_expr (px_bm PySem.F.plainAttrs_list PySem.F.slot_list_extend PySem.F.type_list_extend (fun _ _ _ _ _ _ _ A r P => ckLst_ok A r P) ca_extend (px_var 1) (pxa_cons (px_lst (pxa_cons (px_isi (.own _) e.i_BadLandings (px_var 0) (pe_glob rfl e.g_BadLandings rfl) rfl e.b_isinstance) (pxa_cons (px_isi (.own _) e.i_NoLanding (px_var 0) (pe_glob rfl e.g_NoLanding rfl) rfl e.b_isinstance) (pxa_cons (px_isi (.own _) e.i_NoLamp (px_var 0) (pe_glob rfl e.g_NoLamp rfl) rfl e.b_isinstance) pxa_nil)))) pxa_nil)))
      (pxss_cons (pxs_expr (px_bm PySem.F.plainAttrs_list PySem.F.slot_list_extend PySem.F.type_list_extend (fun _ _ _ _ _ _ _ A r P => ckLst_ok A r P) ca_extend (px_var 1) (pxa_cons (px_lst (pxa_cons (px_isi (.own _) e.i_BadPlace (px_var 0) (pe_glob rfl e.g_BadPlace rfl) rfl e.b_isinstance) (pxa_cons (px_isi (.own _) e.i_NoSwitch (px_var 0) (pe_glob rfl e.g_NoSwitch rfl) rfl e.b_isinstance) (pxa_cons (px_isi (.own _) e.i_BadWhat (px_var 0) (pe_glob rfl e.g_BadWhat rfl) rfl e.b_isinstance) pxa_nil)))) pxa_nil)))
      (pxss_cons (pxs_expr (px_bm PySem.F.plainAttrs_list PySem.F.slot_list_extend PySem.F.type_list_extend (fun _ _ _ _ _ _ _ A r P => ckLst_ok A r P) ca_extend (px_var 1) (pxa_cons (px_lst (pxa_cons (px_isi (.own _) e.i_BadSwitch (px_var 0) (pe_glob rfl e.g_BadSwitch rfl) rfl e.b_isinstance) (pxa_cons (px_isi (.own _) e.i_BadLamp (px_var 0) (pe_glob rfl e.g_BadLamp rfl) rfl e.b_isinstance) (pxa_cons (px_isi (.own _) e.i_TooMany (px_var 0) (pe_glob rfl e.g_TooMany rfl) rfl e.b_isinstance) pxa_nil)))) pxa_nil)))
      (pxss_cons (pxs_expr (px_bm PySem.F.plainAttrs_list PySem.F.slot_list_extend PySem.F.type_list_extend (fun _ _ _ _ _ _ _ A r P => ckLst_ok A r P) ca_extend (px_var 1) (pxa_cons (px_lst (pxa_cons (px_isi (.own _) e.i_BadRule (px_var 0) (pe_glob rfl e.g_BadRule rfl) rfl e.b_isinstance) (pxa_cons (px_isi (.own _) e.i_Unlike (px_var 0) (pe_glob rfl e.g_Unlike rfl) rfl e.b_isinstance) (pxa_cons (px_isi (.own _) e.i_BadBooks (px_var 0) (pe_glob rfl e.g_BadBooks rfl) rfl e.b_isinstance) pxa_nil)))) pxa_nil)))
      (pxss_cons (pxs_expr (px_bm PySem.F.plainAttrs_list PySem.F.slot_list_extend PySem.F.type_list_extend (fun _ _ _ _ _ _ _ A r P => ckLst_ok A r P) ca_extend (px_var 1) (pxa_cons (px_lst (pxa_cons (px_isi (.own _) e.i_BadTrials (px_var 0) (pe_glob rfl e.g_BadTrials rfl) rfl e.b_isinstance) (pxa_cons (px_isi (.own _) e.i_BadKinds (px_var 0) (pe_glob rfl e.g_BadKinds rfl) rfl e.b_isinstance) (pxa_cons (px_isi (.own _) e.i_BadWord (px_var 0) (pe_glob rfl e.g_BadWord rfl) rfl e.b_isinstance) pxa_nil)))) pxa_nil)))
      (pxss_cons (pxs_expr (px_bm PySem.F.plainAttrs_list PySem.F.slot_list_extend PySem.F.type_list_extend (fun _ _ _ _ _ _ _ A r P => ckLst_ok A r P) ca_extend (px_var 1) (pxa_cons (px_lst (pxa_cons (px_isi (.own _) e.i_BadOffers (px_var 0) (pe_glob rfl e.g_BadOffers rfl) rfl e.b_isinstance) (pxa_cons (px_isi (.own _) e.i_BadWishes (px_var 0) (pe_glob rfl e.g_BadWishes rfl) rfl e.b_isinstance) (pxa_cons (px_isi (.own _) e.i_NoRoom (px_var 0) (pe_glob rfl e.g_NoRoom rfl) rfl e.b_isinstance) pxa_nil)))) pxa_nil)))
      (pxss_cons (pxs_expr (px_bm PySem.F.plainAttrs_list PySem.F.slot_list_extend PySem.F.type_list_extend (fun _ _ _ _ _ _ _ A r P => ckLst_ok A r P) ca_extend (px_var 1) (pxa_cons (px_lst (pxa_cons (px_isi (.own _) e.i_Empty (px_var 0) (pe_glob rfl e.g_Empty rfl) rfl e.b_isinstance) (pxa_cons (px_isi (.own _) e.i_NothingToUndo (px_var 0) (pe_glob rfl e.g_NothingToUndo rfl) rfl e.b_isinstance) (pxa_cons (px_isi (.own _) e.i_NothingToRedo (px_var 0) (pe_glob rfl e.g_NothingToRedo rfl) rfl e.b_isinstance) pxa_nil)))) pxa_nil)))
      (pxss_cons (pxs_expr (px_bm PySem.F.plainAttrs_list PySem.F.slot_list_extend PySem.F.type_list_extend (fun _ _ _ _ _ _ _ A r P => ckLst_ok A r P) ca_extend (px_var 1) (pxa_cons (px_lst (pxa_cons (px_isi (.own _) e.i_NoTrial (px_var 0) (pe_glob rfl e.g_NoTrial rfl) rfl e.b_isinstance) (pxa_cons (px_isi (.own _) e.i_BadJournal (px_var 0) (pe_glob rfl e.g_BadJournal rfl) rfl e.b_isinstance) (pxa_cons (px_isi (.own _) e.i_BadSay (px_var 0) (pe_glob rfl e.g_BadSay rfl) rfl e.b_isinstance) pxa_nil)))) pxa_nil)))
      (pxss_one (pxs_ret (px_var 1))))))))))))))
theorem ok__law_is_kept (e : Wd P K mg) : FnXg P w K mg base (cas K) 4 (a__law_is_kept K) F__law_is_kept := by
  obtain ⟨fd, F⟩ := e.d__law_is_kept
  refine fnXg_of (N := N__law_is_kept) (ps := ["_law_value"]) (m := 1) (dxs := []) F sc__law_is_kept (F.bindsN fun _ _ _ _ _ _ us hl => match us, hl with | [_], _ => rfl) .nil (fun _ _ => .nil) rfl fun cdv A outer s H E hgd hr tk po => ?_
  have hu2 := room65 hr
  have hu := hr.units
  have hu1 := Nat.lt_of_le_of_lt (Nat.add_le_add_left (show 1 ≤ 64 by decide) _) hu
  exact (pxss_cons (pxs_for (vs := [1, 2]) po rfl (pxi_enum rfl e.b_enumerate (px_call ((ok__law_made e).mono (by decide)) hr tk rfl e.g__law_made (pxa_cons (px_var 0) pxa_nil))) (pxg_tupl rfl (pxgs_cons (fun _ _ _ _ _ h => h) (pxg_name 1 (by decide) sc__law_is_kept.nd) (pxgs_cons (fun _ _ _ _ _ h => h) (pxg_name 2 (by decide) sc__law_is_kept.nd) pxgs_nil))) (pxss_cons (pxs_if (pxt_w (pxw_or (pxt_cmp (om_neD hu) (px_call ((ok__law_marked e).mono (by decide)) hr tk rfl e.g__law_marked (pxa_cons (px_var 2) pxa_nil)) (px_lc (own := [("_law_at", 3)]) rfl sc__law_is_kept.nd (pxi_range1 rfl e.b_range px_int) (blkOk_by (own := [("_law_at", 3)]) (N := N__law_is_kept) (sc := defScope t__law_is_kept) (by decide +kernel)) (fun _ _ _ _ _ => (pxg_name 3 (by decide) sc__law_is_kept.nd)) (fun _ _ _ _ _ => pxts_nil) (fun _ _ _ _ _ => (px_cmp (om_eqD hu) (px_var 3) (px_var 1) (by rfl)))) (by rfl)) (pxw_or1 (pxt_cmp (om_neD hu) (px_callB (ca_repr hgd hu) rfl e.b_repr bo_repr (pxa_cons (px_attr (at_val (cs := [0, 1, 2, 3, 4, 5, 6, 7, 8, 9, 10, 11, 12, 13, 14, 15, 16, 17, 18, 19, 20, 21, 22, 23, 24, 25, 26, 27, 28, 29, 30, 31, 32, 33]) fun c hc => ⟨(e.xs c hc).xf, (e.xs c hc).no⟩) (px_var 2)) pxa_nil)) (px_callB (ca_repr hgd hu) rfl e.b_repr bo_repr (pxa_cons (px_var 0) pxa_nil)) (by rfl))))) (pxss_one (pxs_ret px_bl)) pxss_nil)
      (pxss_one (pxs_if (pxt_w (pxw_or (pxt_not (pxt_of (px_isi (.own _) e.i_WireError (px_var 2) (pe_glob rfl e.g_WireError rfl) rfl e.b_isinstance))) (pxw_or1 (pxt_not (pxt_of (px_isi (.ty _) e.i_ValueError (px_var 2) (pe_bltn rfl e.b_ValueError bo_ValueError rfl) rfl e.b_isinstance)))))) (pxss_one (pxs_ret px_bl)) pxss_nil))))
      (pxss_cons (pxs_set 4 sc__law_is_kept.nd (px_mkE (c := 0) e.x_WireError (hr.mono (by decide)) tk rfl e.g_WireError (pxa_cons (px_var 0) pxa_nil)))
      (pxss_cons (pxs_if (pxt_w (pxw_or (pxt_cmp (om_neD hu) (px_callB (ca_repr hgd hu) rfl e.b_repr bo_repr (pxa_cons (px_attr (at_val (cs := [0, 1, 2, 3, 4, 5, 6, 7, 8, 9, 10, 11, 12, 13, 14, 15, 16, 17, 18, 19, 20, 21, 22, 23, 24, 25, 26, 27, 28, 29, 30, 31, 32, 33]) fun c hc => ⟨(e.xs c hc).xf, (e.xs c hc).no⟩) (px_var 4)) pxa_nil)) (px_callB (ca_repr hgd hu) rfl e.b_repr bo_repr (pxa_cons (px_var 0) pxa_nil)) (by rfl)) (pxw_or (pxt_cmp (om_inS false hu2) px_bl (px_call ((ok__law_marked e).mono (by decide)) hr tk rfl e.g__law_marked (pxa_cons (px_var 4) pxa_nil)) (by rfl)) (pxw_or1 (pxt_not (pxt_of (px_isi (.ty _) e.i_ValueError (px_var 4) (pe_bltn rfl e.b_ValueError bo_ValueError rfl) rfl e.b_isinstance))))))) (pxss_one (pxs_ret px_bl)) pxss_nil)
      (pxss_one (pxs_ret (px_cmp (om_inS true hu2) px_bl (px_call ((ok__law_marked e).mono (by decide)) hr tk rfl e.g__law_marked (pxa_cons (px_mkB L2.exb_ValueError rfl e.b_ValueError bo_ValueError (pxa_cons (px_var 0) pxa_nil)) pxa_nil)) (by rfl)))))))
theorem ok_law (e : Wd P K mg) : FnXg P w K mg base (cas K) 5 (a_law K) F_law := by
  obtain ⟨fd, F⟩ := e.d_law
  refine fnXg_of (N := N_law) (ps := ["_law_script"]) (m := 1) (dxs := []) F sc_law (F.bindsN fun _ _ _ _ _ _ us hl => match us, hl with | [_], _ => rfl) .nil (fun _ _ => .nil) rfl fun cdv A outer s H E hgd hr tk po => ?_
  have hu2 := room65 hr
  have hu := hr.units
  have hu1 := Nat.lt_of_le_of_lt (Nat.add_le_add_left (show 1 ≤ 64 by decide) _) hu
  exact (pxss_cons (pxs_set 1 sc_law.nd (px_op om_mod (px_callT ca_int rfl e.b_int bo_int (pxa_cons (px_if (pxt_cmp (om_neD hu) (px_var 0) (px_lst pxa_nil) (by rfl)) (px_ix ixm_seq (px_var 0) px_int) px_int) pxa_nil)) (px_op om_pow px_int px_int)))
      (pxss_cons (pxs_set 2 sc_law.nd (px_lst (pxa_cons px_non (pxa_cons (px_var 1) (pxa_cons (px_un um_neg (px_var 1)) (pxa_cons px_bl (pxa_cons (px_op om_add (px_str (by rfl)) (px_callT ca_str rfl e.b_str bo_str (pxa_cons (px_var 1) pxa_nil))) (pxa_cons (px_tup (pxa_cons (px_var 1) (pxa_cons (px_str (by rfl)) pxa_nil))) (pxa_cons (px_lst (pxa_cons (px_var 1) pxa_nil)) (pxa_cons (px_dsp (.cons (px_str (by rfl)) (px_var 1) .nil)) (pxa_cons (px_tup pxa_nil) (pxa_cons (px_tup (pxa_cons (px_tup (pxa_cons (px_var 1) (pxa_cons px_non pxa_nil))) (pxa_cons (px_lst pxa_nil) pxa_nil))) pxa_nil))))))))))))
      (pxss_one (pxs_ret (px_callB (ca_all rfl) rfl e.b_all bo_all (pxa_cons (px_lc (own := [("_law_value", 3)]) rfl sc_law.nd (pxi_seq (px_var 2)) (blkOk_by (own := [("_law_value", 3)]) (N := N_law) (sc := defScope t_law) (by decide +kernel)) (fun _ _ _ _ _ => (pxg_name 3 (by decide) sc_law.nd)) (fun _ _ _ _ _ => pxts_nil) (fun _ _ _ _ _ => (px_callg ((ok__law_is_kept e).mono (by decide)) hgd hr takes0 rfl e.g__law_is_kept (pxa_cons (px_var 3) pxa_nil)))) pxa_nil))))))
end
section
variable {P : Program} {w : World} {K : PySem.W.Frag} {mg : Str → Option Value} {base : Heap}
theorem okl (e : Wd P K mg) : ∃ fd : FuncData, (∀ (s : Shared) (v : Value), BindsTo s fd ⟨[v], []⟩ [("_law_script", v)]) ∧ LawOk P w K mg (cas K) (a_law K) fd "_law_script" (spL K (cas K) N_law.length s_law 1) := by
  obtain ⟨fd, F⟩ := e.d_law
  have b := FunD.bindsA (ps := ["_law_script"]) F fun _ _ _ _ _ _ us hl => match us, hl with | [_], _ => rfl
  refine ⟨fd, fun s v => b s [v] rfl, lawOk_of (k := 4) (N := N_law) (x := "_law_script") ⟨rfl, by decide, by decide⟩ F sc_law fun base cdv A outer s H E hgd hr tk po => ?_⟩
  have hu2 := room65 hr
  have hu := hr.units
  have hu1 := Nat.lt_of_le_of_lt (Nat.add_le_add_left (show 1 ≤ 64 by decide) _) hu
  exact (pxss_cons (pxs_set 1 sc_law.nd (px_op om_mod (px_callT ca_int rfl e.b_int bo_int (pxa_cons (px_if (pxt_cmp (om_neD hu) (px_var 0) (px_lst pxa_nil) (by rfl)) (px_ix ixm_seq (px_var 0) px_int) px_int) pxa_nil)) (px_op om_pow px_int px_int)))
      (pxss_cons (pxs_set 2 sc_law.nd (px_lst (pxa_cons px_non (pxa_cons (px_var 1) (pxa_cons (px_un um_neg (px_var 1)) (pxa_cons px_bl (pxa_cons (px_op om_add (px_str (by rfl)) (px_callT ca_str rfl e.b_str bo_str (pxa_cons (px_var 1) pxa_nil))) (pxa_cons (px_tup (pxa_cons (px_var 1) (pxa_cons (px_str (by rfl)) pxa_nil))) (pxa_cons (px_lst (pxa_cons (px_var 1) pxa_nil)) (pxa_cons (px_dsp (.cons (px_str (by rfl)) (px_var 1) .nil)) (pxa_cons (px_tup pxa_nil) (pxa_cons (px_tup (pxa_cons (px_tup (pxa_cons (px_var 1) (pxa_cons px_non pxa_nil))) (pxa_cons (px_lst pxa_nil) pxa_nil))) pxa_nil))))))))))))
      (pxss_one (pxs_ret (px_callB (ca_all rfl) rfl e.b_all bo_all (pxa_cons (px_lc (own := [("_law_value", 3)]) rfl sc_law.nd (pxi_seq (px_var 2)) (blkOk_by (own := [("_law_value", 3)]) (N := N_law) (sc := defScope t_law) (by decide +kernel)) (fun _ _ _ _ _ => (pxg_name 3 (by decide) sc_law.nd)) (fun _ _ _ _ _ => pxts_nil) (fun _ _ _ _ _ => (px_callg ((ok__law_is_kept e).mono (by decide)) hgd hr takes0 rfl e.g__law_is_kept (pxa_cons (px_var 3) pxa_nil)))) pxa_nil))))))
end
abbrev lawFact : Nat := 149
def fa : List FaB := [fun K => (He.Fa.glo "NoLine").ok K,
  fun K => (He.Fa.glo "NoKind").ok K,
  fun K => (He.Fa.glo "BadBook").ok K,
  fun K => (He.Fa.glo "OtherWires").ok K,
  fun K => (He.Fa.glo "BadWires").ok K,
  fun K => (He.Fa.glo "BadMarks").ok K,
  fun K => (He.Fa.glo "BadStanding").ok K,
  fun K => (He.Fa.glo "BadPosition").ok K,
  fun K => (He.Fa.glo "BadChange").ok K,
  fun K => (He.Fa.glo "NoLamp").ok K,
  fun K => (He.Fa.glo "NoLanding").ok K,
  fun K => (He.Fa.glo "BadLandings").ok K,
  fun K => (He.Fa.glo "BadWhat").ok K,
  fun K => (He.Fa.glo "NoSwitch").ok K,
  fun K => (He.Fa.glo "BadPlace").ok K,
  fun K => (He.Fa.glo "TooMany").ok K,
  fun K => (He.Fa.glo "BadLamp").ok K,
  fun K => (He.Fa.glo "BadSwitch").ok K,
  fun K => (He.Fa.glo "BadBooks").ok K,
  fun K => (He.Fa.glo "Unlike").ok K,
  fun K => (He.Fa.glo "BadRule").ok K,
  fun K => (He.Fa.glo "BadWord").ok K,
  fun K => (He.Fa.glo "BadKinds").ok K,
  fun K => (He.Fa.glo "BadTrials").ok K,
  fun K => (He.Fa.glo "NoRoom").ok K,
  fun K => (He.Fa.glo "BadWishes").ok K,
  fun K => (He.Fa.glo "BadOffers").ok K,
  fun K => (He.Fa.glo "NothingToRedo").ok K,
  fun K => (He.Fa.glo "NothingToUndo").ok K,
  fun K => (He.Fa.glo "Empty").ok K,
  fun K => (He.Fa.glo "BadSay").ok K,
  fun K => (He.Fa.glo "BadJournal").ok K,
  fun K => (He.Fa.glo "NoTrial").ok K,
  fun K => (He.Fa.glo "_law_made").ok K,
  fun K => (He.Fa.glo "_law_marked").ok K,
  fun K => (He.Fa.glo "WireError").ok K,
  fun K => (He.Fa.glo "_law_is_kept").ok K,
  fun K => (He.Fa.free "int").ok K,
  fun K => (He.Fa.free "str").ok K,
  fun K => (He.Fa.free "all").ok K,
  fun K => (He.Fa.free "enumerate").ok K,
  fun K => (He.Fa.free "isinstance").ok K,
  fun K => (He.Fa.free "range").ok K,
  fun K => (He.Fa.free "repr").ok K,
  fun K => (He.Fa.free "ValueError").ok K,
  bXc a_WireError,
  bXc a_BadMarks,
  bXc a_BadWires,
  bXc a_OtherWires,
  bXc a_BadBook,
  bXc a_NoKind,
  bXc a_NoLine,
  bXc a_BadChange,
  bXc a_BadPosition,
  bXc a_BadStanding,
  bXc a_BadLandings,
  bXc a_NoLanding,
  bXc a_NoLamp,
  bXc a_BadPlace,
  bXc a_NoSwitch,
  bXc a_BadWhat,
  bXc a_BadSwitch,
  bXc a_BadLamp,
  bXc a_TooMany,
  bXc a_BadRule,
  bXc a_Unlike,
  bXc a_BadBooks,
  bXc a_BadTrials,
  bXc a_BadKinds,
  bXc a_BadWord,
  bXc a_BadOffers,
  bXc a_BadWishes,
  bXc a_NoRoom,
  bXc a_Empty,
  bXc a_NothingToUndo,
  bXc a_NothingToRedo,
  bXc a_NoTrial,
  bXc a_BadJournal,
  bXc a_BadSay,
  fun K => (He.Fa.free "super").ok K,
  bMx Pr a_WireError a_NoLine,
  bMx Pr a_WireError a_NoKind,
  bMx Pr a_WireError a_BadBook,
  bMx Pr a_WireError a_OtherWires,
  bMx Pr a_WireError a_BadWires,
  bMx Pr a_WireError a_BadMarks,
  bMx Pr a_WireError a_BadStanding,
  bMx Pr a_WireError a_BadPosition,
  bMx Pr a_WireError a_BadChange,
  bMx Pr a_WireError a_NoLamp,
  bMx Pr a_WireError a_NoLanding,
  bMx Pr a_WireError a_BadLandings,
  bMx Pr a_WireError a_BadWhat,
  bMx Pr a_WireError a_NoSwitch,
  bMx Pr a_WireError a_BadPlace,
  bMx Pr a_WireError a_TooMany,
  bMx Pr a_WireError a_BadLamp,
  bMx Pr a_WireError a_BadSwitch,
  bMx Pr a_WireError a_BadBooks,
  bMx Pr a_WireError a_Unlike,
  bMx Pr a_WireError a_BadRule,
  bMx Pr a_WireError a_BadWord,
  bMx Pr a_WireError a_BadKinds,
  bMx Pr a_WireError a_BadTrials,
  bMx Pr a_WireError a_NoRoom,
  bMx Pr a_WireError a_BadWishes,
  bMx Pr a_WireError a_BadOffers,
  bMx Pr a_WireError a_NothingToRedo,
  bMx Pr a_WireError a_NothingToUndo,
  bMx Pr a_WireError a_Empty,
  bMx Pr a_WireError a_BadSay,
  bMx Pr a_WireError a_BadJournal,
  bMx Pr a_WireError a_NoTrial,
  bMx Pr a_WireError a_WireError,
  bTb cA [] [0, 1, 2, 3, 4, 5, 6, 7, 8, 9, 10, 11, 12, 13, 14, 15, 16, 17, 18, 19, 20, 21, 22, 23, 24, 25, 26, 27, 28, 29, 30, 31, 32, 33] true (fun K => .ref (a_OtherWires K)) (tbG [] [] [3] []),
  bTb cA [] [0, 1, 2, 3, 4, 5, 6, 7, 8, 9, 10, 11, 12, 13, 14, 15, 16, 17, 18, 19, 20, 21, 22, 23, 24, 25, 26, 27, 28, 29, 30, 31, 32, 33] true (fun K => .ref (a_BadWires K)) (tbG [] [] [2] []),
  bTb cA [] [0, 1, 2, 3, 4, 5, 6, 7, 8, 9, 10, 11, 12, 13, 14, 15, 16, 17, 18, 19, 20, 21, 22, 23, 24, 25, 26, 27, 28, 29, 30, 31, 32, 33] true (fun K => .ref (a_BadMarks K)) (tbG [] [] [1] []),
  bTb cA [] [0, 1, 2, 3, 4, 5, 6, 7, 8, 9, 10, 11, 12, 13, 14, 15, 16, 17, 18, 19, 20, 21, 22, 23, 24, 25, 26, 27, 28, 29, 30, 31, 32, 33] true (fun K => .ref (a_NoLine K)) (tbG [] [] [6] []),
  bTb cA [] [0, 1, 2, 3, 4, 5, 6, 7, 8, 9, 10, 11, 12, 13, 14, 15, 16, 17, 18, 19, 20, 21, 22, 23, 24, 25, 26, 27, 28, 29, 30, 31, 32, 33] true (fun K => .ref (a_NoKind K)) (tbG [] [] [5] []),
  bTb cA [] [0, 1, 2, 3, 4, 5, 6, 7, 8, 9, 10, 11, 12, 13, 14, 15, 16, 17, 18, 19, 20, 21, 22, 23, 24, 25, 26, 27, 28, 29, 30, 31, 32, 33] true (fun K => .ref (a_BadBook K)) (tbG [] [] [4] []),
  bTb cA [] [0, 1, 2, 3, 4, 5, 6, 7, 8, 9, 10, 11, 12, 13, 14, 15, 16, 17, 18, 19, 20, 21, 22, 23, 24, 25, 26, 27, 28, 29, 30, 31, 32, 33] true (fun K => .ref (a_BadStanding K)) (tbG [] [] [9] []),
  bTb cA [] [0, 1, 2, 3, 4, 5, 6, 7, 8, 9, 10, 11, 12, 13, 14, 15, 16, 17, 18, 19, 20, 21, 22, 23, 24, 25, 26, 27, 28, 29, 30, 31, 32, 33] true (fun K => .ref (a_BadPosition K)) (tbG [] [] [8] []),
  bTb cA [] [0, 1, 2, 3, 4, 5, 6, 7, 8, 9, 10, 11, 12, 13, 14, 15, 16, 17, 18, 19, 20, 21, 22, 23, 24, 25, 26, 27, 28, 29, 30, 31, 32, 33] true (fun K => .ref (a_BadChange K)) (tbG [] [] [7] []),
  bTb cA [] [0, 1, 2, 3, 4, 5, 6, 7, 8, 9, 10, 11, 12, 13, 14, 15, 16, 17, 18, 19, 20, 21, 22, 23, 24, 25, 26, 27, 28, 29, 30, 31, 32, 33] true (fun K => .ref (a_NoLamp K)) (tbG [] [] [12] []),
  bTb cA [] [0, 1, 2, 3, 4, 5, 6, 7, 8, 9, 10, 11, 12, 13, 14, 15, 16, 17, 18, 19, 20, 21, 22, 23, 24, 25, 26, 27, 28, 29, 30, 31, 32, 33] true (fun K => .ref (a_NoLanding K)) (tbG [] [] [11] []),
  bTb cA [] [0, 1, 2, 3, 4, 5, 6, 7, 8, 9, 10, 11, 12, 13, 14, 15, 16, 17, 18, 19, 20, 21, 22, 23, 24, 25, 26, 27, 28, 29, 30, 31, 32, 33] true (fun K => .ref (a_BadLandings K)) (tbG [] [] [10] []),
  bTb cA [] [0, 1, 2, 3, 4, 5, 6, 7, 8, 9, 10, 11, 12, 13, 14, 15, 16, 17, 18, 19, 20, 21, 22, 23, 24, 25, 26, 27, 28, 29, 30, 31, 32, 33] true (fun K => .ref (a_BadWhat K)) (tbG [] [] [15] []),
  bTb cA [] [0, 1, 2, 3, 4, 5, 6, 7, 8, 9, 10, 11, 12, 13, 14, 15, 16, 17, 18, 19, 20, 21, 22, 23, 24, 25, 26, 27, 28, 29, 30, 31, 32, 33] true (fun K => .ref (a_NoSwitch K)) (tbG [] [] [14] []),
  bTb cA [] [0, 1, 2, 3, 4, 5, 6, 7, 8, 9, 10, 11, 12, 13, 14, 15, 16, 17, 18, 19, 20, 21, 22, 23, 24, 25, 26, 27, 28, 29, 30, 31, 32, 33] true (fun K => .ref (a_BadPlace K)) (tbG [] [] [13] []),
  bTb cA [] [0, 1, 2, 3, 4, 5, 6, 7, 8, 9, 10, 11, 12, 13, 14, 15, 16, 17, 18, 19, 20, 21, 22, 23, 24, 25, 26, 27, 28, 29, 30, 31, 32, 33] true (fun K => .ref (a_TooMany K)) (tbG [] [] [18] []),
  bTb cA [] [0, 1, 2, 3, 4, 5, 6, 7, 8, 9, 10, 11, 12, 13, 14, 15, 16, 17, 18, 19, 20, 21, 22, 23, 24, 25, 26, 27, 28, 29, 30, 31, 32, 33] true (fun K => .ref (a_BadLamp K)) (tbG [] [] [17] []),
  bTb cA [] [0, 1, 2, 3, 4, 5, 6, 7, 8, 9, 10, 11, 12, 13, 14, 15, 16, 17, 18, 19, 20, 21, 22, 23, 24, 25, 26, 27, 28, 29, 30, 31, 32, 33] true (fun K => .ref (a_BadSwitch K)) (tbG [] [] [16] []),
  bTb cA [] [0, 1, 2, 3, 4, 5, 6, 7, 8, 9, 10, 11, 12, 13, 14, 15, 16, 17, 18, 19, 20, 21, 22, 23, 24, 25, 26, 27, 28, 29, 30, 31, 32, 33] true (fun K => .ref (a_BadBooks K)) (tbG [] [] [21] []),
  bTb cA [] [0, 1, 2, 3, 4, 5, 6, 7, 8, 9, 10, 11, 12, 13, 14, 15, 16, 17, 18, 19, 20, 21, 22, 23, 24, 25, 26, 27, 28, 29, 30, 31, 32, 33] true (fun K => .ref (a_Unlike K)) (tbG [] [] [20] []),
  bTb cA [] [0, 1, 2, 3, 4, 5, 6, 7, 8, 9, 10, 11, 12, 13, 14, 15, 16, 17, 18, 19, 20, 21, 22, 23, 24, 25, 26, 27, 28, 29, 30, 31, 32, 33] true (fun K => .ref (a_BadRule K)) (tbG [] [] [19] []),
  bTb cA [] [0, 1, 2, 3, 4, 5, 6, 7, 8, 9, 10, 11, 12, 13, 14, 15, 16, 17, 18, 19, 20, 21, 22, 23, 24, 25, 26, 27, 28, 29, 30, 31, 32, 33] true (fun K => .ref (a_BadWord K)) (tbG [] [] [24] []),
  bTb cA [] [0, 1, 2, 3, 4, 5, 6, 7, 8, 9, 10, 11, 12, 13, 14, 15, 16, 17, 18, 19, 20, 21, 22, 23, 24, 25, 26, 27, 28, 29, 30, 31, 32, 33] true (fun K => .ref (a_BadKinds K)) (tbG [] [] [23] []),
  bTb cA [] [0, 1, 2, 3, 4, 5, 6, 7, 8, 9, 10, 11, 12, 13, 14, 15, 16, 17, 18, 19, 20, 21, 22, 23, 24, 25, 26, 27, 28, 29, 30, 31, 32, 33] true (fun K => .ref (a_BadTrials K)) (tbG [] [] [22] []),
  bTb cA [] [0, 1, 2, 3, 4, 5, 6, 7, 8, 9, 10, 11, 12, 13, 14, 15, 16, 17, 18, 19, 20, 21, 22, 23, 24, 25, 26, 27, 28, 29, 30, 31, 32, 33] true (fun K => .ref (a_NoRoom K)) (tbG [] [] [27] []),
  bTb cA [] [0, 1, 2, 3, 4, 5, 6, 7, 8, 9, 10, 11, 12, 13, 14, 15, 16, 17, 18, 19, 20, 21, 22, 23, 24, 25, 26, 27, 28, 29, 30, 31, 32, 33] true (fun K => .ref (a_BadWishes K)) (tbG [] [] [26] []),
  bTb cA [] [0, 1, 2, 3, 4, 5, 6, 7, 8, 9, 10, 11, 12, 13, 14, 15, 16, 17, 18, 19, 20, 21, 22, 23, 24, 25, 26, 27, 28, 29, 30, 31, 32, 33] true (fun K => .ref (a_BadOffers K)) (tbG [] [] [25] []),
  bTb cA [] [0, 1, 2, 3, 4, 5, 6, 7, 8, 9, 10, 11, 12, 13, 14, 15, 16, 17, 18, 19, 20, 21, 22, 23, 24, 25, 26, 27, 28, 29, 30, 31, 32, 33] true (fun K => .ref (a_NothingToRedo K)) (tbG [] [] [30] []),
  bTb cA [] [0, 1, 2, 3, 4, 5, 6, 7, 8, 9, 10, 11, 12, 13, 14, 15, 16, 17, 18, 19, 20, 21, 22, 23, 24, 25, 26, 27, 28, 29, 30, 31, 32, 33] true (fun K => .ref (a_NothingToUndo K)) (tbG [] [] [29] []),
  bTb cA [] [0, 1, 2, 3, 4, 5, 6, 7, 8, 9, 10, 11, 12, 13, 14, 15, 16, 17, 18, 19, 20, 21, 22, 23, 24, 25, 26, 27, 28, 29, 30, 31, 32, 33] true (fun K => .ref (a_Empty K)) (tbG [] [] [28] []),
  bTb cA [] [0, 1, 2, 3, 4, 5, 6, 7, 8, 9, 10, 11, 12, 13, 14, 15, 16, 17, 18, 19, 20, 21, 22, 23, 24, 25, 26, 27, 28, 29, 30, 31, 32, 33] true (fun K => .ref (a_BadSay K)) (tbG [] [] [33] []),
  bTb cA [] [0, 1, 2, 3, 4, 5, 6, 7, 8, 9, 10, 11, 12, 13, 14, 15, 16, 17, 18, 19, 20, 21, 22, 23, 24, 25, 26, 27, 28, 29, 30, 31, 32, 33] true (fun K => .ref (a_BadJournal K)) (tbG [] [] [32] []),
  bTb cA [] [0, 1, 2, 3, 4, 5, 6, 7, 8, 9, 10, 11, 12, 13, 14, 15, 16, 17, 18, 19, 20, 21, 22, 23, 24, 25, 26, 27, 28, 29, 30, 31, 32, 33] true (fun K => .ref (a_NoTrial K)) (tbG [] [] [31] []),
  bTb cA [] [0, 1, 2, 3, 4, 5, 6, 7, 8, 9, 10, 11, 12, 13, 14, 15, 16, 17, 18, 19, 20, 21, 22, 23, 24, 25, 26, 27, 28, 29, 30, 31, 32, 33] true (fun K => .ref (a_WireError K)) (tbG [] [] [0, 1, 2, 3, 4, 5, 6, 7, 8, 9, 10, 11, 12, 13, 14, 15, 16, 17, 18, 19, 20, 21, 22, 23, 24, 25, 26, 27, 28, 29, 30, 31, 32, 33] []),
  bTb cA [] [0, 1, 2, 3, 4, 5, 6, 7, 8, 9, 10, 11, 12, 13, 14, 15, 16, 17, 18, 19, 20, 21, 22, 23, 24, 25, 26, 27, 28, 29, 30, 31, 32, 33] true (fun _ => .type "ValueError") (tbG [] [] [0, 1, 2, 3, 4, 5, 6, 7, 8, 9, 10, 11, 12, 13, 14, 15, 16, 17, 18, 19, 20, 21, 22, 23, 24, 25, 26, 27, 28, 29, 30, 31, 32, 33] ["ValueError"]),
  fun K => (He.Fa.glo "law").ok K]
def fn : List He5.DefA := [{ at_ := a__law_made, name := "_law_made", qual := "_law_made", params := defArgs t__law_made, body := defBody t__law_made, scope := defScope t__law_made, dfl := [] },
  { at_ := a__law_marked, name := "_law_marked", qual := "_law_marked", params := defArgs t__law_marked, body := defBody t__law_marked, scope := defScope t__law_marked, dfl := [] },
  { at_ := a__law_is_kept, name := "_law_is_kept", qual := "_law_is_kept", params := defArgs t__law_is_kept, body := defBody t__law_is_kept, scope := defScope t__law_is_kept, dfl := [] },
  { at_ := a_law, name := "law", qual := "law", params := defArgs t_law, body := defBody t_law, scope := defScope t_law, dfl := [] }]
theorem wd {K : PySem.W.Frag} {h : Heap} {mg : Str → Option Value} (X : K.In h) (G : h.Ns mainGlobals mg) (c : SaysB fa fn K) : Wd Pr K mg := by
  have hsu := He.free_ok X G (c.fact 79 rfl)
  have hec : ∀ d ∈ ([0, 1, 2, 3, 4, 5, 6, 7, 8, 9, 10, 11, 12, 13, 14, 15, 16, 17, 18, 19, 20, 21, 22, 23, 24, 25, 26, 27, 28, 29, 30, 31, 32, 33] : List Nat), Xcl K (cA d K) := by
    intro d hd
    rcases List.mem_cons.mp hd with rfl | hd
    · exact bXc_ok (C := a_WireError) (c.fact 45 rfl)
    rcases List.mem_cons.mp hd with rfl | hd
    · exact bXc_ok (C := a_BadMarks) (c.fact 46 rfl)
    rcases List.mem_cons.mp hd with rfl | hd
    · exact bXc_ok (C := a_BadWires) (c.fact 47 rfl)
    rcases List.mem_cons.mp hd with rfl | hd
    · exact bXc_ok (C := a_OtherWires) (c.fact 48 rfl)
    rcases List.mem_cons.mp hd with rfl | hd
    · exact bXc_ok (C := a_BadBook) (c.fact 49 rfl)
    rcases List.mem_cons.mp hd with rfl | hd
    · exact bXc_ok (C := a_NoKind) (c.fact 50 rfl)
    rcases List.mem_cons.mp hd with rfl | hd
    · exact bXc_ok (C := a_NoLine) (c.fact 51 rfl)
    rcases List.mem_cons.mp hd with rfl | hd
    · exact bXc_ok (C := a_BadChange) (c.fact 52 rfl)
    rcases List.mem_cons.mp hd with rfl | hd
    · exact bXc_ok (C := a_BadPosition) (c.fact 53 rfl)
    rcases List.mem_cons.mp hd with rfl | hd
    · exact bXc_ok (C := a_BadStanding) (c.fact 54 rfl)
    rcases List.mem_cons.mp hd with rfl | hd
    · exact bXc_ok (C := a_BadLandings) (c.fact 55 rfl)
    rcases List.mem_cons.mp hd with rfl | hd
    · exact bXc_ok (C := a_NoLanding) (c.fact 56 rfl)
    rcases List.mem_cons.mp hd with rfl | hd
    · exact bXc_ok (C := a_NoLamp) (c.fact 57 rfl)
    rcases List.mem_cons.mp hd with rfl | hd
    · exact bXc_ok (C := a_BadPlace) (c.fact 58 rfl)
    rcases List.mem_cons.mp hd with rfl | hd
    · exact bXc_ok (C := a_NoSwitch) (c.fact 59 rfl)
    rcases List.mem_cons.mp hd with rfl | hd
    · exact bXc_ok (C := a_BadWhat) (c.fact 60 rfl)
    rcases List.mem_cons.mp hd with rfl | hd
    · exact bXc_ok (C := a_BadSwitch) (c.fact 61 rfl)
    rcases List.mem_cons.mp hd with rfl | hd
    · exact bXc_ok (C := a_BadLamp) (c.fact 62 rfl)
    rcases List.mem_cons.mp hd with rfl | hd
    · exact bXc_ok (C := a_TooMany) (c.fact 63 rfl)
    rcases List.mem_cons.mp hd with rfl | hd
    · exact bXc_ok (C := a_BadRule) (c.fact 64 rfl)
    rcases List.mem_cons.mp hd with rfl | hd
    · exact bXc_ok (C := a_Unlike) (c.fact 65 rfl)
    rcases List.mem_cons.mp hd with rfl | hd
    · exact bXc_ok (C := a_BadBooks) (c.fact 66 rfl)
    rcases List.mem_cons.mp hd with rfl | hd
    · exact bXc_ok (C := a_BadTrials) (c.fact 67 rfl)
    rcases List.mem_cons.mp hd with rfl | hd
    · exact bXc_ok (C := a_BadKinds) (c.fact 68 rfl)
    rcases List.mem_cons.mp hd with rfl | hd
    · exact bXc_ok (C := a_BadWord) (c.fact 69 rfl)
    rcases List.mem_cons.mp hd with rfl | hd
    · exact bXc_ok (C := a_BadOffers) (c.fact 70 rfl)
    rcases List.mem_cons.mp hd with rfl | hd
    · exact bXc_ok (C := a_BadWishes) (c.fact 71 rfl)
    rcases List.mem_cons.mp hd with rfl | hd
    · exact bXc_ok (C := a_NoRoom) (c.fact 72 rfl)
    rcases List.mem_cons.mp hd with rfl | hd
    · exact bXc_ok (C := a_Empty) (c.fact 73 rfl)
    rcases List.mem_cons.mp hd with rfl | hd
    · exact bXc_ok (C := a_NothingToUndo) (c.fact 74 rfl)
    rcases List.mem_cons.mp hd with rfl | hd
    · exact bXc_ok (C := a_NothingToRedo) (c.fact 75 rfl)
    rcases List.mem_cons.mp hd with rfl | hd
    · exact bXc_ok (C := a_NoTrial) (c.fact 76 rfl)
    rcases List.mem_cons.mp hd with rfl | hd
    · exact bXc_ok (C := a_BadJournal) (c.fact 77 rfl)
    rcases List.mem_cons.mp hd with rfl | hd
    · exact bXc_ok (C := a_BadSay) (c.fact 78 rfl)
    cases hd
  have hoc : ∀ d ∈ ([] : List Nat), Ocl K (cA d K) := by
    intro d hd
    cases hd
  exact ⟨c.def_ 0 rfl,
    c.def_ 1 rfl,
    c.def_ 2 rfl,
    c.def_ 3 rfl,
    He.glo_ok X G (c.fact 0 rfl),
    He.glo_ok X G (c.fact 1 rfl),
    He.glo_ok X G (c.fact 2 rfl),
    He.glo_ok X G (c.fact 3 rfl),
    He.glo_ok X G (c.fact 4 rfl),
    He.glo_ok X G (c.fact 5 rfl),
    He.glo_ok X G (c.fact 6 rfl),
    He.glo_ok X G (c.fact 7 rfl),
    He.glo_ok X G (c.fact 8 rfl),
    He.glo_ok X G (c.fact 9 rfl),
    He.glo_ok X G (c.fact 10 rfl),
    He.glo_ok X G (c.fact 11 rfl),
    He.glo_ok X G (c.fact 12 rfl),
    He.glo_ok X G (c.fact 13 rfl),
    He.glo_ok X G (c.fact 14 rfl),
    He.glo_ok X G (c.fact 15 rfl),
    He.glo_ok X G (c.fact 16 rfl),
    He.glo_ok X G (c.fact 17 rfl),
    He.glo_ok X G (c.fact 18 rfl),
    He.glo_ok X G (c.fact 19 rfl),
    He.glo_ok X G (c.fact 20 rfl),
    He.glo_ok X G (c.fact 21 rfl),
    He.glo_ok X G (c.fact 22 rfl),
    He.glo_ok X G (c.fact 23 rfl),
    He.glo_ok X G (c.fact 24 rfl),
    He.glo_ok X G (c.fact 25 rfl),
    He.glo_ok X G (c.fact 26 rfl),
    He.glo_ok X G (c.fact 27 rfl),
    He.glo_ok X G (c.fact 28 rfl),
    He.glo_ok X G (c.fact 29 rfl),
    He.glo_ok X G (c.fact 30 rfl),
    He.glo_ok X G (c.fact 31 rfl),
    He.glo_ok X G (c.fact 32 rfl),
    He.glo_ok X G (c.fact 33 rfl),
    He.glo_ok X G (c.fact 34 rfl),
    He.glo_ok X G (c.fact 35 rfl),
    He.glo_ok X G (c.fact 36 rfl),
    He.free_ok X G (c.fact 37 rfl),
    He.free_ok X G (c.fact 38 rfl),
    He.free_ok X G (c.fact 39 rfl),
    He.free_ok X G (c.fact 40 rfl),
    He.free_ok X G (c.fact 41 rfl),
    He.free_ok X G (c.fact 42 rfl),
    He.free_ok X G (c.fact 43 rfl),
    He.free_ok X G (c.fact 44 rfl),
    bMx_ok (D := a_WireError) (C := a_NoLine) hsu (c.fact 80 rfl),
    bMx_ok (D := a_WireError) (C := a_NoKind) hsu (c.fact 81 rfl),
    bMx_ok (D := a_WireError) (C := a_BadBook) hsu (c.fact 82 rfl),
    bMx_ok (D := a_WireError) (C := a_OtherWires) hsu (c.fact 83 rfl),
    bMx_ok (D := a_WireError) (C := a_BadWires) hsu (c.fact 84 rfl),
    bMx_ok (D := a_WireError) (C := a_BadMarks) hsu (c.fact 85 rfl),
    bMx_ok (D := a_WireError) (C := a_BadStanding) hsu (c.fact 86 rfl),
    bMx_ok (D := a_WireError) (C := a_BadPosition) hsu (c.fact 87 rfl),
    bMx_ok (D := a_WireError) (C := a_BadChange) hsu (c.fact 88 rfl),
    bMx_ok (D := a_WireError) (C := a_NoLamp) hsu (c.fact 89 rfl),
    bMx_ok (D := a_WireError) (C := a_NoLanding) hsu (c.fact 90 rfl),
    bMx_ok (D := a_WireError) (C := a_BadLandings) hsu (c.fact 91 rfl),
    bMx_ok (D := a_WireError) (C := a_BadWhat) hsu (c.fact 92 rfl),
    bMx_ok (D := a_WireError) (C := a_NoSwitch) hsu (c.fact 93 rfl),
    bMx_ok (D := a_WireError) (C := a_BadPlace) hsu (c.fact 94 rfl),
    bMx_ok (D := a_WireError) (C := a_TooMany) hsu (c.fact 95 rfl),
    bMx_ok (D := a_WireError) (C := a_BadLamp) hsu (c.fact 96 rfl),
    bMx_ok (D := a_WireError) (C := a_BadSwitch) hsu (c.fact 97 rfl),
    bMx_ok (D := a_WireError) (C := a_BadBooks) hsu (c.fact 98 rfl),
    bMx_ok (D := a_WireError) (C := a_Unlike) hsu (c.fact 99 rfl),
    bMx_ok (D := a_WireError) (C := a_BadRule) hsu (c.fact 100 rfl),
    bMx_ok (D := a_WireError) (C := a_BadWord) hsu (c.fact 101 rfl),
    bMx_ok (D := a_WireError) (C := a_BadKinds) hsu (c.fact 102 rfl),
    bMx_ok (D := a_WireError) (C := a_BadTrials) hsu (c.fact 103 rfl),
    bMx_ok (D := a_WireError) (C := a_NoRoom) hsu (c.fact 104 rfl),
    bMx_ok (D := a_WireError) (C := a_BadWishes) hsu (c.fact 105 rfl),
    bMx_ok (D := a_WireError) (C := a_BadOffers) hsu (c.fact 106 rfl),
    bMx_ok (D := a_WireError) (C := a_NothingToRedo) hsu (c.fact 107 rfl),
    bMx_ok (D := a_WireError) (C := a_NothingToUndo) hsu (c.fact 108 rfl),
    bMx_ok (D := a_WireError) (C := a_Empty) hsu (c.fact 109 rfl),
    bMx_ok (D := a_WireError) (C := a_BadSay) hsu (c.fact 110 rfl),
    bMx_ok (D := a_WireError) (C := a_BadJournal) hsu (c.fact 111 rfl),
    bMx_ok (D := a_WireError) (C := a_NoTrial) hsu (c.fact 112 rfl),
    bMx_ok (D := a_WireError) (C := a_WireError) hsu (c.fact 113 rfl),
    hec,
    bTb_ok (ca := cA) (c.fact 114 rfl) hoc hec,
    bTb_ok (ca := cA) (c.fact 115 rfl) hoc hec,
    bTb_ok (ca := cA) (c.fact 116 rfl) hoc hec,
    bTb_ok (ca := cA) (c.fact 117 rfl) hoc hec,
    bTb_ok (ca := cA) (c.fact 118 rfl) hoc hec,
    bTb_ok (ca := cA) (c.fact 119 rfl) hoc hec,
    bTb_ok (ca := cA) (c.fact 120 rfl) hoc hec,
    bTb_ok (ca := cA) (c.fact 121 rfl) hoc hec,
    bTb_ok (ca := cA) (c.fact 122 rfl) hoc hec,
    bTb_ok (ca := cA) (c.fact 123 rfl) hoc hec,
    bTb_ok (ca := cA) (c.fact 124 rfl) hoc hec,
    bTb_ok (ca := cA) (c.fact 125 rfl) hoc hec,
    bTb_ok (ca := cA) (c.fact 126 rfl) hoc hec,
    bTb_ok (ca := cA) (c.fact 127 rfl) hoc hec,
    bTb_ok (ca := cA) (c.fact 128 rfl) hoc hec,
    bTb_ok (ca := cA) (c.fact 129 rfl) hoc hec,
    bTb_ok (ca := cA) (c.fact 130 rfl) hoc hec,
    bTb_ok (ca := cA) (c.fact 131 rfl) hoc hec,
    bTb_ok (ca := cA) (c.fact 132 rfl) hoc hec,
    bTb_ok (ca := cA) (c.fact 133 rfl) hoc hec,
    bTb_ok (ca := cA) (c.fact 134 rfl) hoc hec,
    bTb_ok (ca := cA) (c.fact 135 rfl) hoc hec,
    bTb_ok (ca := cA) (c.fact 136 rfl) hoc hec,
    bTb_ok (ca := cA) (c.fact 137 rfl) hoc hec,
    bTb_ok (ca := cA) (c.fact 138 rfl) hoc hec,
    bTb_ok (ca := cA) (c.fact 139 rfl) hoc hec,
    bTb_ok (ca := cA) (c.fact 140 rfl) hoc hec,
    bTb_ok (ca := cA) (c.fact 141 rfl) hoc hec,
    bTb_ok (ca := cA) (c.fact 142 rfl) hoc hec,
    bTb_ok (ca := cA) (c.fact 143 rfl) hoc hec,
    bTb_ok (ca := cA) (c.fact 144 rfl) hoc hec,
    bTb_ok (ca := cA) (c.fact 145 rfl) hoc hec,
    bTb_ok (ca := cA) (c.fact 146 rfl) hoc hec,
    bTb_ok (ca := cA) (c.fact 147 rfl) hoc hec,
    bTb_ok (ca := cA) (c.fact 148 rfl) hoc hec⟩
abbrev Rw : PySem.W.OpenRow := PySem.W.OpenLaw.row PySem.Challenge.rw_landingwires_k00_errors_and_what_they_ke
abbrev hk : PySem.W.Hook := hookB 6 fa fn
def ob (s : PySem.W.SharedT) : He.AlD := obsBG 6 fa fn (HandSHeadRun.getT s)
theorem ob_eq (s : PySem.W.SharedT) : ob s = hk.obs s.abs := obsBG_eq (HandSHeadRun.getT_eq s)
def loose : List Str := [("WireError" : Str), ("BadMarks" : Str), ("BadWires" : Str), ("OtherWires" : Str), ("BadBook" : Str), ("NoKind" : Str), ("NoLine" : Str), ("BadChange" : Str), ("BadPosition" : Str), ("BadStanding" : Str), ("BadLandings" : Str), ("NoLanding" : Str), ("NoLamp" : Str), ("BadPlace" : Str), ("NoSwitch" : Str), ("BadWhat" : Str), ("BadSwitch" : Str), ("BadLamp" : Str), ("TooMany" : Str), ("BadRule" : Str), ("Unlike" : Str), ("BadBooks" : Str), ("BadTrials" : Str), ("BadKinds" : Str), ("BadWord" : Str), ("BadOffers" : Str), ("BadWishes" : Str), ("NoRoom" : Str), ("Empty" : Str), ("NothingToUndo" : Str), ("NothingToRedo" : Str), ("NoTrial" : Str), ("BadJournal" : Str), ("BadSay" : Str), ("_law_made" : Str), ("_law_marked" : Str), ("_law_is_kept" : Str)]
theorem run (w : World) : HandSHeadRun.RunEq Rw (PySem.W.view Rw.prog [39]) hk ob 20000 loose w := by
  intro os
  kernel_rfl
end FX

set_option Elab.async false
set_option linter.all false
set_option maxRecDepth 100000
set_option maxHeartbeats 2000000
namespace FX
def wp {α : Type} (m : M α) (h : MH) (Q : α → MH → Prop) : Prop := ∃ x h', m h = .ok x h' ∧ Q x h'
def nox : Out → Prop
  | .xc _ _ _ => False
  | _ => True
/-- a statement that raises nothing -/
def ws (m : M Out) (h : MH) (Q : Out → MH → Prop) : Prop := wp m h fun o h' => nox o ∧ Q o h'
section
variable {α β : Type} {m : M α} {k : α → M β} {h h' : MH} {Q Q' : α → MH → Prop} {Qb : β → MH → Prop}
theorem wp.mono (p : wp m h Q) (i : ∀ x h', Q x h' → Q' x h') : wp m h Q' := let ⟨x, h', e, q⟩ := p; ⟨x, h', e, i x h' q⟩
theorem ws.mono {m : M Out} {Q Q' : Out → MH → Prop} (p : ws m h Q) (i : ∀ x h', Q x h' → Q' x h') : ws m h Q' := wp.mono p fun x h' ⟨a, b⟩ => ⟨a, i x h' b⟩
@[simp] theorem wp_ret {x : α} : wp (M.ret x) h Q ↔ Q x h := ⟨fun ⟨_, _, e, q⟩ => by cases e; exact q, fun q => ⟨_, _, rfl, q⟩⟩
@[simp] theorem wp_bad : wp (M.bad : M α) h Q ↔ False := ⟨fun ⟨_, _, e, _⟩ => (nomatch e), fun z => z.elim⟩
@[simp] theorem wp_bind : wp (m.bind k) h Qb ↔ wp m h fun x h1 => wp (k x) h1 Qb := by
  constructor
  · rintro ⟨y, h2, e, q⟩
    unfold M.bind at e
    cases em : m h with
    | ok x h1 => rw [em] at e; exact ⟨x, h1, (by first | exact em | rfl), y, h2, e, q⟩
    | exc c x h1 => rw [em] at e; cases e
    | bad => rw [em] at e; cases e
  · rintro ⟨x, h1, e1, y, h2, e2, q⟩
    exact ⟨y, h2, by unfold M.bind; rw [e1]; exact e2, q⟩
@[simp] theorem wp_ite {c : Prop} [Decidable c] {m n : M α} : wp (if c then m else n) h Q ↔ if c then wp m h Q else wp n h Q := by split <;> rfl
@[simp] theorem wp_noX : wp (noX m) h Q ↔ wp m h Q := by
  unfold noX
  constructor
  · rintro ⟨x, h', e, q⟩
    cases em : m h with
    | ok x1 h1 => simp only [em] at e; exact ⟨_, _, em, by cases e; exact q⟩
    | exc c x h1 => simp only [em] at e; cases e
    | bad => simp only [em] at e; cases e
  · rintro ⟨x, h', e, q⟩
    exact ⟨x, h', by simp only [e], q⟩
@[simp] theorem wp_mAt {n : Nat} {f : MO → M α} : wp (mAt n f) h Q ↔ ∃ o, h.get n = some o ∧ wp (f o) h Q := by
  constructor
  · rintro ⟨x, h', e, q⟩
    unfold mAt at e
    cases eo : h.get n with
    | none => rw [eo] at e; cases e
    | some o => rw [eo] at e; exact ⟨o, rfl, x, h', e, q⟩
  · rintro ⟨o, eo, x, h', e, q⟩
    exact ⟨x, h', (mAt_ok eo).trans e, q⟩
@[simp] theorem wp_mNew {o : MO} {Q : PV → MH → Prop} : wp (mNew o) h Q ↔ Q (.ref h.nx) (h.new o) := ⟨fun ⟨_, _, e, q⟩ => by cases e; exact q, fun q => ⟨_, _, rfl, q⟩⟩
@[simp] theorem wp_mPut {n : Nat} {o : MO} {Q : Unit → MH → Prop} : wp (mPut n o) h Q ↔ Q () (h.put n o) := ⟨fun ⟨_, _, e, q⟩ => by cases e; exact q, fun q => ⟨_, _, rfl, q⟩⟩
variable {ρ : Env} {i j : Nat} {x y : PV} {g : PV → PV → M PV} {u : PV → M PV} {a b : EF} {t s : TF} {r : AF} {F : FF} {QP : PV → MH → Prop} {QB : Bool → MH → Prop} {QA : List PV → MH → Prop}
@[simp] theorem wp_eVar : wp (eVar i ρ) h QP ↔ ∃ x, ρ[i]? = some (some x) ∧ QP x h := by
  constructor
  · rintro ⟨x, h', e, q⟩
    unfold eVar at e
    split at e
    · rename_i y hy
      cases e; exact ⟨_, hy, q⟩
    · cases e
  · rintro ⟨x, e, q⟩
    exact ⟨x, h, by unfold eVar; rw [e], q⟩
@[simp] theorem wp_eC : wp (eC x ρ) h QP ↔ QP x h := wp_ret
@[simp] theorem wp_eOp : wp (eOp g a b ρ) h QP ↔ wp (a ρ) h fun x h1 => wp (b ρ) h1 fun y h2 => wp (g x y) h2 QP := by unfold eOp; simp only [wp_bind]
@[simp] theorem wp_eUn : wp (eUn u a ρ) h QP ↔ wp (a ρ) h fun x h1 => wp (u x) h1 QP := by unfold eUn; simp only [wp_bind]
@[simp] theorem wp_tOf : wp (tOf a ρ) h QB ↔ wp (a ρ) h fun x h1 => wp (tru x) h1 QB := by unfold tOf; simp only [wp_bind]
@[simp] theorem wp_asB : wp (asB x) h QB ↔ ∃ b, x = .bl b ∧ QB b h := by
  cases x with
  | bl b => simp [asB]
  | _ => simp [asB]
@[simp] theorem wp_tCm : wp (tCm g a b ρ) h QB ↔ wp (a ρ) h fun x h1 => wp (b ρ) h1 fun y h2 => wp (g x y) h2 fun z h3 => ∃ k, z = .bl k ∧ QB k h3 := by unfold tCm; simp only [wp_bind, wp_eOp, wp_asB]
@[simp] theorem wp_tNo : wp (tNo t ρ) h QB ↔ wp (t ρ) h fun k h1 => QB (!k) h1 := by unfold tNo; simp only [wp_bind, wp_ret]
@[simp] theorem wp_tAn : wp (tAn t s ρ) h QB ↔ wp (t ρ) h fun k h1 => if k = true then wp (s ρ) h1 QB else QB false h1 := by unfold tAn; simp only [wp_bind, wp_ite, wp_ret]
@[simp] theorem wp_tOo : wp (tOo t s ρ) h QB ↔ wp (t ρ) h fun k h1 => if k = true then QB true h1 else wp (s ρ) h1 QB := by unfold tOo; simp only [wp_bind, wp_ite, wp_ret]
@[simp] theorem wp_eAn : wp (eAn a b ρ) h QP ↔ wp (a ρ) h fun x h1 => wp (tru x) h1 fun k h2 => if k = true then wp (b ρ) h2 QP else QP x h2 := by unfold eAn; simp only [wp_bind, wp_ite, wp_ret]
@[simp] theorem wp_eOo : wp (eOo a b ρ) h QP ↔ wp (a ρ) h fun x h1 => wp (tru x) h1 fun k h2 => if k = true then QP x h2 else wp (b ρ) h2 QP := by unfold eOo; simp only [wp_bind, wp_ite, wp_ret]
@[simp] theorem wp_eNo : wp (eNo a ρ) h QP ↔ wp (a ρ) h fun x h1 => wp (tru x) h1 fun k h2 => QP (.bl (!k)) h2 := by unfold eNo; simp only [wp_bind, wp_ret]
@[simp] theorem wp_eIf : wp (eIf t a b ρ) h QP ↔ wp (t ρ) h fun k h1 => if k = true then wp (a ρ) h1 QP else wp (b ρ) h1 QP := by unfold eIf; simp only [wp_bind, wp_ite]
@[simp] theorem wp_tYes : wp (tYes ρ) h QB ↔ QB true h := wp_ret
@[simp] theorem wp_aNil : wp (aNil ρ) h QA ↔ QA [] h := wp_ret
@[simp] theorem wp_aCons : wp (aCons a r ρ) h QA ↔ wp (a ρ) h fun x h1 => wp (r ρ) h1 fun xs h2 => QA (x :: xs) h2 := by unfold aCons; simp only [wp_bind, wp_ret]
@[simp] theorem wp_eTup : wp (eTup r ρ) h QP ↔ wp (r ρ) h fun xs h1 => if xs.length ≤ 10000000 then QP (.tup xs) h1 else False := by unfold eTup; simp only [wp_bind, wp_ite, wp_ret, wp_bad]
@[simp] theorem wp_eLst : wp (eLst r ρ) h QP ↔ wp (r ρ) h fun xs h1 => if xs.length ≤ 10000000 then QP (.ref h1.nx) (h1.new (.lst xs)) else False := by unfold eLst; simp only [wp_bind, wp_ite, wp_mNew, wp_bad]
@[simp] theorem wp_eApp : wp (eApp F r ρ) h QP ↔ wp (r ρ) h fun xs h1 => wp (F xs) h1 QP := by unfold eApp; simp only [wp_bind]
@[simp] theorem wp_aStar : wp (aStar a r ρ) h QA ↔ wp (a ρ) h fun x h1 => wp (mSeq x fun xs => (r ρ).bind fun ys => M.ret (xs ++ ys)) h1 QA := by unfold aStar; simp only [wp_bind]
variable {S U : SF} {QO : Out → MH → Prop} {G : GF}
@[simp] theorem nox_nx : nox (.nx ρ) ↔ True := Iff.rfl
@[simp] theorem nox_rt : nox (.rt x) ↔ True := Iff.rfl
@[simp] theorem nox_bk : nox (.bk ρ) ↔ True := Iff.rfl
@[simp] theorem nox_ct : nox (.ct ρ) ↔ True := Iff.rfl
@[simp] theorem ws_ret {o : Out} : ws (M.ret o) h QO ↔ nox o ∧ QO o h := wp_ret
@[simp] theorem ws_bad : ws (M.bad : M Out) h QO ↔ False := wp_bad
@[simp] theorem ws_sThen {k : α → M Out} : ws (sThen m ρ k) h QO ↔ wp m h fun x h1 => ws (k x) h1 QO := by
  unfold ws
  constructor
  · rintro ⟨o, h2, e, n, q⟩
    unfold sThen at e
    cases em : m h with
    | ok x h1 => rw [em] at e; exact ⟨x, h1, (by first | exact em | rfl), o, h2, e, n, q⟩
    | exc c x h1 => rw [em] at e; cases e; exact n.elim
    | bad => rw [em] at e; cases e
  · rintro ⟨x, h1, e1, o, h2, e2, q⟩
    exact ⟨o, h2, by unfold sThen; rw [e1]; exact e2, q⟩
@[simp] theorem ws_ite {c : Prop} [Decidable c] {m n : M Out} : ws (if c then m else n) h QO ↔ if c then ws m h QO else ws n h QO := by split <;> rfl
@[simp] theorem ws_sExp : ws (sExp a ρ) h QO ↔ wp (a ρ) h fun _ h1 => QO (.nx ρ) h1 := by unfold sExp; simp
@[simp] theorem ws_sRet : ws (sRet a ρ) h QO ↔ wp (a ρ) h fun x h1 => QO (.rt x) h1 := by unfold sRet; simp
@[simp] theorem ws_sRetN : ws (sRetN ρ) h QO ↔ QO (.rt .non) h := by unfold sRetN; simp
@[simp] theorem ws_sPass : ws (sPass ρ) h QO ↔ QO (.nx ρ) h := by unfold sPass; simp
@[simp] theorem ws_sBrk : ws (sBrk ρ) h QO ↔ QO (.bk ρ) h := by unfold sBrk; simp
@[simp] theorem ws_sCnt : ws (sCnt ρ) h QO ↔ QO (.ct ρ) h := by unfold sCnt; simp
@[simp] theorem ws_sNev : ws (sNev ρ) h QO ↔ False := ws_bad
@[simp] theorem ws_sAsg : ws (sAsg a G ρ) h QO ↔ wp (a ρ) h fun x h1 => wp (G x ρ) h1 fun ρ' h2 => QO (.nx ρ') h2 := by unfold sAsg; simp
@[simp] theorem wp_gSet {QE : Env → MH → Prop} : wp (gSet i x ρ) h QE ↔ QE (ρ.set i (some x)) h := wp_ret
def nxt (Q : Env → MH → Prop) (Q' : Out → MH → Prop) : Out → MH → Prop
  | .nx ρ, h => Q ρ h
  | o, h => Q' o h
@[simp] theorem nxt_nx {Q : Env → MH → Prop} : nxt Q QO (.nx ρ) h ↔ Q ρ h := Iff.rfl
@[simp] theorem nxt_rt {Q : Env → MH → Prop} : nxt Q QO (.rt x) h ↔ QO (.rt x) h := Iff.rfl
@[simp] theorem nxt_bk {Q : Env → MH → Prop} : nxt Q QO (.bk ρ) h ↔ QO (.bk ρ) h := Iff.rfl
@[simp] theorem nxt_ct {Q : Env → MH → Prop} : nxt Q QO (.ct ρ) h ↔ QO (.ct ρ) h := Iff.rfl
@[simp] theorem ws_sSeq : ws (sSeq S U ρ) h QO ↔ ws (S ρ) h (nxt (fun ρ' h1 => ws (U ρ') h1 QO) QO) := by
  unfold ws sSeq
  simp only [wp_bind]
  constructor
  · rintro ⟨o, h1, e, p⟩
    cases o with
    | nx ρ' => exact ⟨_, h1, e, trivial, p⟩
    | rt x => exact ⟨_, h1, e, wp_ret.mp p⟩
    | bk x => exact ⟨_, h1, e, wp_ret.mp p⟩
    | ct x => exact ⟨_, h1, e, wp_ret.mp p⟩
    | xc _ _ _ => exact ((wp_ret.mp p).1).elim
  · rintro ⟨o, h1, e, n, p⟩
    refine ⟨o, h1, e, ?_⟩
    cases o with
    | nx ρ' => exact p
    | rt x => exact wp_ret.mpr ⟨n, p⟩
    | bk x => exact wp_ret.mpr ⟨n, p⟩
    | ct x => exact wp_ret.mpr ⟨n, p⟩
    | xc _ _ _ => exact n.elim
@[simp] theorem ws_sIf : ws (sIf t S U ρ) h QO ↔ wp (t ρ) h fun k h1 => if k = true then ws (S ρ) h1 QO else ws (U ρ) h1 QO := by unfold sIf; simp
@[simp] theorem ws_sPar {i j : Nat} : ws (sPar i j r ρ) h QO ↔ wp (r ρ) h fun xs h1 => ∃ x y, xs = [x, y] ∧ QO (.nx ((ρ.set i (some x)).set j (some y))) h1 := by
  unfold sPar
  simp only [ws_sThen]
  constructor
  · intro p
    refine p.mono fun xs h1 q => ?_
    match xs, q with
    | [], q => exact (ws_bad.mp q).elim
    | [_], q => exact (ws_bad.mp q).elim
    | [x, y], q => exact ⟨x, y, rfl, (ws_ret.mp q).2⟩
    | _ :: _ :: _ :: _, q => exact (ws_bad.mp q).elim
  · intro p
    refine p.mono fun xs h1 ⟨x, y, e, q⟩ => ?_
    subst e
    exact ws_ret.mpr ⟨trivial, q⟩
/-- a body's run -/
theorem wp_runB {n : Nat} {xs : List PV} (p : ws (S (xs.map some ++ List.replicate (n - xs.length) none)) h fun o h' => match o with
    | .nx _ => QP .non h'
    | .rt x => QP x h'
    | _ => False) : wp (runB n S xs) h QP := by
  unfold runB
  rw [wp_bind, wp_noX]
  refine wp.mono p fun o h' ⟨nn, q⟩ => ?_
  cases o with
  | nx _ => exact wp_ret.mpr q
  | rt x => exact wp_ret.mpr q
  | _ => exact q.elim
theorem wp_defB {n k : Nat} {dxs xs : List PV} (hl : xs.length = k) (p : wp (runB n S (xs ++ dxs)) h QP) : wp (defB n k dxs S xs) h QP := by
  unfold defB
  rw [if_pos hl]; exact p
/-- how a turn ends -/
def turnQ (I : Env → MH → Prop) (Q : Out → MH → Prop) : Out → MH → Prop
  | .nx ρ, h => I ρ h
  | .ct ρ, h => I ρ h
  | .bk ρ, h => Q (.nx ρ) h
  | .rt x, h => Q (.rt x) h
  | .xc _ _ _, _ => False
@[simp] theorem turnQ_nx {I : Env → MH → Prop} : turnQ I QO (.nx ρ) h ↔ I ρ h := Iff.rfl
@[simp] theorem turnQ_ct {I : Env → MH → Prop} : turnQ I QO (.ct ρ) h ↔ I ρ h := Iff.rfl
@[simp] theorem turnQ_bk {I : Env → MH → Prop} : turnQ I QO (.bk ρ) h ↔ QO (.nx ρ) h := Iff.rfl
@[simp] theorem turnQ_rt {I : Env → MH → Prop} : turnQ I QO (.rt x) h ↔ QO (.rt x) h := Iff.rfl
theorem ws_forN {nx : Src} {n : Nat} (I : Nat → Env → MH → Prop) (step : ∀ i ρ h, i < n → I i ρ h → ∃ x, nx i h = some (some x) ∧ wp (G x ρ) h fun ρ' h1 => ws (S ρ') h1 (turnQ (I (i + 1)) QO)) (last : ∀ ρ h, I n ρ h → nx n h = some none ∧ QO (.nx ρ) h) :
    ∀ (f i : Nat) (ρ : Env) (h : MH), i ≤ n → n - i < f → I i ρ h → ws (forN nx G S f i ρ) h QO
  | 0, _, _, _, _, hf, _ => absurd hf (Nat.not_lt_zero _)
  | f + 1, i, ρ, h, hi, hf, p => by
    by_cases e : i = n
    · subst e
      obtain ⟨e1, q⟩ := last ρ h p
      refine ⟨.nx ρ, h, ?_, trivial, q⟩
      unfold forN
      rw [e1]
    · obtain ⟨x, e1, q⟩ := step i ρ h (by omega) p
      have q2 : ws (sThen (G x ρ) ρ fun ρ' => S ρ') h (turnQ (I (i + 1)) QO) := ws_sThen.mpr q
      obtain ⟨o, h2, e2, n2, q2⟩ := q2
      have cont : ∀ ρ2, I (i + 1) ρ2 h2 → ws (forN nx G S f (i + 1) ρ2) h2 QO := fun ρ2 p2 => ws_forN I step last f (i + 1) ρ2 h2 (by omega) (by omega) p2
      have un : ∀ r, (M.bind (sThen (G x ρ) ρ fun ρ' => S ρ') fun o => match o with
        | .nx ρ' => forN nx G S f (i + 1) ρ'
        | .ct ρ' => forN nx G S f (i + 1) ρ'
        | .bk ρ' => M.ret (.nx ρ')
        | o => M.ret o) h = r → forN nx G S (f + 1) i ρ h = r := fun r z => by
        unfold forN
        rw [e1]; exact z
      cases o with
      | nx ρ2 =>
        obtain ⟨o3, h3, e3, z⟩ := cont ρ2 q2
        exact ⟨o3, h3, un _ (by rw [M.bind_ok e2]; exact e3), z⟩
      | ct ρ2 =>
        obtain ⟨o3, h3, e3, z⟩ := cont ρ2 q2
        exact ⟨o3, h3, un _ (by rw [M.bind_ok e2]; exact e3), z⟩
      | bk ρ2 => exact ⟨.nx ρ2, h2, un _ (by rw [M.bind_ok e2]; rfl), trivial, q2⟩
      | rt x2 => exact ⟨.rt x2, h2, un _ (by rw [M.bind_ok e2]; rfl), trivial, q2⟩
      | xc _ _ _ => exact n2.elim
theorem ws_sFor {s : IF} (I : Nat → Env → MH → Prop) (n : Nat) (hn : n < fuel) (p : wp (s ρ) h fun nx h1 => I 0 ρ h1 ∧ (∀ i ρ h, i < n → I i ρ h → ∃ x, nx i h = some (some x) ∧ wp (G x ρ) h fun ρ' h1 => ws (S ρ') h1 (turnQ (I (i + 1)) QO)) ∧
    ∀ ρ h, I n ρ h → nx n h = some none ∧ QO (.nx ρ) h) : ws (sFor s G S ρ) h QO := by
  unfold sFor
  rw [ws_sThen]
  exact p.mono fun nx h1 ⟨p0, step, last⟩ => ws_forN I step last fuel 0 ρ h1 (Nat.zero_le _) (by omega) p0
theorem ws_wN (I : Nat → Env → MH → Prop) (step : ∀ m ρ h, I m ρ h → wp (t ρ) h fun k h1 => if k = true then ws (S ρ) h1 (turnQ (fun ρ' h2 => ∃ m', m' < m ∧ I m' ρ' h2) QO) else QO (.nx ρ) h1) :
    ∀ (f m : Nat) (ρ : Env) (h : MH), m < f → I m ρ h → ws (wN t S f ρ) h QO
  | 0, _, _, _, hf, _ => absurd hf (Nat.not_lt_zero _)
  | f + 1, m, ρ, h, hf, p => by
    unfold wN
    rw [ws_sThen]
    refine (step m ρ h p).mono fun k h1 q => ?_
    cases k with
    | false => exact ws_ret.mpr ⟨trivial, by simpa using q⟩
    | true =>
      simp only [if_true] at q ⊢
      obtain ⟨o, h2, e2, n2, q2⟩ := q
      cases o with
      | nx ρ2 =>
        obtain ⟨m', hm, p2⟩ := q2
        obtain ⟨o3, h3, e3, z⟩ := ws_wN I step f m' ρ2 h2 (by omega) p2
        exact ⟨o3, h3, by rw [M.bind_ok e2]; exact e3, z⟩
      | ct ρ2 =>
        obtain ⟨m', hm, p2⟩ := q2
        obtain ⟨o3, h3, e3, z⟩ := ws_wN I step f m' ρ2 h2 (by omega) p2
        exact ⟨o3, h3, by rw [M.bind_ok e2]; exact e3, z⟩
      | bk ρ2 => exact ⟨.nx ρ2, h2, by rw [M.bind_ok e2]; rfl, trivial, q2⟩
      | rt x2 => exact ⟨.rt x2, h2, by rw [M.bind_ok e2]; rfl, trivial, q2⟩
      | xc _ _ _ => exact n2.elim
theorem ws_sWh (I : Nat → Env → MH → Prop) (m : Nat) (hm : m < fuel) (p : I m ρ h) (step : ∀ m ρ h, I m ρ h → wp (t ρ) h fun k h1 => if k = true then ws (S ρ) h1 (turnQ (fun ρ' h2 => ∃ m', m' < m ∧ I m' ρ' h2) QO) else QO (.nx ρ) h1) : ws (sWh t S ρ) h QO :=
  ws_wN I step fuel m ρ h hm p
theorem wp_compN {nx : Src} {n : Nat} {ρ : Env} {e : EF} (hn : n ≤ 10000000) (I : Nat → List PV → MH → Prop) (step : ∀ i acc h, i < n → I i acc h → ∃ x, nx i h = some (some x) ∧ wp (G x ρ) h fun ρ2 h2 => wp (t ρ2) h2 fun k h3 => if k = true then wp (e ρ2) h3 fun y h4 => I (i + 1) (acc ++ [y]) h4 else I (i + 1) acc h3)
    (last : ∀ acc h, I n acc h → nx n h = some none) : ∀ (f i : Nat) (acc : List PV) (h : MH), i ≤ n → n - i < f → acc.length ≤ i → I i acc h → wp (compN nx G t e f i acc.length ρ) h fun ys h' => I n (acc ++ ys) h'
  | 0, _, _, _, _, hf, _, _ => absurd hf (Nat.not_lt_zero _)
  | f + 1, i, acc, h, hi, hf, hl, p => by
    by_cases ei : i = n
    · subst ei
      have e1 := last acc h p
      refine ⟨[], h, ?_, by show I i (acc ++ []) h; rw [List.append_nil]; exact p⟩
      unfold compN
      rw [e1]
    · obtain ⟨x, e1, q⟩ := step i acc h (by omega) p
      have un : ∀ Q, wp ((G x ρ).bind fun ρ2 => (t ρ2).bind fun b => if b then (e ρ2).bind fun y => if acc.length < 10000000 then (compN nx G t e f (i + 1) (acc.length + 1) ρ).bind fun ys => M.ret (y :: ys) else M.bad
        else compN nx G t e f (i + 1) acc.length ρ) h Q → wp (compN nx G t e (f + 1) i acc.length ρ) h Q := fun Q ⟨a, b, c, d⟩ => ⟨a, b, by unfold compN; rw [e1]; exact c, d⟩
      refine un _ ?_
      rw [wp_bind]
      refine q.mono fun ρ2 h2 q => ?_
      rw [wp_bind]
      refine q.mono fun k h3 q => ?_
      cases k with
      | true =>
        simp only [if_true] at q ⊢
        rw [wp_bind]
        refine q.mono fun y h4 q => ?_
        rw [if_pos (by omega), wp_bind]
        have z := wp_compN hn I step last f (i + 1) (acc ++ [y]) h4 (by omega) (by omega) (by rw [List.length_append, List.length_singleton]; omega) q
        rw [List.length_append, List.length_singleton] at z
        refine z.mono fun ys h5 q => ?_
        rw [wp_ret]
        rw [List.append_assoc] at q
        exact q
      | false =>
        simp only [Bool.false_eq_true, if_false] at q ⊢
        exact wp_compN hn I step last f (i + 1) acc h3 (by omega) (by omega) (by omega) q
theorem wp_eLc {s : IF} {vs : List Nat} {e : EF} (I : Nat → List PV → MH → Prop) (n : Nat) (hn : n ≤ 10000000) (p : wp (s ρ) h fun nx h1 => I 0 [] h1 ∧ (∀ i acc h, i < n → I i acc h → ∃ x, nx i h = some (some x) ∧ wp (G x (wipeE ρ vs)) h fun ρ2 h2 => wp (t ρ2) h2 fun k h3 => if k = true then wp (e ρ2) h3 fun y h4 => I (i + 1) (acc ++ [y]) h4 else I (i + 1) acc h3) ∧
    ∀ acc h, I n acc h → nx n h = some none ∧ QP (.ref h.nx) (h.new (.lst acc))) : wp (eLc s vs G t e ρ) h QP := by
  unfold eLc
  rw [wp_bind]
  refine p.mono fun nx h1 ⟨p0, step, last⟩ => ?_
  rw [wp_bind, wp_noX]
  have z := wp_compN (e := e) hn I step (fun acc h p => (last acc h p).1) fuel 0 [] h1 (Nat.zero_le _) (by unfold fuel; omega) (Nat.le_refl _) p0
  refine z.mono fun ys h2 q => ?_
  rw [List.nil_append] at q
  exact wp_mNew.mpr (last ys h2 q).2
theorem wp_dcompN {nx : Src} {n : Nat} {ρ : Env} {ek ev : EF} (I : Nat → List (PV × PV) → MH → Prop) (step : ∀ i acc h, i < n → I i acc h → ∃ x, nx i h = some (some x) ∧ wp (G x ρ) h fun ρ2 h2 => wp (t ρ2) h2 fun k h3 => if k = true then wp (ek ρ2) h3 fun y h4 => wp (ev ρ2) h4 fun z h5 => (asK y).isSome = true ∧ acc.length < 10000000 ∧ I (i + 1) (dPut acc y z) h5 else I (i + 1) acc h3)
    (last : ∀ acc h, I n acc h → nx n h = some none) : ∀ (f i : Nat) (acc : List (PV × PV)) (h : MH), i ≤ n → n - i < f → I i acc h → wp (dcompN nx G t ek ev f i acc ρ) h fun kvs h' => I n kvs h'
  | 0, _, _, _, _, hf, _ => absurd hf (Nat.not_lt_zero _)
  | f + 1, i, acc, h, hi, hf, p => by
    by_cases ei : i = n
    · subst ei
      have e1 := last acc h p
      refine ⟨acc, h, ?_, p⟩
      unfold dcompN
      rw [e1]
    · obtain ⟨x, e1, q⟩ := step i acc h (by omega) p
      have un : ∀ Q, wp ((G x ρ).bind fun ρ2 => (t ρ2).bind fun b => if b then (ek ρ2).bind fun y => (ev ρ2).bind fun z => match asK y with
          | some _ => if acc.length < 10000000 then dcompN nx G t ek ev f (i + 1) (dPut acc y z) ρ else M.bad
          | none => M.bad
        else dcompN nx G t ek ev f (i + 1) acc ρ) h Q → wp (dcompN nx G t ek ev (f + 1) i acc ρ) h Q := fun Q ⟨a, b, c, d⟩ => ⟨a, b, by unfold dcompN; rw [e1]; exact c, d⟩
      refine un _ ?_
      rw [wp_bind]
      refine q.mono fun ρ2 h2 q => ?_
      rw [wp_bind]
      refine q.mono fun k h3 q => ?_
      cases k with
      | true =>
        simp only [if_true] at q ⊢
        rw [wp_bind]
        refine q.mono fun y h4 q => ?_
        rw [wp_bind]
        refine q.mono fun z h5 ⟨q1, q2, q3⟩ => ?_
        cases hk : asK y with
        | none => rw [hk] at q1; cases q1
        | some k =>
          simp only [if_pos q2]
          exact wp_dcompN I step last f (i + 1) _ h5 (by omega) (by omega) q3
      | false =>
        simp only [Bool.false_eq_true, if_false] at q ⊢
        exact wp_dcompN I step last f (i + 1) acc h3 (by omega) (by omega) q
theorem wp_eDc {s : IF} {vs : List Nat} {ek ev : EF} (I : Nat → List (PV × PV) → MH → Prop) (n : Nat) (hn : n < fuel) (p : wp (s ρ) h fun nx h1 => I 0 [] h1 ∧ (∀ i acc h, i < n → I i acc h → ∃ x, nx i h = some (some x) ∧ wp (G x (wipeE ρ vs)) h fun ρ2 h2 => wp (t ρ2) h2 fun k h3 => if k = true then wp (ek ρ2) h3 fun y h4 => wp (ev ρ2) h4 fun z h5 => (asK y).isSome = true ∧ acc.length < 10000000 ∧ I (i + 1) (dPut acc y z) h5 else I (i + 1) acc h3) ∧
    ∀ acc h, I n acc h → nx n h = some none ∧ QP (.ref h.nx) (h.new (.dct acc))) : wp (eDc s vs G t ek ev ρ) h QP := by
  unfold eDc
  rw [wp_bind]
  refine p.mono fun nx h1 ⟨p0, step, last⟩ => ?_
  rw [wp_bind, wp_noX]
  have z := wp_dcompN (ek := ek) (ev := ev) I step (fun acc h p => (last acc h p).1) fuel 0 [] h1 (Nat.zero_le _) (by omega) p0
  exact z.mono fun ys h2 q => wp_mNew.mpr (last ys h2 q).2
end
end FX

set_option Elab.async false
set_option linter.all false
set_option maxRecDepth 100000
set_option maxHeartbeats 1000000
namespace VX
open FX
inductive VV where
  | und | non | bl (b : Bool) | int (i : Int) | str (x : List Nat) | ty (n : String) | tup (xs : List VV) | lst (xs : List VV) | kl (xs : List VV) | dct (kvs : List (VV × VV)) | dtt (kvs : List (VV × VV)) | obj (c : Nat) (fs : List VV) | err (c : Nat) (x : VV) | bxe (n : String) | set (xs : List VV) | mem (xs : List VV)
  deriving Inhabited
abbrev Ty := Nat → Option VV
mutual
inductive RepT (T : Ty) : PV → VV → Prop
  | non : RepT T .non .non
  | bl {b} : RepT T (.bl b) (.bl b)
  | int {i} : RepT T (.int i) (.int i)
  | str {x} : RepT T (.str x) (.str x)
  | ty {n} : RepT T (.ty n) (.ty n)
  | tup {xs vs} (r : RepL T xs vs) : RepT T (.tup xs) (.tup vs)
  | kl {a xs vs} (r : RepL T xs vs) : RepT T (.kl a xs) (.kl vs)
  | ref {n v} (h : T n = some v) : RepT T (.ref n) v
inductive RepL (T : Ty) : List PV → List VV → Prop
  | nil : RepL T [] []
  | cons {x v xs vs} (r : RepT T x v) (t : RepL T xs vs) : RepL T (x :: xs) (v :: vs)
end
def TLe (T T' : Ty) : Prop := ∀ n v, T n = some v → T' n = some v
theorem TLe.refl (T : Ty) : TLe T T := fun _ _ h => h
theorem TLe.trans {a b c : Ty} (x : TLe a b) (y : TLe b c) : TLe a c := fun n v h => y n v (x n v h)
mutual
theorem RepT.mono {T T' : Ty} (l : TLe T T') : ∀ {x : PV} {v : VV}, RepT T x v → RepT T' x v
  | _, _, .non => .non
  | _, _, .bl => .bl
  | _, _, .int => .int
  | _, _, .str => .str
  | _, _, .ty => .ty
  | _, _, .tup r => .tup (RepL.mono l r)
  | _, _, .kl r => .kl (RepL.mono l r)
  | _, _, .ref h => .ref (l _ _ h)
theorem RepL.mono {T T' : Ty} (l : TLe T T') : ∀ {xs : List PV} {vs : List VV}, RepL T xs vs → RepL T' xs vs
  | _, _, .nil => .nil
  | _, _, .cons r t => .cons (RepT.mono l r) (RepL.mono l t)
end
section
variable {T : Ty}
theorem RepL.length : ∀ {xs : List PV} {vs : List VV}, RepL T xs vs → xs.length = vs.length
  | _, _, .nil => rfl
  | _, _, .cons _ t => congrArg Nat.succ t.length
theorem RepL.get : ∀ {xs : List PV} {vs : List VV} {i : Nat} {v : VV}, RepL T xs vs → vs[i]? = some v → ∃ x, xs[i]? = some x ∧ RepT T x v
  | _, _, _, _, .nil, e => by simp at e
  | _, _, 0, _, .cons r _, e => by simp at e; subst e; exact ⟨_, rfl, r⟩
  | _, _, i + 1, x, .cons _ t, e => by
    obtain ⟨v, h1, h2⟩ := RepL.get (i := i) (v := x) t (by simpa using e)
    exact ⟨v, by simpa using h1, h2⟩
theorem RepL.append : ∀ {xs ys : List PV} {vs us : List VV}, RepL T xs vs → RepL T ys us → RepL T (xs ++ ys) (vs ++ us)
  | _, _, _, _, .nil, h => h
  | _, _, _, _, .cons r t, h => .cons r (RepL.append t h)
theorem RepL.set {x : PV} {v : VV} (r : RepT T x v) : ∀ {xs : List PV} {vs : List VV} (i : Nat), RepL T xs vs → RepL T (xs.set i x) (vs.set i v)
  | _, _, _, .nil => .nil
  | _, _, 0, .cons _ t => .cons r t
  | _, _, i + 1, .cons q t => .cons q (RepL.set r i t)
theorem RepL.drop : ∀ {xs : List PV} {vs : List VV} (n : Nat), RepL T xs vs → RepL T (xs.drop n) (vs.drop n)
  | _, _, 0, h => h
  | _, _, _ + 1, .nil => .nil
  | _, _, n + 1, .cons _ t => RepL.drop n t
theorem RepL.take : ∀ {xs : List PV} {vs : List VV} (n : Nat), RepL T xs vs → RepL T (xs.take n) (vs.take n)
  | _, _, 0, h => .nil
  | _, _, _ + 1, .nil => .nil
  | _, _, n + 1, .cons r t => .cons r (RepL.take n t)
theorem RepL.reverse {xs : List PV} {vs : List VV} (h : RepL T xs vs) : RepL T xs.reverse vs.reverse := by
  induction xs generalizing vs with
  | nil => cases h; exact .nil
  | cons x xs ih =>
    cases h with
    | cons r t =>
      rw [List.reverse_cons, List.reverse_cons]
      exact (ih t).append (.cons r .nil)
end
/-- pairs -/
def RepKV (T : Ty) (kvs : List (PV × PV)) (kws : List (VV × VV)) : Prop := RepL T (kvs.map (·.1)) (kws.map (·.1)) ∧ RepL T (kvs.map (·.2)) (kws.map (·.2))
inductive RepS (T : Ty) : List (Option PV) → List VV → Prop
  | nil : RepS T [] []
  | und {os vs} (t : RepS T os vs) : RepS T (none :: os) (.und :: vs)
  | cons {x v os vs} (r : RepT T x v) (t : RepS T os vs) : RepS T (some x :: os) (v :: vs)
/-- what stands at a place -/
inductive ObT (T : Ty) : MO → VV → Prop
  | lst {xs vs} (r : RepL T xs vs) : ObT T (.lst xs) (.lst vs)
  | dct {kvs kws} (r : RepKV T kvs kws) : ObT T (.dct kvs) (.dct kws)
  | dtt {kvs kws} (r : RepKV T kvs kws) : ObT T (.dtt kvs) (.dtt kws)
  | ins {c os vs} (r : RepS T os vs) : ObT T (.ins c os) (.obj c vs)
  | exo {c x v} (r : RepT T x v) : ObT T (.exo c x) (.err c v)
  | bxo {n} : ObT T (.bxo n) (.bxe n)
theorem RepS.mono {T T' : Ty} (l : TLe T T') : ∀ {os : List (Option PV)} {vs : List VV}, RepS T os vs → RepS T' os vs
  | _, _, .nil => .nil
  | _, _, .und t => .und (RepS.mono l t)
  | _, _, .cons r t => .cons (r.mono l) (RepS.mono l t)
theorem RepKV.mono {T T' : Ty} (l : TLe T T') {a : List (PV × PV)} {b : List (VV × VV)} (h : RepKV T a b) : RepKV T' a b := ⟨h.1.mono l, h.2.mono l⟩
theorem ObT.mono {T T' : Ty} (l : TLe T T') {o : MO} {v : VV} (h : ObT T o v) : ObT T' o v := by
  cases h with
  | lst r => exact .lst (r.mono l)
  | dct r => exact .dct (r.mono l)
  | dtt r => exact .dtt (r.mono l)
  | ins r => exact .ins (r.mono l)
  | exo r => exact .exo (r.mono l)
  | bxo => exact .bxo
/-- the typed heap -/
def HT (T : Ty) (h : MH) : Prop := ∀ n v, T n = some v → ∃ o, h.get n = some o ∧ ObT T o v
theorem HT.lt {T : Ty} {h : MH} (t : HT T h) {n : Nat} {v : VV} (e : T n = some v) : n < h.nx := let ⟨_, g, _⟩ := t n v e; MH.get_lt g
abbrev VEnv := List (Option VV)
/-- a slot is frozen, one's own, or one's own and never stored to -/
inductive Md where
  | fz | ow | pa
  deriving DecidableEq
abbrev Ow := Nat → Md
/-- the slot i's own object -/
structure OwnAt (T : Ty) (h : MH) (n : Nat) (v : VV) : Prop where
  un : T n = none
  ob : ∃ o, h.get n = some o ∧ ObT T o v
structure SimE (O : Ow) (T : Ty) (h : MH) (ρ : Env) (π : VEnv) : Prop where
  ln : ρ.length = π.length
  fz : ∀ i v, O i = .fz → π[i]? = some (some v) → ∃ x, ρ[i]? = some (some x) ∧ RepT T x v
  ow : ∀ i v, O i ≠ .fz → π[i]? = some (some v) → ∃ n, ρ[i]? = some (some (.ref n)) ∧ OwnAt T h n v
  ds : ∀ i j n v u, O i ≠ .fz → O j ≠ .fz → π[i]? = some (some v) → π[j]? = some (some u) → ρ[i]? = some (some (.ref n)) → ρ[j]? = some (some (.ref n)) → i = j
def Hd (O : Ow) (ρ : Env) (π : VEnv) (n : Nat) : Prop := ∃ i v, O i ≠ .fz ∧ π[i]? = some (some v) ∧ ρ[i]? = some (some (.ref n))
structure Ke (O : Ow) (T : Ty) (h : MH) (ρ : Env) (π : VEnv) (T' : Ty) (h' : MH) (ρ' : Env) (π' : VEnv) : Prop where
  ty : TLe T T'
  ht : HT T' h'
  nx : h.nx ≤ h'.nx
  fr : ∀ n, n < h.nx → T n = none → ¬ Hd O ρ π n → T' n = none ∧ h'.get n = h.get n
  se : SimE O T' h' ρ' π'
  hd : ∀ n, Hd O ρ' π' n → n < h.nx → Hd O ρ π n
  pa : ∀ i, O i = .pa → ρ'[i]? = ρ[i]?
section
variable {O : Ow} {T T1 T2 : Ty} {h h1 h2 : MH} {ρ ρ1 ρ2 : Env} {π π1 π2 : VEnv}
theorem Ke.refl (t : HT T h) (s : SimE O T h ρ π) : Ke O T h ρ π T h ρ π := ⟨TLe.refl T, t, Nat.le_refl _, fun _ _ u _ => ⟨u, rfl⟩, s, fun _ a _ => a, fun _ _ => rfl⟩
theorem Ke.trans (a : Ke O T h ρ π T1 h1 ρ1 π1) (b : Ke O T1 h1 ρ1 π1 T2 h2 ρ2 π2) : Ke O T h ρ π T2 h2 ρ2 π2 where
  ty := a.ty.trans b.ty
  ht := b.ht
  nx := Nat.le_trans a.nx b.nx
  fr := fun n l u d => by
    obtain ⟨u1, g1⟩ := a.fr n l u d
    obtain ⟨u2, g2⟩ := b.fr n (Nat.lt_of_lt_of_le l a.nx) u1 fun z => d (a.hd n z l)
    exact ⟨u2, g2.trans g1⟩
  se := b.se
  hd := fun n z l => a.hd n (b.hd n z (Nat.lt_of_lt_of_le l a.nx)) l
  pa := fun i e => (b.pa i e).trans (a.pa i e)
end
inductive VR (α : Type) where
  | ok (a : α) (π : VEnv)
  | exc (c : Nat) (x : VV) (π : VEnv)
  | bad
abbrev VM (α : Type) := VEnv → VR α
def VR.bind {α β : Type} (m : VR α) (k : α → VM β) : VR β := match m with
  | .ok a π => k a π
  | .exc c x π => .exc c x π
  | .bad => .bad
def VM.ret {α : Type} (a : α) : VM α := fun π => .ok a π
def VM.bad {α : Type} : VM α := fun _ => .bad
def VM.bind {α β : Type} (m : VM α) (k : α → VM β) : VM β := fun π => (m π).bind k
abbrev Rel (α β : Type) := Ty → MH → VEnv → α → β → Prop
/-- how a run over the heap stands to one by content -/
def Sim {α β : Type} (O : Ow) (rel : Rel α β) (T : Ty) (h : MH) (ρ : Env) (π : VEnv) (r : R α) (w : VR β) : Prop := match w with
  | .ok b π' => ∃ a h' T', r = .ok a h' ∧ Ke O T h ρ π T' h' ρ π' ∧ rel T' h' π' a b
  | .exc c v π' => ∃ x h' T', r = .exc c x h' ∧ Ke O T h ρ π T' h' ρ π' ∧ RepT T' x v
  | .bad => True
section
variable {α β γ δ : Type} {O : Ow} {rel : Rel α β} {rel2 : Rel γ δ} {T T1 : Ty} {h h1 : MH} {ρ : Env} {π π1 : VEnv} {r : R α} {w : VR β}
theorem Sim.after (k : Ke O T h ρ π T1 h1 ρ π1) (s : Sim O rel T1 h1 ρ π1 r w) : Sim O rel T h ρ π r w := by
  cases w with
  | ok b π2 => obtain ⟨a, h2, T2, e, k2, q⟩ := s; exact ⟨a, h2, T2, e, k.trans k2, q⟩
  | exc c v π2 => obtain ⟨a, h2, T2, e, k2, q⟩ := s; exact ⟨a, h2, T2, e, k.trans k2, q⟩
  | bad => exact s
theorem Sim.bind {m : M α} {k : α → M γ} {k' : β → VM δ} (s : Sim O rel T h ρ π (m h) w) (f : ∀ a h' T' b π', Ke O T h ρ π T' h' ρ π' → rel T' h' π' a b → Sim O rel2 T' h' ρ π' (k a h') (k' b π')) : Sim O rel2 T h ρ π ((m.bind k) h) (w.bind k') := by
  cases w with
  | ok b π2 =>
    obtain ⟨a, h2, T2, e, k2, q⟩ := s
    rw [M.bind_ok e]
    exact Sim.after k2 (f a h2 T2 b π2 k2 q)
  | exc c v π2 =>
    obtain ⟨a, h2, T2, e, k2, q⟩ := s
    exact ⟨a, h2, T2, by unfold M.bind; rw [e], k2, q⟩
  | bad => exact True.intro
theorem Sim.ret {a : α} {b : β} (t : HT T h) (s : SimE O T h ρ π) (q : rel T h π a b) : Sim O rel T h ρ π (.ok a h) (.ok b π) := ⟨a, h, T, rfl, Ke.refl t s, q⟩
theorem Sim.imp {rel' : Rel α β} (s : Sim O rel T h ρ π r w) (f : ∀ T h π a b, rel T h π a b → rel' T h π a b) : Sim O rel' T h ρ π r w := by
  cases w with
  | ok b π2 => obtain ⟨a, h2, T2, e, k2, q⟩ := s; exact ⟨a, h2, T2, e, k2, f _ _ _ _ _ q⟩
  | exc c v π2 => exact s
  | bad => exact s
end
def relV : Rel PV VV := fun T _ _ x v => RepT T x v
def relB : Rel Bool Bool := fun _ _ _ a b => a = b
/-- a new object, not shared -/
def relF (O : Ow) (h0 : MH) (ρ : Env) (π0 : VEnv) : Rel PV VV := fun T h π x v => ∃ n, x = .ref n ∧ (h0.nx ≤ n ∨ Hd O ρ π0 n) ∧ ¬ Hd O ρ π n ∧ OwnAt T h n v
abbrev VE := VM VV
abbrev VT := VM Bool
def RG {α β : Type} (O : Ow) (rel : MH → Env → VEnv → Rel α β) (f : Env → M α) (g : VM β) : Prop := ∀ T h ρ π, HT T h → SimE O T h ρ π → Sim O (rel h ρ π) T h ρ π (f ρ h) (g π)
abbrev RE (O : Ow) (f : EF) (g : VE) : Prop := RG O (fun _ _ _ => relV) f g
abbrev RT (O : Ow) (f : TF) (g : VT) : Prop := RG O (fun _ _ _ => relB) f g
/-- .. of a new object that nobody else holds -/
abbrev RO (O : Ow) (f : EF) (g : VE) : Prop := RG O (relF O) f g
section
variable {O : Ow} {f : EF} {g : VE} {T : Ty} {h : MH} {ρ : Env} {π : VEnv}
def tyN (T : Ty) (n : Nat) (v : VV) : Ty := fun m => if m = n then some v else T m
theorem tyN_le {n : Nat} {v : VV} (u : T n = none) : TLe T (tyN T n v) := fun m w e => by
  unfold tyN
  by_cases z : m = n
  · rw [z, u] at e; cases e
  · rw [if_neg z]; exact e
theorem tyN_same {n : Nat} {v : VV} : tyN T n v n = some v := by unfold tyN; rw [if_pos rfl]
theorem tyN_ne {n m : Nat} {v : VV} (z : m ≠ n) : tyN T n v m = T m := by unfold tyN; rw [if_neg z]
theorem HT.type {n : Nat} {v : VV} (t : HT T h) (a : OwnAt T h n v) : HT (tyN T n v) h := fun m w e => by
  have l := tyN_le (v := v) a.un
  by_cases z : m = n
  · rw [z, tyN_same] at e
    cases e
    obtain ⟨o, g, q⟩ := a.ob
    exact ⟨o, by rw [z]; exact g, q.mono l⟩
  · rw [tyN_ne z] at e
    obtain ⟨o, g, q⟩ := t m w e
    exact ⟨o, g, q.mono l⟩
/-- what is not shared and no slot's becomes frozen -/
theorem SimE.type {n : Nat} {v : VV} (s : SimE O T h ρ π) (a : OwnAt T h n v) (d : ¬ Hd O ρ π n) : SimE O (tyN T n v) h ρ π where
  ln := s.ln
  fz := fun i w e p => let ⟨x, q, r⟩ := s.fz i w e p; ⟨x, q, r.mono (tyN_le a.un)⟩
  ow := fun i w e p => by
    obtain ⟨m, q, r⟩ := s.ow i w e p
    have z : m ≠ n := fun z => d ⟨i, w, e, p, by rw [← z]; exact q⟩
    obtain ⟨o, g, b⟩ := r.ob
    exact ⟨m, q, by rw [tyN_ne z]; exact r.un, o, g, b.mono (tyN_le a.un)⟩
  ds := s.ds
theorem SimE.hlt (s : SimE O T h ρ π) {n : Nat} (d : Hd O ρ π n) : n < h.nx := by
  obtain ⟨i, v, e, p, q⟩ := d
  obtain ⟨m, q2, r⟩ := s.ow i v e p
  rw [q] at q2
  cases q2
  obtain ⟨o, g, _⟩ := r.ob
  exact MH.get_lt g
theorem SimE.hun (s : SimE O T h ρ π) {n : Nat} (d : Hd O ρ π n) : T n = none := by
  obtain ⟨i, v, e, p, q⟩ := d
  obtain ⟨m, q2, r⟩ := s.ow i v e p
  rw [q] at q2
  cases q2
  exact r.un
/-- frozen -/
theorem Ke.type {T1 : Ty} {h1 : MH} {ρ1 : Env} {π1 : VEnv} {n : Nat} {v : VV} (k : Ke O T h ρ π T1 h1 ρ1 π1) (l : h.nx ≤ n ∨ Hd O ρ π n) (a : OwnAt T1 h1 n v) (d : ¬ Hd O ρ1 π1 n) : Ke O T h ρ π (tyN T1 n v) h1 ρ1 π1 where
  ty := k.ty.trans (tyN_le a.un)
  ht := k.ht.type a
  nx := k.nx
  fr := fun m lm um dm => by
    obtain ⟨u, g⟩ := k.fr m lm um dm
    refine ⟨?_, g⟩
    rw [tyN_ne]
    · exact u
    · rintro rfl
      rcases l with l | l
      · omega
      · exact dm l
  se := k.se.type a d
  hd := k.hd
  pa := k.pa
theorem RO.fz (r : RO O f g) : RE O f g := fun T h ρ π t s => by
  have q := r T h ρ π t s
  revert q
  cases g π with
  | ok b π' =>
    rintro ⟨a, h', T', e, k, n, rfl, l, d, w⟩
    exact ⟨_, h', tyN T' n b, e, k.type l w d, .ref tyN_same⟩
  | exc c v π' => exact id
  | bad => exact id
/-- a new object -/
theorem HT.new {o : MO} (t : HT T h) : HT T (h.new o) := fun n v e => let ⟨o', g, q⟩ := t n v e; ⟨o', MH.get_new_old g, q⟩
theorem SimE.new {o : MO} (s : SimE O T h ρ π) : SimE O T (h.new o) ρ π where
  ln := s.ln
  fz := s.fz
  ow := fun i v e p => let ⟨n, q, r⟩ := s.ow i v e p; ⟨n, q, r.un, let ⟨o', g, b⟩ := r.ob; ⟨o', MH.get_new_old g, b⟩⟩
  ds := s.ds
theorem Ke.new {o : MO} (t : HT T h) (s : SimE O T h ρ π) : Ke O T h ρ π T (h.new o) ρ π := ⟨TLe.refl T, t.new, Nat.le_succ _, fun n l u _ => ⟨u, MH.get_new_ne (Nat.ne_of_lt l)⟩, s.new, fun _ a _ => a, fun _ _ => rfl⟩
theorem HT.nx (t : HT T h) : T h.nx = none := by
  cases e : T h.nx with
  | none => rfl
  | some v => exact absurd (t.lt e) (Nat.lt_irrefl _)
theorem new_rel {o : MO} {v : VV} (t : HT T h) (s : SimE O T h ρ π) (q : ObT T o v) : relF O h ρ π T (h.new o) π (.ref h.nx) v :=
  ⟨h.nx, rfl, .inl (Nat.le_refl _), fun d => Nat.lt_irrefl _ (s.hlt d), t.nx, o, MH.get_new, q⟩
theorem relF.at {x : PV} {v : VV} {T1 T2 : Ty} {h1 h2 : MH} {π1 π2 : VEnv} (k : Ke O T h ρ π T1 h1 ρ π1) (q : relF O h1 ρ π1 T2 h2 π2 x v) : relF O h ρ π T2 h2 π2 x v := by
  obtain ⟨n, e, l, d, w⟩ := q
  refine ⟨n, e, ?_, d, w⟩
  rcases l with l | l
  · exact .inl (Nat.le_trans k.nx l)
  · by_cases z : n < h.nx
    · exact .inr (k.hd n l z)
    · exact .inl (by omega)
def vVar (i : Nat) : VE := fun π => match π[i]? with
  | some (some v) => .ok v π
  | _ => .bad
def vC (v : VV) : VE := fun π => .ok v π
theorem re_var {i : Nat} (o : O i = .fz) : RE O (eVar i) (vVar i) := fun T h ρ π t s => by
  unfold vVar
  cases e : π[i]? with
  | none => exact True.intro
  | some w =>
    cases w with
    | none => exact True.intro
    | some v =>
      obtain ⟨x, q, r⟩ := s.fz i v o e
      unfold eVar
      rw [q]
      exact Sim.ret t s r
theorem re_c {x : PV} {v : VV} (r : ∀ T, RepT T x v) : RE O (eC x) (vC v) := fun T h ρ π t s => Sim.ret t s (r T)
/-- a slot's own object is given away -/
def vMv (i : Nat) : VE := fun π => match π[i]? with
  | some (some v) => .ok v (π.set i none)
  | _ => .bad
theorem ro_mv {i : Nat} (o : O i = .ow) : RO O (eVar i) (vMv i) := fun T h ρ π t s => by
  unfold vMv
  cases e : π[i]? with
  | none => exact True.intro
  | some w =>
    cases w with
    | none => exact True.intro
    | some v =>
      have oi : O i ≠ .fz := by rw [o]; exact fun z => nomatch z
      obtain ⟨n, q, r⟩ := s.ow i v oi e
      unfold eVar
      rw [q]
      have get : ∀ j u, (π.set i none)[j]? = some (some u) → j ≠ i ∧ π[j]? = some (some u) := fun j u p => by
        by_cases z : j = i
        · subst z
          have : (π.set j none)[j]? = some none := List.getElem?_set_self (by
            rcases Nat.lt_or_ge j π.length with l | l
            · exact l
            · rw [List.getElem?_eq_none_iff.mpr l] at e; cases e)
          rw [this] at p; cases p
        · rw [List.getElem?_set_ne (Ne.symm z)] at p
          exact ⟨z, p⟩
      refine ⟨_, h, T, rfl, ⟨TLe.refl T, t, Nat.le_refl _, fun _ _ u _ => ⟨u, rfl⟩, ⟨by rw [List.length_set]; exact s.ln, fun j u ej p => s.fz j u ej (get j u p).2, fun j u ej p => s.ow j u ej (get j u p).2, fun a b m x y ea eb pa pb => s.ds a b m x y ea eb (get _ _ pa).2 (get _ _ pb).2⟩, ?_, fun _ _ => rfl⟩, n, rfl, .inr ⟨i, v, oi, e, q⟩, ?_, r⟩
      · rintro m ⟨j, u, ej, p, pq⟩ _
        exact ⟨j, u, ej, (get _ _ p).2, pq⟩
      · rintro ⟨j, u, ej, p, pq⟩
        exact (get _ _ p).1 (s.ds j i n u v ej oi (get _ _ p).2 e pq q)
end
end VX

set_option Elab.async false
set_option linter.all false
set_option maxRecDepth 100000
set_option maxHeartbeats 1000000
namespace VX
open FX
inductive VArg where
  | v (x : VV)
  | s (i : Nat)
inductive RelAs (O : Ow) (ρ : Env) (T : Ty) : List PV → List VArg → Prop
  | nil : RelAs O ρ T [] []
  | v {x v xs as} (r : RepT T x v) (t : RelAs O ρ T xs as) : RelAs O ρ T (x :: xs) (.v v :: as)
  | s {x i xs as} (o : O i ≠ .fz) (r : ρ[i]? = some (some x)) (t : RelAs O ρ T xs as) : RelAs O ρ T (x :: xs) (.s i :: as)
theorem RelAs.mono {O : Ow} {ρ : Env} {T T' : Ty} (l : TLe T T') {xs : List PV} {as : List VArg} (h : RelAs O ρ T xs as) : RelAs O ρ T' xs as := by
  induction h with
  | nil => exact .nil
  | v r t ih => exact .v (r.mono l) ih
  | s o r t ih => exact .s o r ih
theorem RelAs.append {O : Ow} {ρ : Env} {T : Ty} {xs ys : List PV} {as bs : List VArg} (h : RelAs O ρ T xs as) (h2 : RelAs O ρ T ys bs) : RelAs O ρ T (xs ++ ys) (as ++ bs) := by
  induction h with
  | nil => exact h2
  | v r t ih => exact .v r ih
  | s o r t ih => exact .s o r ih
theorem RelAs.vals {O : Ow} {ρ : Env} {T : Ty} : ∀ {xs : List PV} {vs : List VV}, RepL T xs vs → RelAs O ρ T xs (vs.map .v)
  | _, _, .nil => .nil
  | _, _, .cons r t => .v r (RelAs.vals t)
abbrev VA := VM (List VArg)
abbrev RA (O : Ow) (f : AF) (g : VA) : Prop := RG O (fun _ ρ _ => fun T _ _ xs as => RelAs O ρ T xs as) f g
def vNil : VA := fun π => .ok [] π
def vCons (a : VE) (r : VA) : VA := fun π => (a π).bind fun v π1 => (r π1).bind fun as π2 => .ok (.v v :: as) π2
def vSl (i : Nat) (r : VA) : VA := fun π => match π[i]? with
  | some (some _) => (r π).bind fun as π2 => .ok (.s i :: as) π2
  | _ => .bad
section
variable {O : Ow} {T : Ty} {h : MH} {ρ : Env} {π : VEnv} {f : EF} {g : VE} {r : AF} {gr : VA}
theorem ra_nil : RA O aNil vNil := fun T h ρ π t s => Sim.ret t s .nil
theorem ra_cons (a : RE O f g) (b : RA O r gr) : RA O (aCons f r) (vCons g gr) := fun T h ρ π t s =>
  (a T h ρ π t s).bind fun x h1 T1 v π1 k1 q1 => (b T1 h1 ρ π1 k1.ht k1.se).bind fun xs h2 T2 as π2 k2 q2 => Sim.ret k2.ht k2.se (.v (RepT.mono k2.ty q1) q2)
theorem ra_sl {i : Nat} (o : O i ≠ .fz) (b : RA O r gr) : RA O (aCons (eVar i) r) (vSl i gr) := fun T h ρ π t s => by
  unfold vSl
  cases e : π[i]? with
  | none => exact True.intro
  | some w =>
    cases w with
    | none => exact True.intro
    | some v =>
      obtain ⟨n, q, _⟩ := s.ow i v o e
      have ev : eVar i ρ h = .ok (.ref n) h := by unfold eVar; rw [q]
      show Sim O _ T h ρ π (((eVar i ρ).bind fun x => (r ρ).bind fun xs => M.ret (x :: xs)) h) _
      rw [M.bind_ok ev]
      exact (b T h ρ π t s).bind fun xs h2 T2 as π2 k2 q2 => Sim.ret k2.ht k2.se (.s o q q2)
end
def derefA (π : VEnv) : List VArg → Option (List VV)
  | [] => some []
  | .v x :: as => (derefA π as).map (x :: ·)
  | .s i :: as => match π[i]? with
    | some (some x) => (derefA π as).map (x :: ·)
    | _ => none
def RepB (T : Ty) (h : MH) (x : PV) (v : VV) : Prop := RepT T x v ∨ ∃ n, x = .ref n ∧ OwnAt T h n v
inductive RepBL (T : Ty) (h : MH) : List PV → List VV → Prop
  | nil : RepBL T h [] []
  | cons {x v xs vs} (r : RepB T h x v) (t : RepBL T h xs vs) : RepBL T h (x :: xs) (v :: vs)
section
variable {O : Ow} {T : Ty} {h : MH} {ρ : Env} {π : VEnv}
theorem deref_rel (s : SimE O T h ρ π) {xs : List PV} {as : List VArg} (r : RelAs O ρ T xs as) : ∀ {vs : List VV}, derefA π as = some vs → RepBL T h xs vs := by
  induction r with
  | nil => intro vs e; cases e; exact .nil
  | @v x v xs as r t ih =>
    intro vs e
    unfold derefA at e
    cases q : derefA π as with
    | none => rw [q] at e; cases e
    | some us => rw [q] at e; cases e; exact .cons (.inl r) (ih q)
  | @s x i xs as o r t ih =>
    intro vs e
    unfold derefA at e
    split at e
    · rename_i v p
      cases q : derefA π as with
      | none => rw [q] at e; cases e
      | some us =>
        rw [q] at e
        cases e
        obtain ⟨n, q2, w⟩ := s.ow i v o p
        rw [r] at q2
        cases q2
        exact .cons (.inr ⟨n, rfl, w⟩) (ih q)
    · cases e
end
inductive PR where
  | ok (v : VV)
  | nw (v : VV)
  | exc (c : Nat) (v : VV)
  | bad
abbrev QF := List VV → PR
def PRes (T : Ty) (h : MH) (r : R PV) : PR → Prop
  | .ok v => ∃ x, r = .ok x h ∧ RepT T x v
  | .nw v => ∃ o, r = .ok (.ref h.nx) (h.new o) ∧ ObT T o v
  | .exc c v => ∃ x, r = .exc c x h ∧ RepT T x v
  | .bad => True
/-- what looks at its arguments; what takes them in -/
def POp (p : FF) (q : QF) : Prop := ∀ T h xs vs, HT T h → RepBL T h xs vs → PRes T h (p xs h) (q vs)
def PTp (p : FF) (q : QF) : Prop := ∀ T h xs vs, HT T h → RepL T xs vs → PRes T h (p xs h) (q vs)
def prE (π : VEnv) : PR → VR VV
  | .ok v => .ok v π
  | .nw v => .ok v π
  | .exc c v => .exc c v π
  | .bad => .bad
def prO (π : VEnv) : PR → VR VV
  | .nw v => .ok v π
  | .exc c v => .exc c v π
  | _ => .bad
def vApp (q : QF) (ga : VA) : VE := fun π => (ga π).bind fun as π1 => match derefA π1 as with
  | none => .bad
  | some vs => prE π1 (q vs)
def vApO (q : QF) (ga : VA) : VE := fun π => (ga π).bind fun as π1 => match derefA π1 as with
  | none => .bad
  | some vs => prO π1 (q vs)
section
variable {O : Ow} {T : Ty} {h : MH} {ρ : Env} {π : VEnv} {p : FF} {q : QF} {ra : AF} {ga : VA}
theorem prE_sim {r : R PV} {w : PR} (t : HT T h) (s : SimE O T h ρ π) (z : PRes T h r w) : Sim O relV T h ρ π r (prE π w) := by
  cases w with
  | ok v => obtain ⟨x, e, q⟩ := z; exact ⟨x, h, T, e, Ke.refl t s, q⟩
  | nw v =>
    obtain ⟨o, e, q⟩ := z
    obtain ⟨n, e2, l, d, w⟩ := new_rel t s q
    cases e2
    exact ⟨_, _, _, e, (Ke.new t s).type l w d, .ref tyN_same⟩
  | exc c v => obtain ⟨x, e, q⟩ := z; exact ⟨x, h, T, e, Ke.refl t s, q⟩
  | bad => exact True.intro
theorem prO_sim {r : R PV} {w : PR} (t : HT T h) (s : SimE O T h ρ π) (z : PRes T h r w) : Sim O (relF O h ρ π) T h ρ π r (prO π w) := by
  cases w with
  | ok v => exact True.intro
  | nw v => obtain ⟨o, e, q⟩ := z; exact ⟨_, _, _, e, Ke.new t s, new_rel t s q⟩
  | exc c v => obtain ⟨x, e, q⟩ := z; exact ⟨x, h, T, e, Ke.refl t s, q⟩
  | bad => exact True.intro
theorem re_app (pk : POp p q) (a : RA O ra ga) : RE O (eApp p ra) (vApp q ga) := fun T h ρ π t s =>
  (a T h ρ π t s).bind fun xs h1 T1 as π1 k1 q1 => by
    cases e : derefA π1 as with
    | none => exact True.intro
    | some vs => exact prE_sim k1.ht k1.se (pk T1 h1 xs vs k1.ht (deref_rel k1.se q1 e))
theorem ro_app (pk : POp p q) (a : RA O ra ga) : RO O (eApp p ra) (vApO q ga) := fun T h ρ π t s =>
  (a T h ρ π t s).bind fun xs h1 T1 as π1 k1 q1 => by
    cases e : derefA π1 as with
    | none => exact True.intro
    | some vs => exact (prO_sim k1.ht k1.se (pk T1 h1 xs vs k1.ht (deref_rel k1.se q1 e))).imp fun _ _ _ _ _ z => relF.at k1 z
def two (g : PV → PV → M PV) : FF := fun xs => match xs with
  | [x, y] => g x y
  | _ => M.bad
def one (g : PV → M PV) : FF := fun xs => match xs with
  | [x] => g x
  | _ => M.bad
theorem eOp_app {g : PV → PV → M PV} {a b : EF} : eOp g a b = eApp (two g) (aCons a (aCons b aNil)) := by
  funext ρ
  unfold eOp eApp aCons aNil
  simp only [M.bind_assoc, M.ret_bind]
  rfl
theorem eUn_app {g : PV → M PV} {a : EF} : eUn g a = eApp (one g) (aCons a aNil) := by
  funext ρ
  unfold eUn eApp aCons aNil
  simp only [M.bind_assoc, M.ret_bind]
  rfl
theorem re_op {g : PV → PV → M PV} {a b : EF} (pk : POp (two g) q) (x : RA O (aCons a (aCons b aNil)) ga) : RE O (eOp g a b) (vApp q ga) := by
  rw [eOp_app]; exact re_app pk x
theorem ro_op {g : PV → PV → M PV} {a b : EF} (pk : POp (two g) q) (x : RA O (aCons a (aCons b aNil)) ga) : RO O (eOp g a b) (vApO q ga) := by
  rw [eOp_app]; exact ro_app pk x
theorem re_un {g : PV → M PV} {a : EF} (pk : POp (one g) q) (x : RA O (aCons a aNil) ga) : RE O (eUn g a) (vApp q ga) := by
  rw [eUn_app]; exact re_app pk x
theorem ro_un {g : PV → M PV} {a : EF} (pk : POp (one g) q) (x : RA O (aCons a aNil) ga) : RO O (eUn g a) (vApO q ga) := by
  rw [eUn_app]; exact ro_app pk x
end
/-- all are frozen -/
def vFr : List VArg → Bool
  | [] => true
  | .v _ :: as => vFr as
  | .s _ :: _ => false
def vTk (q : QF) (ga : VA) : VE := fun π => (ga π).bind fun as π1 => if vFr as then (match derefA π1 as with
  | none => .bad
  | some vs => prE π1 (q vs)) else .bad
def vTkO (q : QF) (ga : VA) : VE := fun π => (ga π).bind fun as π1 => if vFr as then (match derefA π1 as with
  | none => .bad
  | some vs => prO π1 (q vs)) else .bad
theorem frz_rel {O : Ow} {ρ : Env} {T : Ty} {π : VEnv} {xs : List PV} {as : List VArg} (r : RelAs O ρ T xs as) : ∀ {vs : List VV}, vFr as = true → derefA π as = some vs → RepL T xs vs := by
  induction r with
  | nil => intro vs _ e; cases e; exact .nil
  | @v x v xs as r t ih =>
    intro vs f e
    unfold derefA at e
    cases q : derefA π as with
    | none => rw [q] at e; cases e
    | some us => rw [q] at e; cases e; exact .cons r (ih f q)
  | s o r t ih => intro vs f; cases f
section
variable {O : Ow} {T : Ty} {h : MH} {ρ : Env} {π : VEnv} {p : FF} {q : QF} {ra : AF} {ga : VA}
theorem re_tk (pk : PTp p q) (a : RA O ra ga) : RE O (eApp p ra) (vTk q ga) := fun T h ρ π t s =>
  (a T h ρ π t s).bind fun xs h1 T1 as π1 k1 q1 => by
    by_cases f : vFr as = true
    · rw [if_pos f]
      cases e : derefA π1 as with
      | none => exact True.intro
      | some vs => exact prE_sim k1.ht k1.se (pk T1 h1 xs vs k1.ht (frz_rel q1 f e))
    · rw [if_neg f]; exact True.intro
theorem ro_tk (pk : PTp p q) (a : RA O ra ga) : RO O (eApp p ra) (vTkO q ga) := fun T h ρ π t s =>
  (a T h ρ π t s).bind fun xs h1 T1 as π1 k1 q1 => by
    by_cases f : vFr as = true
    · rw [if_pos f]
      cases e : derefA π1 as with
      | none => exact True.intro
      | some vs => exact (prO_sim k1.ht k1.se (pk T1 h1 xs vs k1.ht (frz_rel q1 f e))).imp fun _ _ _ _ _ z => relF.at k1 z
    · rw [if_neg f]; exact True.intro
def qTup : QF := fun vs => if vs.length ≤ 10000000 then .ok (.tup vs) else .bad
def qLst : QF := fun vs => if vs.length ≤ 10000000 then .nw (.lst vs) else .bad
theorem eTup_app {ra : AF} : eTup ra = eApp (fun xs => if xs.length ≤ 10000000 then M.ret (.tup xs) else M.bad) ra := rfl
theorem eLst_app {ra : AF} : eLst ra = eApp (fun xs => if xs.length ≤ 10000000 then mNew (.lst xs) else M.bad) ra := rfl
theorem re_tup (a : RA O ra ga) : RE O (eTup ra) (vTk qTup ga) := re_tk (fun T h xs vs t r => by
  unfold qTup
  by_cases l : vs.length ≤ 10000000
  · rw [if_pos l]
    rw [if_pos (by rw [r.length]; exact l)]
    exact ⟨_, rfl, .tup r⟩
  · rw [if_neg l]; exact True.intro) a
theorem ro_lst (a : RA O ra ga) : RO O (eLst ra) (vTkO qLst ga) := ro_tk (fun T h xs vs t r => by
  unfold qLst
  by_cases l : vs.length ≤ 10000000
  · rw [if_pos l]
    rw [if_pos (by rw [r.length]; exact l)]
    exact ⟨_, rfl, .lst r⟩
  · rw [if_neg l]; exact True.intro) a
end
def truV : VV → Option Bool
  | .non => some false
  | .bl b => some b
  | .int i => some (i != 0)
  | .tup xs => some (!xs.isEmpty)
  | .lst xs => some (!xs.isEmpty)
  | .kl xs => some (!xs.isEmpty)
  | _ => none
theorem emptyL {T : Ty} {xs : List PV} {vs : List VV} (r : RepL T xs vs) : xs.isEmpty = vs.isEmpty := by cases r <;> rfl
theorem ob_at {T : Ty} {h : MH} {n : Nat} {v : VV} (t : HT T h) (r : RepB T h (.ref n) v) : ∃ o, h.get n = some o ∧ ObT T o v := by
  rcases r with r | ⟨m, e, w⟩
  · cases r with
    | ref e => exact t n v e
  · cases e
    exact w.ob
theorem tru_rel {T : Ty} {h : MH} {x : PV} {v : VV} {b : Bool} (t : HT T h) (r : RepB T h x v) (e : truV v = some b) : tru x h = .ok b h := by
  have rr : ∀ n, x = .ref n → tru x h = .ok b h := by
    rintro n rfl
    obtain ⟨o, g, q⟩ := ob_at t r
    cases q with
    | lst r2 =>
      cases e
      show mAt n _ h = _
      rw [mAt_ok g]
      exact congrArg (fun z => R.ok (!z) h) (emptyL r2)
    | _ => cases e
  rcases r with r | ⟨m, e2, w⟩
  · cases r with
    | non => cases e; rfl
    | bl => cases e; rfl
    | int => cases e; rfl
    | str => cases e
    | ty => cases e
    | tup r => cases e; exact congrArg (fun z => R.ok (!z) h) (emptyL r)
    | kl r => cases e; exact congrArg (fun z => R.ok (!z) h) (emptyL r)
    | ref e2 => exact rr _ rfl
  · exact rr _ e2
def vTru (v : VV) : VT := fun π => match truV v with
  | some b => .ok b π
  | none => .bad
def vOf (a : VE) : VT := fun π => (a π).bind vTru
def vOfS (i : Nat) : VT := fun π => match π[i]? with
  | some (some v) => vTru v π
  | _ => .bad
def vAsB (v : VV) : VT := fun π => match v with
  | .bl b => .ok b π
  | _ => .bad
def vCm (a : VE) : VT := fun π => (a π).bind vAsB
def vNo (t : VT) : VT := fun π => (t π).bind fun b π => .ok (!b) π
def vAn (t u : VT) : VT := fun π => (t π).bind fun b π => if b then u π else .ok false π
def vOo (t u : VT) : VT := fun π => (t π).bind fun b π => if b then .ok true π else u π
def vYes : VT := fun π => .ok true π
section
variable {O : Ow} {f f2 : EF} {g g2 : VE} {t u : TF} {vt vu : VT}
theorem vTru_sim {T : Ty} {h : MH} {ρ : Env} {π : VEnv} {x : PV} {v : VV} (t : HT T h) (s : SimE O T h ρ π) (r : RepB T h x v) : Sim O relB T h ρ π (tru x h) (vTru v π) := by
  unfold vTru
  cases e : truV v with
  | none => exact True.intro
  | some b => rw [tru_rel t r e]; exact Sim.ret t s rfl
theorem rt_of (a : RE O f g) : RT O (tOf f) (vOf g) := fun T h ρ π t s => (a T h ρ π t s).bind fun x h1 T1 v π1 k q => vTru_sim k.ht k.se (.inl q)
theorem rt_ofS {i : Nat} (o : O i ≠ .fz) : RT O (tOf (eVar i)) (vOfS i) := fun T h ρ π t s => by
  unfold vOfS
  cases e : π[i]? with
  | none => exact True.intro
  | some w =>
    cases w with
    | none => exact True.intro
    | some v =>
      obtain ⟨n, q, w⟩ := s.ow i v o e
      have ev : eVar i ρ h = .ok (.ref n) h := by unfold eVar; rw [q]
      show Sim O _ T h ρ π (((eVar i ρ).bind tru) h) _
      rw [M.bind_ok ev]
      exact vTru_sim t s (.inr ⟨n, rfl, w⟩)
theorem vAsB_sim {T : Ty} {h : MH} {ρ : Env} {π : VEnv} {x : PV} {v : VV} (t : HT T h) (s : SimE O T h ρ π) (r : RepT T x v) : Sim O relB T h ρ π (asB x h) (vAsB v π) := by
  cases r <;> first | exact Sim.ret t s rfl | exact True.intro | skip
  rename_i n e
  obtain ⟨o, g, q⟩ := t _ _ e
  cases q <;> exact True.intro
theorem rt_cm {p : PV → PV → M PV} {a b : EF} {w : VE} (r : RE O (eOp p a b) w) : RT O (tCm p a b) (vCm w) := fun T h ρ π t s => (r T h ρ π t s).bind fun x h1 T1 v π1 k q => vAsB_sim k.ht k.se q
theorem rt_no (a : RT O t vt) : RT O (tNo t) (vNo vt) := fun T h ρ π t s => (a T h ρ π t s).bind fun x h1 T1 v π1 k q => Sim.ret k.ht k.se (by rw [show x = v from q]; exact rfl)
theorem rt_an (a : RT O t vt) (b : RT O u vu) : RT O (tAn t u) (vAn vt vu) := fun T h ρ π t s => (a T h ρ π t s).bind fun x h1 T1 v π1 k q => by
  rw [show x = v from q]
  cases v with
  | true => exact b T1 h1 ρ π1 k.ht k.se
  | false => exact Sim.ret k.ht k.se rfl
theorem rt_oo (a : RT O t vt) (b : RT O u vu) : RT O (tOo t u) (vOo vt vu) := fun T h ρ π t s => (a T h ρ π t s).bind fun x h1 T1 v π1 k q => by
  rw [show x = v from q]
  cases v with
  | false => exact b T1 h1 ρ π1 k.ht k.se
  | true => exact Sim.ret k.ht k.se rfl
theorem rt_yes : RT O tYes vYes := fun T h ρ π t s => Sim.ret t s rfl
def vIf (t : VT) (a b : VE) : VE := fun π => (t π).bind fun k π1 => if k then a π1 else b π1
theorem re_if (c : RT O t vt) (a : RE O f g) (b : RE O f2 g2) : RE O (eIf t f f2) (vIf vt g g2) := fun T h ρ π t s => (c T h ρ π t s).bind fun x h1 T1 v π1 k q => by
  rw [show x = v from q]
  cases v with
  | true => exact a T1 h1 ρ π1 k.ht k.se
  | false => exact b T1 h1 ρ π1 k.ht k.se
theorem rg_at {α β : Type} {rel : MH → Env → VEnv → Rel α β} {f : Env → M α} {g : VM β} (a : RG O rel f g) {T T1 : Ty} {h h1 : MH} {ρ : Env} {π π1 : VEnv} (k : Ke O T h ρ π T1 h1 ρ π1) (m : ∀ T' h' π' a b, rel h1 ρ π1 T' h' π' a b → rel h ρ π T' h' π' a b) : Sim O (rel h ρ π) T1 h1 ρ π1 (f ρ h1) (g π1) :=
  (a T1 h1 ρ π1 k.ht k.se).imp m
theorem ro_if (c : RT O t vt) (a : RO O f g) (b : RO O f2 g2) : RO O (eIf t f f2) (vIf vt g g2) := fun T h ρ π t s => (c T h ρ π t s).bind fun x h1 T1 v π1 k q => by
  rw [show x = v from q]
  cases v with
  | true => exact rg_at a k fun T' h' π' a b q => relF.at k q
  | false => exact rg_at b k fun T' h' π' a b q => relF.at k q
def vAnE (a b : VE) : VE := fun π => (a π).bind fun v π1 => (vTru v π1).bind fun k π2 => if k then b π2 else .ok v π2
def vOoE (a b : VE) : VE := fun π => (a π).bind fun v π1 => (vTru v π1).bind fun k π2 => if k then .ok v π2 else b π2
def vNoE (a : VE) : VE := fun π => (a π).bind fun v π1 => (vTru v π1).bind fun k π2 => .ok (.bl (!k)) π2
theorem re_an (a : RE O f g) (b : RE O f2 g2) : RE O (eAn f f2) (vAnE g g2) := fun T h ρ π t s => (a T h ρ π t s).bind fun x h1 T1 v π1 k q => (vTru_sim k.ht k.se (.inl q)).bind fun y h2 T2 w π2 k2 q2 => by
  rw [show y = w from q2]
  cases w with
  | true => exact b T2 h2 ρ π2 k2.ht k2.se
  | false => exact Sim.ret k2.ht k2.se (RepT.mono k2.ty q)
theorem re_oo (a : RE O f g) (b : RE O f2 g2) : RE O (eOo f f2) (vOoE g g2) := fun T h ρ π t s => (a T h ρ π t s).bind fun x h1 T1 v π1 k q => (vTru_sim k.ht k.se (.inl q)).bind fun y h2 T2 w π2 k2 q2 => by
  rw [show y = w from q2]
  cases w with
  | false => exact b T2 h2 ρ π2 k2.ht k2.se
  | true => exact Sim.ret k2.ht k2.se (RepT.mono k2.ty q)
theorem re_no (a : RE O f g) : RE O (eNo f) (vNoE g) := fun T h ρ π t s => (a T h ρ π t s).bind fun x h1 T1 v π1 k q => (vTru_sim k.ht k.se (.inl q)).bind fun y h2 T2 w π2 k2 q2 => by
  rw [show y = w from q2]
  exact Sim.ret k2.ht k2.se .bl
end
inductive FR where
  | ok (v : VV) (outs : List VV)
  | exc (c : Nat) (v : VV) (outs : List VV)
  | bad
abbrev GV := List VV → FR
inductive ArgR (T : Ty) (h : MH) : List Bool → List PV → List VV → Prop
  | nil : ArgR T h [] [] []
  | v {m x v xs vs} (r : RepT T x v) (t : ArgR T h m xs vs) : ArgR T h (false :: m) (x :: xs) (v :: vs)
  | s {m n v xs vs} (r : OwnAt T h n v) (t : ArgR T h m xs vs) : ArgR T h (true :: m) (.ref n :: xs) (v :: vs)
def hdl : List Bool → List PV → List Nat
  | true :: m, .ref n :: xs => n :: hdl m xs
  | _ :: m, _ :: xs => hdl m xs
  | _, _ => []
inductive OutR (T : Ty) (h : MH) : List Nat → List VV → Prop
  | nil : OutR T h [] []
  | cons {n v ns vs} (r : OwnAt T h n v) (t : OutR T h ns vs) : OutR T h (n :: ns) (v :: vs)
structure Kf (ms : List Bool) (T : Ty) (h : MH) (xs : List PV) (T' : Ty) (h' : MH) (outs : List VV) : Prop where
  ty : TLe T T'
  ht : HT T' h'
  nx : h.nx ≤ h'.nx
  fr : ∀ n, n < h.nx → T n = none → n ∉ hdl ms xs → T' n = none ∧ h'.get n = h.get n
  ou : OutR T' h' (hdl ms xs) outs
def RetR (fr : Bool) (h0 : MH) (T : Ty) (h : MH) (ns : List Nat) (x : PV) (v : VV) : Prop := if fr then ∃ n, x = .ref n ∧ h0.nx ≤ n ∧ n ∉ ns ∧ OwnAt T h n v else RepT T x v
def FRs (ms : List Bool) (fr : Bool) (T : Ty) (h : MH) (xs : List PV) (r : R PV) : FR → Prop
  | .ok v outs => ∃ x h' T', r = .ok x h' ∧ Kf ms T h xs T' h' outs ∧ RetR fr h T' h' (hdl ms xs) x v
  | .exc c v outs => ∃ x h' T', r = .exc c x h' ∧ Kf ms T h xs T' h' outs ∧ RepT T' x v
  | .bad => True
def RF (ms : List Bool) (fr : Bool) (F : FF) (G : GV) : Prop := ∀ T h xs vs, HT T h → ArgR T h ms xs vs → (hdl ms xs).Nodup → FRs ms fr T h xs (F xs h) (G vs)
def slotsA : List VArg → List Nat
  | [] => []
  | .v _ :: as => slotsA as
  | .s i :: as => i :: slotsA as
def ckM : List Bool → List VArg → Bool
  | [], [] => true
  | false :: m, .v _ :: as => ckM m as
  | true :: m, .s _ :: as => ckM m as
  | _, _ => false
def nodupN : List Nat → Bool
  | [] => true
  | i :: is => !(is.contains i) && nodupN is
theorem nodupN_iff : ∀ {l : List Nat}, nodupN l = true ↔ l.Nodup
  | [] => by simp [nodupN]
  | i :: is => by simp [nodupN, nodupN_iff (l := is)]
def setOuts (π : VEnv) : List Nat → List VV → VEnv
  | i :: is, o :: os => setOuts (π.set i (some o)) is os
  | _, _ => π
def vFin (G : GV) (as : List VArg) (ms : List Bool) (π : VEnv) : VR VV := if ckM ms as && nodupN (slotsA as) then (match derefA π as with
  | none => .bad
  | some vs => match G vs with
    | .ok v outs => .ok v (setOuts π (slotsA as) outs)
    | .exc c v outs => .exc c v (setOuts π (slotsA as) outs)
    | .bad => .bad) else .bad
def vCall (ms : List Bool) (G : GV) (ga : VA) : VE := fun π => (ga π).bind fun as π1 => vFin G as ms π1
section
theorem setOuts_len : ∀ (is : List Nat) (os : List VV) (π : VEnv), (setOuts π is os).length = π.length
  | [], _, _ => rfl
  | _ :: _, [], _ => rfl
  | i :: is, o :: os, π => by
    show (setOuts (π.set i (some o)) is os).length = _
    rw [setOuts_len is os, List.length_set]
theorem setOuts_ne {j : Nat} : ∀ (is : List Nat) (os : List VV) (π : VEnv), j ∉ is → (setOuts π is os)[j]? = π[j]?
  | [], _, _, _ => rfl
  | _ :: _, [], _, _ => rfl
  | i :: is, o :: os, π, h => by
    show (setOuts (π.set i (some o)) is os)[j]? = _
    rw [setOuts_ne is os _ fun z => h (List.mem_cons_of_mem _ z), List.getElem?_set_ne fun z => h (by rw [z]; exact List.mem_cons_self)]
variable {O : Ow} {T : Ty} {h : MH} {ρ : Env} {π : VEnv}
/-- what the slots hold behind a call -/
theorem setOuts_at {h' : MH} {T' : Ty} : ∀ (is ns : List Nat) (os : List VV) (π : VEnv), is.Nodup → OutR T' h' ns os → is.length = ns.length → (∀ (k i n : Nat), is[k]? = some i → ns[k]? = some n → ρ[i]? = some (some (PV.ref n)) ∧ ∃ v, π[i]? = some (some v)) →
    ∀ i ∈ is, ∃ n v, ρ[i]? = some (some (PV.ref n)) ∧ (setOuts π is os)[i]? = some (some v) ∧ OwnAt T' h' n v
  | [], _, _, _, _, _, _, _ => fun i hi => by cases hi
  | i :: is, [], _, _, _, _, hl, _ => by simp at hl
  | i :: is, n :: ns, [], _, _, hr, _, _ => by cases hr
  | i :: is, n :: ns, o :: os, π, nd, .cons r t, hl, hk => fun j hj => by
    obtain ⟨h1, v, h2⟩ := hk 0 i n rfl rfl
    have hn := List.nodup_cons.mp nd
    by_cases e : j = i
    · subst e
      refine ⟨n, o, h1, ?_, r⟩
      show (setOuts (π.set j (some o)) is os)[j]? = _
      rw [setOuts_ne is os _ hn.1]
      exact List.getElem?_set_self (by
        rcases Nat.lt_or_ge j π.length with l | l
        · exact l
        · rw [List.getElem?_eq_none_iff.mpr l] at h2; cases h2)
    · refine setOuts_at is ns os (π.set i (some o)) hn.2 t (by simpa using hl) (fun k a m ka km => ?_) j ((List.mem_cons.mp hj).resolve_left e)
      obtain ⟨p1, u, p2⟩ := hk (k + 1) a m (by simpa using ka) (by simpa using km)
      refine ⟨p1, u, ?_⟩
      have : i ≠ a := by
        rintro rfl
        exact hn.1 (List.mem_of_getElem? ka)
      rw [List.getElem?_set_ne this]; exact p2
/-- arguments by their modes -/
theorem args_rel (s : SimE O T h ρ π) {xs : List PV} {as : List VArg} (r : RelAs O ρ T xs as) : ∀ {ms : List Bool} {vs : List VV}, ckM ms as = true → (slotsA as).Nodup → derefA π as = some vs →
    ArgR T h ms xs vs ∧ (slotsA as).length = (hdl ms xs).length ∧ (∀ (k i n : Nat), (slotsA as)[k]? = some i → (hdl ms xs)[k]? = some n → ρ[i]? = some (some (PV.ref n)) ∧ ∃ v, π[i]? = some (some v)) ∧ (∀ i ∈ slotsA as, O i ≠ .fz) ∧
    (∀ n ∈ hdl ms xs, ∃ i ∈ slotsA as, ρ[i]? = some (some (PV.ref n)) ∧ ∃ v, π[i]? = some (some v)) ∧ (hdl ms xs).Nodup := by
  induction r with
  | nil =>
    intro ms vs c _ e
    cases ms with
    | nil => cases e; exact ⟨.nil, rfl, fun k i n z => (by simp [slotsA] at z), fun i z => (by cases z), fun n z => (by cases z), List.nodup_nil⟩
    | cons m ms => cases m <;> cases c
  | @v x v xs as r t ih =>
    intro ms vs c nd e
    cases ms with
    | nil => cases c
    | cons m ms =>
      cases m with
      | true => cases c
      | false =>
        unfold derefA at e
        cases q : derefA π as with
        | none => rw [q] at e; cases e
        | some us =>
          rw [q] at e
          cases e
          obtain ⟨a1, a2, a3, a4, a5, a6⟩ := ih c nd q
          have eh : hdl (false :: ms) (x :: xs) = hdl ms xs := by cases x <;> rfl
          rw [eh]
          exact ⟨.v r a1, a2, a3, a4, a5, a6⟩
  | @s x i xs as o r t ih =>
    intro ms vs c nd e
    cases ms with
    | nil => cases c
    | cons m ms =>
      cases m with
      | false => cases c
      | true =>
        unfold derefA at e
        split at e
        · rename_i v p
          cases q : derefA π as with
          | none => rw [q] at e; cases e
          | some us =>
            rw [q] at e
            cases e
            have hn := List.nodup_cons.mp nd
            obtain ⟨a1, a2, a3, a4, a5, a6⟩ := ih c hn.2 q
            obtain ⟨n, q2, w⟩ := s.ow i v o p
            rw [r] at q2
            cases q2
            refine ⟨.s w a1, by show (slotsA as).length + 1 = (hdl ms xs).length + 1; rw [a2], fun k j m hk hm => ?_, fun j hj => ?_, fun m hm => ?_, ?_⟩
            · cases k with
              | zero => cases hk; cases hm; exact ⟨r, v, p⟩
              | succ k => exact a3 k j m (by simpa [slotsA] using hk) (by simpa [hdl] using hm)
            · rcases List.mem_cons.mp hj with rfl | hj
              · exact o
              · exact a4 j hj
            · rcases List.mem_cons.mp hm with rfl | hm
              · exact ⟨i, List.mem_cons_self, r, v, p⟩
              · obtain ⟨j, h1, h2⟩ := a5 m hm
                exact ⟨j, List.mem_cons_of_mem _ h1, h2⟩
            · refine List.nodup_cons.mpr ⟨fun hm => ?_, a6⟩
              obtain ⟨j, h1, h2, u, h3⟩ := a5 n hm
              have := s.ds i j n v u o (a4 j h1) p h3 r h2
              subst this
              exact hn.1 h1
        · cases e
theorem call_ke (t : HT T h) (s : SimE O T h ρ π) {xs : List PV} {as : List VArg} {ms : List Bool} {vs outs : List VV} {T' : Ty} {h' : MH} (r : RelAs O ρ T xs as) (c : ckM ms as = true) (nd : (slotsA as).Nodup) (e : derefA π as = some vs) (k : Kf ms T h xs T' h' outs) :
    Ke O T h ρ π T' h' ρ (setOuts π (slotsA as) outs) ∧ ∀ n, n ∉ hdl ms xs → h.nx ≤ n → ¬ Hd O ρ (setOuts π (slotsA as) outs) n := by
  obtain ⟨a1, a2, a3, a4, a5, a6⟩ := args_rel s r c nd e
  have at_ := setOuts_at (ρ := ρ) (slotsA as) (hdl ms xs) outs π nd k.ou a2 a3
  have back : ∀ j u, (setOuts π (slotsA as) outs)[j]? = some (some u) → ∃ w, π[j]? = some (some w) := fun j u p => by
    by_cases hj : j ∈ slotsA as
    · obtain ⟨q, hq⟩ := List.mem_iff_getElem?.mp hj
      have hlt : q < (hdl ms xs).length := by
        rw [← a2]
        exact (List.getElem?_eq_some_iff.mp hq).1
      exact (a3 q j _ hq (List.getElem?_eq_getElem hlt)).2
    · rw [setOuts_ne _ _ _ hj] at p
      exact ⟨u, p⟩
  have hdb : ∀ n, Hd O ρ (setOuts π (slotsA as) outs) n → Hd O ρ π n := fun n ⟨i, v, o, p, q⟩ => let ⟨w, hw⟩ := back i v p; ⟨i, w, o, hw, q⟩
  have fr : ∀ n, n < h.nx → T n = none → ¬ Hd O ρ π n → T' n = none ∧ h'.get n = h.get n := fun n l u d => k.fr n l u fun hm => by
    obtain ⟨i, h1, h2, v, h3⟩ := a5 n hm
    exact d ⟨i, v, a4 i h1, h3, h2⟩
  refine ⟨⟨k.ty, k.ht, k.nx, fr, ⟨by rw [setOuts_len]; exact s.ln, fun i v o p => ?_, fun i v o p => ?_, fun i j n v u oi oj pi pj qi qj => ?_⟩, fun n d _ => hdb n d, fun _ _ => rfl⟩, fun n _ l d => ?_⟩
  · have hi : i ∉ slotsA as := fun z => a4 i z o
    rw [setOuts_ne _ _ _ hi] at p
    obtain ⟨x, q, rx⟩ := s.fz i v o p
    exact ⟨x, q, rx.mono k.ty⟩
  · by_cases hi : i ∈ slotsA as
    · obtain ⟨n, u, q, p2, w⟩ := at_ i hi
      rw [p2] at p
      cases p
      exact ⟨n, q, w⟩
    · rw [setOuts_ne _ _ _ hi] at p
      obtain ⟨n, q, w⟩ := s.ow i v o p
      have hn : n ∉ hdl ms xs := fun hm => by
        obtain ⟨j, h1, h2, u, h3⟩ := a5 n hm
        have := s.ds i j n v u o (a4 j h1) p h3 q h2
        subst this
        exact hi h1
      obtain ⟨ob, g, b⟩ := w.ob
      obtain ⟨u1, g1⟩ := k.fr n (MH.get_lt g) w.un hn
      exact ⟨n, q, u1, ob, g1.trans g, b.mono k.ty⟩
  · obtain ⟨w1, p1⟩ := back i v pi
    obtain ⟨w2, p2⟩ := back j u pj
    exact s.ds i j n w1 w2 oi oj p1 p2 qi qj
  · exact Nat.lt_irrefl _ (Nat.lt_of_lt_of_le (s.hlt (hdb n d)) l)
theorem fin_sim {F : FF} {G : GV} {ms : List Bool} (f : RF ms false F G) (t : HT T h) (s : SimE O T h ρ π) {xs : List PV} {as : List VArg} (r : RelAs O ρ T xs as) : Sim O relV T h ρ π (F xs h) (vFin G as ms π) := by
  unfold vFin
  by_cases c : (ckM ms as && nodupN (slotsA as)) = true
  · rw [if_pos c]
    rw [Bool.and_eq_true, nodupN_iff] at c
    cases e : derefA π as with
    | none => exact True.intro
    | some vs =>
      obtain ⟨a1, a2, a3, a4, a5, a6⟩ := args_rel s r c.1 c.2 e
      have z := f T h xs vs t a1 a6
      dsimp only
      revert z
      cases G vs with
      | ok v outs => rintro ⟨x, h', T', e2, k, rr⟩; exact ⟨x, h', T', e2, (call_ke t s r c.1 c.2 e k).1, rr⟩
      | exc ci v outs => rintro ⟨x, h', T', e2, k, rr⟩; exact ⟨x, h', T', e2, (call_ke t s r c.1 c.2 e k).1, rr⟩
      | bad => intro _; exact True.intro
  · rw [if_neg c]; exact True.intro
theorem fin_simO {F : FF} {G : GV} {ms : List Bool} (f : RF ms true F G) (t : HT T h) (s : SimE O T h ρ π) {xs : List PV} {as : List VArg} (r : RelAs O ρ T xs as) : Sim O (relF O h ρ π) T h ρ π (F xs h) (vFin G as ms π) := by
  unfold vFin
  by_cases c : (ckM ms as && nodupN (slotsA as)) = true
  · rw [if_pos c]
    rw [Bool.and_eq_true, nodupN_iff] at c
    cases e : derefA π as with
    | none => exact True.intro
    | some vs =>
      obtain ⟨a1, a2, a3, a4, a5, a6⟩ := args_rel s r c.1 c.2 e
      have z := f T h xs vs t a1 a6
      dsimp only
      revert z
      cases G vs with
      | ok v outs =>
        rintro ⟨x, h', T', e2, k, n, rfl, l, nn, w⟩
        obtain ⟨k1, k2⟩ := call_ke t s r c.1 c.2 e k
        exact ⟨_, h', T', e2, k1, n, rfl, .inl l, k2 n nn l, w⟩
      | exc ci v outs => rintro ⟨x, h', T', e2, k, rr⟩; exact ⟨x, h', T', e2, (call_ke t s r c.1 c.2 e k).1, rr⟩
      | bad => intro _; exact True.intro
  · rw [if_neg c]; exact True.intro
variable {F : FF} {G : GV} {ms : List Bool} {ra : AF} {ga : VA}
theorem re_call (f : RF ms false F G) (a : RA O ra ga) : RE O (eApp F ra) (vCall ms G ga) := fun T h ρ π t s => (a T h ρ π t s).bind fun xs h1 T1 as π1 k1 q1 => fin_sim f k1.ht k1.se q1
theorem ro_call (f : RF ms true F G) (a : RA O ra ga) : RO O (eApp F ra) (vCall ms G ga) := fun T h ρ π t s => (a T h ρ π t s).bind fun xs h1 T1 as π1 k1 q1 => (fin_simO f k1.ht k1.se q1).imp fun _ _ _ _ _ q => relF.at k1 q
theorem re_call2 {p : PV → PV → M PV} {a b : EF} (f : RF ms false (two p) G) (x : RA O (aCons a (aCons b aNil)) ga) : RE O (eOp p a b) (vCall ms G ga) := by rw [eOp_app]; exact re_call f x
theorem ro_call2 {p : PV → PV → M PV} {a b : EF} (f : RF ms true (two p) G) (x : RA O (aCons a (aCons b aNil)) ga) : RO O (eOp p a b) (vCall ms G ga) := by rw [eOp_app]; exact ro_call f x
theorem re_call1 {p : PV → M PV} {a : EF} (f : RF ms false (one p) G) (x : RA O (aCons a aNil) ga) : RE O (eUn p a) (vCall ms G ga) := by rw [eUn_app]; exact re_call f x
theorem ro_call1 {p : PV → M PV} {a : EF} (f : RF ms true (one p) G) (x : RA O (aCons a aNil) ga) : RO O (eUn p a) (vCall ms G ga) := by rw [eUn_app]; exact ro_call f x
end
end VX

set_option Elab.async false
set_option linter.all false
set_option maxRecDepth 100000
set_option maxHeartbeats 1000000
namespace VX
open FX
inductive VO where
  | nx | rt (v : VV) | bk | ct | xc (c : Nat) (x : VV)
abbrev VS := VM VO
def OutS (O : Ow) (fr : Bool) (T : Ty) (h : MH) (ρ : Env) (π : VEnv) (T' : Ty) (h' : MH) (π' : VEnv) : Out → VO → Prop
  | .nx ρ', .nx => Ke O T h ρ π T' h' ρ' π'
  | .bk ρ', .bk => Ke O T h ρ π T' h' ρ' π'
  | .ct ρ', .ct => Ke O T h ρ π T' h' ρ' π'
  | .xc c x ρ', .xc c' v => c = c' ∧ Ke O T h ρ π T' h' ρ' π' ∧ RepT T' x v
  | .rt x, .rt v => ∃ ρ', Ke O T h ρ π T' h' ρ' π' ∧ if fr then ∃ n, x = .ref n ∧ (h.nx ≤ n ∨ Hd O ρ π n) ∧ ¬ Hd O ρ' π' n ∧ OwnAt T' h' n v else RepT T' x v
  | _, _ => False
def SimS (O : Ow) (fr : Bool) (T : Ty) (h : MH) (ρ : Env) (π : VEnv) (r : R Out) (w : VR VO) : Prop := match w with
  | .ok o π' => ∃ o' h' T', r = .ok o' h' ∧ OutS O fr T h ρ π T' h' π' o' o
  | _ => True
def RS (O : Ow) (fr : Bool) (s : SF) (g : VS) : Prop := ∀ T h ρ π, HT T h → SimE O T h ρ π → SimS O fr T h ρ π (s ρ h) (g π)
def vThen {α : Type} (w : VR α) (k : α → VS) : VR VO := match w with
  | .ok a π => k a π
  | .exc c x π => .ok (.xc c x) π
  | .bad => .bad
section
variable {O : Ow} {fr : Bool} {T T1 : Ty} {h h1 : MH} {ρ ρ1 : Env} {π π1 : VEnv} {r : R Out} {w : VR VO}
theorem OutS.after {T2 : Ty} {h2 : MH} {π2 : VEnv} {o' : Out} {o : VO} (k : Ke O T h ρ π T1 h1 ρ1 π1) (q : OutS O fr T1 h1 ρ1 π1 T2 h2 π2 o' o) : OutS O fr T h ρ π T2 h2 π2 o' o := by
  cases o' <;> cases o <;> first | exact q.elim | exact k.trans q | skip
  · obtain ⟨ρ', k2, z⟩ := q
    refine ⟨ρ', k.trans k2, ?_⟩
    cases fr with
    | false => exact z
    | true =>
      obtain ⟨n, e, l, d, a⟩ := z
      refine ⟨n, e, ?_, d, a⟩
      rcases l with l | l
      · exact .inl (Nat.le_trans k.nx l)
      · by_cases z : n < h.nx
        · exact .inr (k.hd n l z)
        · exact .inl (by omega)
  · exact ⟨q.1, k.trans q.2.1, q.2.2⟩
theorem SimS.after (k : Ke O T h ρ π T1 h1 ρ1 π1) (s : SimS O fr T1 h1 ρ1 π1 r w) : SimS O fr T h ρ π r w := by
  cases w with
  | ok o π2 => obtain ⟨o', h2, T2, e, q⟩ := s; exact ⟨o', h2, T2, e, q.after k⟩
  | exc c v π2 => exact True.intro
  | bad => exact True.intro
theorem Sim.thenS {α β : Type} {rel : Rel α β} {m : M α} {w : VR β} {k : α → M Out} {k' : β → VS} (s : Sim O rel T h ρ π (m h) w) (f : ∀ a h' T' b π', Ke O T h ρ π T' h' ρ π' → rel T' h' π' a b → SimS O fr T' h' ρ π' (k a h') (k' b π')) : SimS O fr T h ρ π (sThen m ρ k h) (vThen w k') := by
  cases w with
  | ok b π2 =>
    obtain ⟨a, h2, T2, e, k2, q⟩ := s
    have z := SimS.after k2 (f a h2 T2 b π2 k2 q)
    unfold sThen
    rw [e]; exact z
  | exc c v π2 =>
    obtain ⟨a, h2, T2, e, k2, q⟩ := s
    refine ⟨.xc c a ρ, h2, T2, ?_, rfl, k2, q⟩
    unfold sThen
    rw [e]
  | bad => exact True.intro
theorem getset {α : Type} {l : List (Option α)} {i j : Nat} {x : Option α} {v : α} (p : (l.set i x)[j]? = some (some v)) : (j = i ∧ x = some v) ∨ (j ≠ i ∧ l[j]? = some (some v)) := by
  by_cases z : j = i
  · subst z
    by_cases l' : j < l.length
    · rw [List.getElem?_set_self l'] at p
      exact .inl ⟨rfl, Option.some.inj p⟩
    · rw [List.getElem?_eq_none_iff.mpr (by rw [List.length_set]; omega)] at p; cases p
  · rw [List.getElem?_set_ne (Ne.symm z)] at p
    exact .inr ⟨z, p⟩
theorem lt_of_get {α : Type} {l : List (Option α)} {j : Nat} {v : Option α} (p : l[j]? = some v) : j < l.length := (List.getElem?_eq_some_iff.mp p).1
theorem SimE.setf (s : SimE O T h ρ π) {i : Nat} {x : PV} {v : VV} (o : O i = .fz) (r : RepT T x v) : SimE O T h (ρ.set i (some x)) (π.set i (some v)) where
  ln := by rw [List.length_set, List.length_set]; exact s.ln
  fz := fun j u oj p => by
    rcases getset p with ⟨rfl, e⟩ | ⟨z, p⟩
    · cases e
      have := lt_of_get p
      rw [List.length_set, ← s.ln] at this
      exact ⟨x, List.getElem?_set_self this, r⟩
    · rw [List.getElem?_set_ne (Ne.symm z)]
      exact s.fz j u oj p
  ow := fun j u oj p => by
    rcases getset p with ⟨rfl, e⟩ | ⟨z, p⟩
    · exact absurd o oj
    · rw [List.getElem?_set_ne (Ne.symm z)]
      exact s.ow j u oj p
  ds := fun a b n u1 u2 oa ob pa pb qa qb => by
    have za : a ≠ i := fun z => oa (by rw [z]; exact o)
    have zb : b ≠ i := fun z => ob (by rw [z]; exact o)
    rw [List.getElem?_set_ne (Ne.symm za)] at pa qa
    rw [List.getElem?_set_ne (Ne.symm zb)] at pb qb
    exact s.ds a b n u1 u2 oa ob pa pb qa qb
theorem hd_setf {i : Nat} {x : Option PV} {v : Option VV} {n : Nat} (o : O i = .fz) : Hd O (ρ.set i x) (π.set i v) n → Hd O ρ π n := by
  rintro ⟨j, u, oj, p, q⟩
  have zj : j ≠ i := fun z => oj (by rw [z]; exact o)
  rw [List.getElem?_set_ne (Ne.symm zj)] at p q
  exact ⟨j, u, oj, p, q⟩
theorem Ke.setf (k : Ke O T h ρ π T1 h1 ρ1 π1) {i : Nat} {x : PV} {v : VV} (o : O i = .fz) (r : RepT T1 x v) : Ke O T h ρ π T1 h1 (ρ1.set i (some x)) (π1.set i (some v)) where
  ty := k.ty
  ht := k.ht
  nx := k.nx
  fr := k.fr
  se := k.se.setf o r
  hd := fun n d l => k.hd n (hd_setf o d) l
  pa := fun j e => by
    have zj : j ≠ i := fun z => by rw [z, o] at e; cases e
    rw [List.getElem?_set_ne (Ne.symm zj)]; exact k.pa j e
theorem Ke.seto (k : Ke O T h ρ π T1 h1 ρ1 π1) {i n : Nat} {v : VV} (o : O i = .ow) (l : h.nx ≤ n ∨ Hd O ρ π n) (d : ¬ Hd O ρ1 π1 n) (a : OwnAt T1 h1 n v) : Ke O T h ρ π T1 h1 (ρ1.set i (some (.ref n))) (π1.set i (some v)) where
  ty := k.ty
  ht := k.ht
  nx := k.nx
  fr := k.fr
  se := {
    ln := by rw [List.length_set, List.length_set]; exact k.se.ln
    fz := fun j u oj p => by
      rcases getset p with ⟨rfl, e⟩ | ⟨z, p⟩
      · rw [o] at oj; cases oj
      · rw [List.getElem?_set_ne (Ne.symm z)]
        exact k.se.fz j u oj p
    ow := fun j u oj p => by
      rcases getset p with ⟨rfl, e⟩ | ⟨z, p⟩
      · cases e
        have := lt_of_get p
        rw [List.length_set, ← k.se.ln] at this
        exact ⟨n, List.getElem?_set_self this, a⟩
      · rw [List.getElem?_set_ne (Ne.symm z)]
        exact k.se.ow j u oj p
    ds := fun a b m u1 u2 oa ob pa pb qa qb => by
      rcases getset pa with ⟨ea, _⟩ | ⟨za, pa'⟩
      · rcases getset pb with ⟨eb, _⟩ | ⟨zb, pb'⟩
        · rw [ea, eb]
        · subst ea
          rw [List.getElem?_set_ne (Ne.symm zb)] at qb
          rcases getset qa with ⟨_, e⟩ | ⟨z, _⟩
          · cases e
            exact absurd ⟨b, u2, ob, pb', qb⟩ d
          · exact absurd rfl z
      · rw [List.getElem?_set_ne (Ne.symm za)] at qa
        rcases getset pb with ⟨eb, _⟩ | ⟨zb, pb'⟩
        · subst eb
          rcases getset qb with ⟨_, e⟩ | ⟨z, _⟩
          · cases e
            exact absurd ⟨a, u1, oa, pa', qa⟩ d
          · exact absurd rfl z
        · rw [List.getElem?_set_ne (Ne.symm zb)] at qb
          exact k.se.ds a b m u1 u2 oa ob pa' pb' qa qb }
  hd := fun m ⟨j, u, oj, p, q⟩ lm => by
    rcases getset p with ⟨rfl, e⟩ | ⟨z, p⟩
    · rcases getset q with ⟨_, e2⟩ | ⟨z, _⟩
      · cases e2
        rcases l with l | l
        · omega
        · exact l
      · exact absurd rfl z
    · rw [List.getElem?_set_ne (Ne.symm z)] at q
      exact k.hd m ⟨j, u, oj, p, q⟩ lm
  pa := fun j e => by
    have zj : j ≠ i := fun z => by rw [z, o] at e; cases e
    rw [List.getElem?_set_ne (Ne.symm zj)]; exact k.pa j e
variable {f : EF} {g : VE}
def vExp (a : VE) : VS := fun π => vThen (a π) fun _ π => .ok .nx π
def vRet (a : VE) : VS := fun π => vThen (a π) fun v π => .ok (.rt v) π
def vRetN : VS := fun π => .ok (.rt .non) π
def vPass : VS := fun π => .ok .nx π
def vBrk : VS := fun π => .ok .bk π
def vCnt : VS := fun π => .ok .ct π
def vNev : VS := fun _ => .bad
def vSet (i : Nat) (a : VE) : VS := fun π => vThen (a π) fun v π => .ok .nx (π.set i (some v))
theorem rs_exp (a : RE O f g) : RS O fr (sExp f) (vExp g) := fun T h ρ π t s => (a T h ρ π t s).thenS fun x h1 T1 v π1 k q => ⟨_, h1, T1, rfl, Ke.refl k.ht k.se⟩
theorem rs_expO (a : RO O f g) : RS O fr (sExp f) (vExp g) := rs_exp a.fz
theorem rs_ret (a : RE O f g) : RS O false (sRet f) (vRet g) := fun T h ρ π t s => (a T h ρ π t s).thenS fun x h1 T1 v π1 k q => ⟨_, h1, T1, rfl, ρ, Ke.refl k.ht k.se, q⟩
theorem rs_retO (a : RO O f g) : RS O true (sRet f) (vRet g) := fun T h ρ π t s => by
  have q := a T h ρ π t s
  show SimS O true T h ρ π (sThen (f ρ) ρ _ h) (vThen (g π) _)
  revert q
  cases g π with
  | ok v π1 =>
    rintro ⟨x, h1, T1, e, k, n, e2, l, d, w⟩
    refine ⟨.rt x, h1, T1, ?_, ρ, k, ?_⟩
    · unfold sThen
      rw [e]; rfl
    · exact ⟨n, e2, l, d, w⟩
  | exc c v π1 =>
    rintro ⟨x, h1, T1, e, k, r⟩
    refine ⟨.xc c x ρ, h1, T1, ?_, rfl, k, r⟩
    unfold sThen
    rw [e]
  | bad => exact fun _ => True.intro
theorem rs_retN : RS O false sRetN vRetN := fun T h ρ π t s => ⟨_, h, T, rfl, ρ, Ke.refl t s, .non⟩
theorem rs_pass : RS O fr sPass vPass := fun T h ρ π t s => ⟨_, h, T, rfl, Ke.refl t s⟩
theorem rs_brk : RS O fr sBrk vBrk := fun T h ρ π t s => ⟨_, h, T, rfl, Ke.refl t s⟩
theorem rs_cnt : RS O fr sCnt vCnt := fun T h ρ π t s => ⟨_, h, T, rfl, Ke.refl t s⟩
theorem rs_nev : RS O fr sNev vNev := fun T h ρ π t s => True.intro
theorem rs_set {i : Nat} (o : O i = .fz) (a : RE O f g) : RS O fr (sAsg f (gSet i)) (vSet i g) := fun T h ρ π t s => (a T h ρ π t s).thenS fun x h1 T1 v π1 k q =>
  ⟨.nx (ρ.set i (some x)), h1, T1, rfl, (Ke.refl k.ht k.se).setf o q⟩
theorem rs_setO {i : Nat} (o : O i = .ow) (a : RO O f g) : RS O fr (sAsg f (gSet i)) (vSet i g) := fun T h ρ π t s => by
  have q := a T h ρ π t s
  show SimS O fr T h ρ π (sThen (f ρ) ρ _ h) (vThen (g π) _)
  revert q
  cases g π with
  | ok v π1 =>
    rintro ⟨x, h1, T1, e, k, n, rfl, l, d, w⟩
    refine ⟨.nx (ρ.set i (some (.ref n))), h1, T1, ?_, k.seto o l d w⟩
    unfold sThen
    rw [e]; rfl
  | exc c v π1 =>
    rintro ⟨x, h1, T1, e, k, r⟩
    refine ⟨.xc c x ρ, h1, T1, ?_, rfl, k, r⟩
    unfold sThen
    rw [e]
  | bad => exact fun _ => True.intro
abbrev VG := VV → VEnv → Option VEnv
def gvSet (i : Nat) : VG := fun v π => some (π.set i (some v))
def gvAll : List VG → List VV → VEnv → Option VEnv
  | [], [], π => some π
  | g :: gs, v :: vs, π => (g v π).bind fun π' => gvAll gs vs π'
  | _, _, _ => none
def gvTup (n : Nat) (gs : List VG) : VG := fun v π => match v with
  | .tup vs => if vs.length = n then gvAll gs vs π else none
  | _ => none
/-- the slots of a target -/
def RGt (O : Ow) (is : List Nat) (g : GF) (vg : VG) : Prop := ∀ T h ρ π x v, HT T h → SimE O T h ρ π → RepT T x v → ∀ π', vg v π = some π' → ∃ ρ', g x ρ h = .ok ρ' h ∧ Ke O T h ρ π T h ρ' π' ∧ ρ'.length = ρ.length ∧ ∀ i, i ∉ is → ρ'[i]? = ρ[i]?
inductive RGs (O : Ow) (is : List Nat) : List GF → List VG → Prop
  | nil : RGs O is [] []
  | cons {g vg gs vgs} (r : RGt O is g vg) (t : RGs O is gs vgs) : RGs O is (g :: gs) (vg :: vgs)
variable {is : List Nat}
theorem rg_set {i : Nat} (m : i ∈ is) (o : O i = .fz) : RGt O is (gSet i) (gvSet i) := fun T h ρ π x v t s r π' e => by
  cases e
  exact ⟨_, rfl, (Ke.refl t s).setf o r, List.length_set, fun j hj => List.getElem?_set_ne fun z => hj (by rw [← z]; exact m)⟩
theorem rg_all {gs : List GF} {vgs : List VG} (r : RGs O is gs vgs) : ∀ T h ρ π xs vs, HT T h → SimE O T h ρ π → RepL T xs vs → ∀ π', gvAll vgs vs π = some π' → ∃ ρ', gAll gs xs ρ h = .ok ρ' h ∧ Ke O T h ρ π T h ρ' π' ∧ ρ'.length = ρ.length ∧ ∀ i, i ∉ is → ρ'[i]? = ρ[i]? := by
  induction r with
  | nil =>
    intro T h ρ π xs vs t s r π' e
    cases r with
    | nil => cases e; exact ⟨ρ, rfl, Ke.refl t s, rfl, fun _ _ => rfl⟩
    | cons r1 r2 => cases e
  | @cons g vg gs vgs r t ih =>
    intro T h ρ π xs vs t s rl π' e
    cases rl with
    | nil => cases e
    | @cons x v xs vs r1 r2 =>
      unfold gvAll at e
      cases e1 : vg v π with
      | none => rw [e1] at e; cases e
      | some π1 =>
        rw [e1] at e
        obtain ⟨ρ1, q1, k1, l1, u1⟩ := r T h ρ π x v t s r1 π1 e1
        obtain ⟨ρ2, q2, k2, l2, u2⟩ := ih T h ρ1 π1 xs vs t k1.se r2 π' e
        refine ⟨ρ2, ?_, k1.trans k2, l2.trans l1, fun i hi => (u2 i hi).trans (u1 i hi)⟩
        show ((g x ρ).bind fun ρ' => gAll gs xs ρ') h = _
        rw [M.bind_ok q1]; exact q2
theorem rg_tup {gs : List GF} {vgs : List VG} {n : Nat} (r : RGs O is gs vgs) : RGt O is (gTupl n gs) (gvTup n vgs) := fun T h ρ π x v t s q π' e => by
  unfold gvTup at e
  split at e
  · rename_i vs
    have z : ∃ xs, x = .tup xs ∧ RepL T xs vs := by
      cases q with
      | tup r => exact ⟨_, rfl, r⟩
      | ref e2 =>
        obtain ⟨o, _, b⟩ := t _ _ e2
        cases b
    obtain ⟨xs, rfl, rl⟩ := z
    split at e
    · rename_i hn
      obtain ⟨ρ', q, w⟩ := rg_all r T h ρ π xs vs t s rl π' e
      refine ⟨ρ', ?_, w⟩
      show (if xs.length = n then gAll gs xs ρ else M.bad) h = _
      rw [if_pos (by rw [rl.length]; exact hn)]; exact q
    · cases e
  · cases e
def vAsg (a : VE) (vg : VG) : VS := fun π => vThen (a π) fun v π1 => match vg v π1 with
  | some π2 => .ok .nx π2
  | none => .bad
theorem rs_asg {gt : GF} {vg : VG} (a : RE O f g) (b : RGt O is gt vg) : RS O fr (sAsg f gt) (vAsg g vg) := fun T h ρ π t s => (a T h ρ π t s).thenS fun x h1 T1 v π1 k q => by
  cases e : vg v π1 with
  | none => exact True.intro
  | some π2 =>
    obtain ⟨ρ', q2, k2, _⟩ := b T1 h1 ρ π1 x v k.ht k.se q π2 e
    refine ⟨.nx ρ', h1, T1, ?_, k2⟩
    unfold sThen
    rw [q2]; rfl
inductive RX (O : Ow) (i : Nat) (f : EF) (g : VE) : Prop
  | fz (o : O i = .fz) (r : RE O f g)
  | ow (o : O i = .ow) (r : RO O f g)
def vPar (i j : Nat) (a b : VE) : VS := fun π => vThen (a π) fun v π1 => vThen (b π1) fun u π2 => .ok .nx ((π2.set i (some v)).set j (some u))
/-- what is evaluated for the slot i -/
def relX (O : Ow) (i : Nat) (h0 : MH) (ρ : Env) (π0 : VEnv) : Rel PV VV := fun T h π x v => (O i = .fz ∧ RepT T x v) ∨ (O i = .ow ∧ relF O h0 ρ π0 T h π x v)
theorem RX.rg {i : Nat} (r : RX O i f g) : RG O (relX O i) f g := fun T h ρ π t s => by
  cases r with
  | fz o r => exact (r T h ρ π t s).imp fun _ _ _ _ _ q => .inl ⟨o, q⟩
  | ow o r => exact (r T h ρ π t s).imp fun _ _ _ _ _ q => .inr ⟨o, q⟩
/-- kept while something else is evaluated -/
theorem relX.keep {i : Nat} {x : PV} {v : VV} {T2 : Ty} {h2 : MH} {π2 : VEnv} {h0 : MH} {π0 : VEnv} (s : SimE O T1 h1 ρ π1) (q : relX O i h0 ρ π0 T1 h1 π1 x v) (k : Ke O T1 h1 ρ π1 T2 h2 ρ π2) : relX O i h0 ρ π0 T2 h2 π2 x v := by
  rcases q with ⟨o, q⟩ | ⟨o, n, e, l, d, w⟩
  · exact .inl ⟨o, q.mono k.ty⟩
  · obtain ⟨ob, g, b⟩ := w.ob
    have lt := MH.get_lt g
    obtain ⟨u, g2⟩ := k.fr n lt w.un d
    exact .inr ⟨o, n, e, l, fun z => d (k.hd n z lt), u, ob, g2.trans g, b.mono k.ty⟩
theorem Ke.setx (k : Ke O T h ρ π T1 h1 ρ1 π1) {i : Nat} {x : PV} {v : VV} (q : (O i = .fz ∧ RepT T1 x v) ∨ (O i = .ow ∧ ∃ n, x = .ref n ∧ (h.nx ≤ n ∨ Hd O ρ π n) ∧ ¬ Hd O ρ1 π1 n ∧ OwnAt T1 h1 n v)) : Ke O T h ρ π T1 h1 (ρ1.set i (some x)) (π1.set i (some v)) := by
  rcases q with ⟨o, q⟩ | ⟨o, n, rfl, l, d, w⟩
  · exact k.setf o q
  · exact k.seto o l d w
theorem rs_par {i j : Nat} {f2 : EF} {g2 : VE} (a : RX O i f g) (b : RX O j f2 g2) (ne : i ≠ j) : RS O fr (sPar i j (aCons f (aCons f2 aNil))) (vPar i j g g2) := fun T h ρ π t s => by
  have eq : (aCons f (aCons f2 aNil)) ρ = (f ρ).bind fun x => (f2 ρ).bind fun y => M.ret [x, y] := by
    unfold aCons aNil
    simp only [M.bind_assoc, M.ret_bind]
  have sp : ∀ (k : List PV → M Out), sThen ((aCons f (aCons f2 aNil)) ρ) ρ k h = sThen (f ρ) ρ (fun x => sThen (f2 ρ) ρ fun y => k [x, y]) h := fun k => by
    rw [eq]
    unfold sThen M.bind
    cases f ρ h with
    | ok x h1 =>
      dsimp only
      cases f2 ρ h1 <;> rfl
    | exc c x h1 => rfl
    | bad => rfl
  show SimS O fr T h ρ π (sThen ((aCons f (aCons f2 aNil)) ρ) ρ _ h) _
  rw [sp]
  have q1 := a.rg T h ρ π t s
  unfold vPar
  revert q1
  cases e1 : g π with
  | exc c v π1 =>
    rintro ⟨x, h1, T1, e, k, r⟩
    refine ⟨.xc c x ρ, h1, T1, ?_, rfl, k, r⟩
    unfold sThen
    rw [e]
  | bad => exact fun _ => True.intro
  | ok v π1 =>
    rintro ⟨x, h1, T1, e, k1, r1⟩
    have q2 := b.rg T1 h1 ρ π1 k1.ht k1.se
    show SimS O fr T h ρ π _ (vThen (g2 π1) _)
    have st : ∀ (k : PV → M Out), sThen (f ρ) ρ k h = k x h1 := fun k => by
      unfold sThen
      rw [e]
    rw [st]
    revert q2
    cases e2 : g2 π1 with
    | exc c v π1 =>
      rintro ⟨y, h2, T2, e, k2, r⟩
      refine ⟨.xc c y ρ, h2, T2, ?_, rfl, k1.trans k2, r⟩
      unfold sThen
      rw [e]
    | bad => exact fun _ => True.intro
    | ok u π2 =>
      rintro ⟨y, h2, T2, e3, k2, r2⟩
      have r1' := r1.keep k1.se k2
      have kk := k1.trans k2
      refine ⟨.nx ((ρ.set i (some x)).set j (some y)), h2, T2, ?_, ?_⟩
      · unfold sThen
        rw [e3]; rfl
      · refine (kk.setx (i := i) r1').setx (i := j) ?_
        rcases r2 with ⟨o, q⟩ | ⟨o, n, rfl, l, d, w⟩
        · exact .inl ⟨o, q⟩
        · refine .inr ⟨o, n, rfl, ?_, ?_, w⟩
          · rcases l with l | l
            · exact .inl (Nat.le_trans k1.nx l)
            · by_cases z : n < h.nx
              · exact .inr (k1.hd n l z)
              · exact .inl (by omega)
          · rintro ⟨a', u', oa, p, q⟩
            rcases getset p with ⟨rfl, e⟩ | ⟨z, p⟩
            · rcases getset q with ⟨_, e4⟩ | ⟨z, _⟩
              · cases e4
                rcases r1 with ⟨o1, q1⟩ | ⟨o1, m, e5, l1, d1, w1⟩
                · exact oa o1
                · cases e5
                  rcases l with l | l
                  · obtain ⟨ob, g, _⟩ := w1.ob
                    exact Nat.lt_irrefl _ (Nat.lt_of_lt_of_le (MH.get_lt g) l)
                  · exact d1 l
              · exact z rfl
            · rw [List.getElem?_set_ne (Ne.symm z)] at q
              exact d ⟨a', u', oa, p, q⟩
variable {s1 s2 : SF} {g1 g2 : VS} {tf : TF} {vt : VT}
def vSeq (a b : VS) : VS := fun π => match a π with
  | .ok .nx π1 => b π1
  | r => r
theorem rs_seq (a : RS O fr s1 g1) (b : RS O fr s2 g2) : RS O fr (sSeq s1 s2) (vSeq g1 g2) := fun T h ρ π t s => by
  have q := a T h ρ π t s
  unfold vSeq
  revert q
  cases g1 π with
  | exc c v π1 => exact fun _ => True.intro
  | bad => exact fun _ => True.intro
  | ok o π1 =>
    rintro ⟨o', h1, T1, e, q⟩
    have un : ∀ (k : Out → M Out), ((s1 ρ).bind k) h = k o' h1 := fun k => M.bind_ok e
    show SimS O fr T h ρ π (((s1 ρ).bind _) h) _
    rw [un]
    cases o' <;> cases o <;> first | exact q.elim | exact SimS.after q (b T1 h1 _ π1 (Ke.ht q) (Ke.se q)) | exact ⟨_, h1, T1, rfl, q⟩
def vIfS (t : VT) (a b : VS) : VS := fun π => vThen (t π) fun k π1 => if k then a π1 else b π1
theorem rs_if (c : RT O tf vt) (a : RS O fr s1 g1) (b : RS O fr s2 g2) : RS O fr (sIf tf s1 s2) (vIfS vt g1 g2) := fun T h ρ π t s => (c T h ρ π t s).thenS fun x h1 T1 v π1 k q => by
  rw [show x = v from q]
  cases v with
  | true => exact a T1 h1 ρ π1 k.ht k.se
  | false => exact b T1 h1 ρ π1 k.ht k.se
def vWN (t : VT) (b : VS) : Nat → VS
  | 0, _ => .bad
  | n + 1, π => vThen (t π) fun k π1 => if k then (match b π1 with
    | .ok .nx π2 => vWN t b n π2
    | .ok .ct π2 => vWN t b n π2
    | .ok .bk π2 => .ok .nx π2
    | r => r) else .ok .nx π1
def vWh (t : VT) (b : VS) : VS := vWN t b fuel
theorem rs_wN (c : RT O tf vt) (a : RS O fr s1 g1) : ∀ n, RS O fr (wN tf s1 n) (vWN vt g1 n)
  | 0 => fun T h ρ π t s => True.intro
  | n + 1 => fun T h ρ π t s => (c T h ρ π t s).thenS fun x h1 T1 v π1 k q => by
    rw [show x = v from q]
    cases v with
    | false => exact ⟨_, h1, T1, rfl, Ke.refl k.ht k.se⟩
    | true =>
      have q := a T1 h1 ρ π1 k.ht k.se
      show SimS O fr T1 h1 ρ π1 (((s1 ρ).bind _) h1) (match g1 π1 with
        | .ok .nx π2 => vWN vt g1 n π2
        | .ok .ct π2 => vWN vt g1 n π2
        | .ok .bk π2 => .ok .nx π2
        | r => r)
      revert q
      cases g1 π1 with
      | exc c v π1 => exact fun _ => True.intro
      | bad => exact fun _ => True.intro
      | ok o π2 =>
        rintro ⟨o', h2, T2, e, q⟩
        rw [M.bind_ok e]
        cases o' <;> cases o <;> first | exact q.elim | exact SimS.after q (rs_wN c a n T2 h2 _ π2 (Ke.ht q) (Ke.se q)) | exact ⟨_, h2, T2, rfl, q⟩
theorem rs_wh (c : RT O tf vt) (a : RS O fr s1 g1) : RS O fr (sWh tf s1) (vWh vt g1) := rs_wN c a fuel
/-- a source tells these items, whatever comes -/
def SrcT (T : Ty) (s : Src) (vs : List VV) : Prop := vs.length < fuel ∧ ∀ T' h', TLe T T' → HT T' h' → ∀ i, match vs[i]? with
  | none => s i h' = some none
  | some v => ∃ x, s i h' = some (some x) ∧ RepT T' x v
theorem SrcT.mono {s : Src} {vs : List VV} (l : TLe T T1) (q : SrcT T s vs) : SrcT T1 s vs := ⟨q.1, fun T' h' l' t i => q.2 T' h' (l.trans l') t i⟩
abbrev VI := VM (List VV)
def relI : Rel Src (List VV) := fun T _ _ s vs => SrcT T s vs
abbrev RI (O : Ow) (f : IF) (g : VI) : Prop := RG O (fun _ _ _ => relI) f g
def vForN (vg : VG) (b : VS) : List VV → VS
  | [], π => .ok .nx π
  | v :: vs, π => match vg v π with
    | none => .bad
    | some π1 => match b π1 with
      | .ok .nx π2 => vForN vg b vs π2
      | .ok .ct π2 => vForN vg b vs π2
      | .ok .bk π2 => .ok .nx π2
      | r => r
def vFor (it : VI) (vg : VG) (b : VS) : VS := fun π => vThen (it π) fun vs π1 => vForN vg b vs π1
theorem forN_sim {nx : Src} {gt : GF} {vg : VG} {all : List VV} (b : RGt O is gt vg) (a : RS O fr s1 g1) : ∀ (vs : List VV) (f i : Nat) (T : Ty) (h : MH) (ρ : Env) (π : VEnv), SrcT T nx all → vs = all.drop i → vs.length < f → HT T h → SimE O T h ρ π → SimS O fr T h ρ π (forN nx gt s1 f i ρ h) (vForN vg g1 vs π)
  | vs, 0, i, T, h, ρ, π, _, _, hf, _, _ => absurd hf (Nat.not_lt_zero _)
  | [], f + 1, i, T, h, ρ, π, sr, hv, hf, t, s => by
    have hi : all[i]? = none := by
      rw [List.getElem?_eq_none_iff]
      have := congrArg List.length hv
      rw [List.length_drop] at this
      simp at this
      omega
    have z := sr.2 T h (TLe.refl T) t i
    rw [hi] at z
    refine ⟨.nx ρ, h, T, ?_, Ke.refl t s⟩
    unfold forN
    rw [z]
  | v :: vs, f + 1, i, T, h, ρ, π, sr, hv, hf, t, s => by
    have hi : all[i]? = some v := by
      have := congrArg (fun l => l[0]?) hv
      simpa using this.symm
    have hn : vs = all.drop (i + 1) := by
      have := congrArg List.tail hv
      simpa using this
    have z := sr.2 T h (TLe.refl T) t i
    rw [hi] at z
    obtain ⟨x, e, r⟩ := z
    unfold vForN
    cases e1 : vg v π with
    | none => exact True.intro
    | some π1 =>
      obtain ⟨ρ1, q1, k1, _⟩ := b T h ρ π x v t s r π1 e1
      have q := a T h ρ1 π1 t k1.se
      dsimp only
      revert q
      cases g1 π1 with
      | exc c v π1 => exact fun _ => True.intro
      | bad => exact fun _ => True.intro
      | ok o π2 =>
        rintro ⟨o', h2, T2, e2, q⟩
        have un : ∀ r, (M.bind (sThen (gt x ρ) ρ fun ρ' => s1 ρ') fun o => match o with
          | .nx ρ' => forN nx gt s1 f (i + 1) ρ'
          | .ct ρ' => forN nx gt s1 f (i + 1) ρ'
          | .bk ρ' => M.ret (.nx ρ')
          | o => M.ret o) h = r → forN nx gt s1 (f + 1) i ρ h = r := fun r z => by
          unfold forN
          rw [e]; exact z
        have st : (sThen (gt x ρ) ρ fun ρ' => s1 ρ') h = .ok o' h2 := by
          unfold sThen
          rw [q1]; exact e2
        have bb : ∀ (k : Out → M Out), (M.bind (sThen (gt x ρ) ρ fun ρ' => s1 ρ') k) h = k o' h2 := fun k => M.bind_ok st
        have q' := OutS.after k1 q
        cases o' <;> cases o <;> first | exact q.elim | skip
        · have ih := forN_sim b a vs f (i + 1) T2 h2 _ π2 (sr.mono (Ke.ty q')) hn (by simp at hf; omega) (Ke.ht q') (Ke.se q')
          rw [un _ (bb _)]
          exact SimS.after q' ih
        · exact ⟨_, h2, T2, un _ (bb _), q'⟩
        · exact ⟨_, h2, T2, un _ (bb _), q'⟩
        · have ih := forN_sim b a vs f (i + 1) T2 h2 _ π2 (sr.mono (Ke.ty q')) hn (by simp at hf; omega) (Ke.ht q') (Ke.se q')
          rw [un _ (bb _)]
          exact SimS.after q' ih
        · exact ⟨_, h2, T2, un _ (bb _), q'⟩
theorem rs_for {it : IF} {vi : VI} {gt : GF} {vg : VG} (c : RI O it vi) (b : RGt O is gt vg) (a : RS O fr s1 g1) : RS O fr (sFor it gt s1) (vFor vi vg g1) := fun T h ρ π t s => (c T h ρ π t s).thenS fun x h1 T1 vs π1 k q =>
  forN_sim b a vs fuel 0 T1 h1 ρ π1 q rfl q.1 k.ht k.se
end
end VX

set_option Elab.async false
set_option linter.all false
set_option maxRecDepth 100000
set_option maxHeartbeats 1000000
namespace VX
open FX
def wipeV (π : VEnv) : List Nat → VEnv
  | [] => π
  | v :: vs => (wipeV π vs).set v none
def restV (π0 : VEnv) : List Nat → VEnv → VEnv
  | [], π => π
  | v :: vs, π => (restV π0 vs π).set v (π0.getD v none)
theorem wipeE_len (ρ : Env) : ∀ vs : List Nat, (wipeE ρ vs).length = ρ.length
  | [] => rfl
  | v :: vs => by
    show ((wipeE ρ vs).set v none).length = _
    rw [List.length_set, wipeE_len ρ vs]
theorem wipeV_len (π : VEnv) : ∀ vs : List Nat, (wipeV π vs).length = π.length
  | [] => rfl
  | v :: vs => by
    show ((wipeV π vs).set v none).length = _
    rw [List.length_set, wipeV_len π vs]
theorem restV_len (π0 : VEnv) : ∀ (vs : List Nat) (π : VEnv), (restV π0 vs π).length = π.length
  | [], _ => rfl
  | v :: vs, π => by
    show ((restV π0 vs π).set v _).length = _
    rw [List.length_set, restV_len π0 vs π]
theorem wipeE_ne {ρ : Env} {i : Nat} : ∀ {vs : List Nat}, i ∉ vs → (wipeE ρ vs)[i]? = ρ[i]?
  | [], _ => rfl
  | v :: vs, h => by
    show ((wipeE ρ vs).set v none)[i]? = _
    rw [List.getElem?_set_ne fun z => h (by rw [z]; exact List.mem_cons_self)]
    exact wipeE_ne fun z => h (List.mem_cons_of_mem _ z)
theorem wipeV_ne {π : VEnv} {i : Nat} : ∀ {vs : List Nat}, i ∉ vs → (wipeV π vs)[i]? = π[i]?
  | [], _ => rfl
  | v :: vs, h => by
    show ((wipeV π vs).set v none)[i]? = _
    rw [List.getElem?_set_ne fun z => h (by rw [z]; exact List.mem_cons_self)]
    exact wipeV_ne fun z => h (List.mem_cons_of_mem _ z)
theorem wipeV_in {π : VEnv} {i : Nat} : ∀ {vs : List Nat}, i ∈ vs → ∀ v, (wipeV π vs)[i]? ≠ some (some v)
  | w :: vs, h, v, p => by
    rcases getset p with ⟨_, e⟩ | ⟨z, p⟩
    · cases e
    · exact wipeV_in ((List.mem_cons.mp h).resolve_left z) v p
theorem restV_ne {π0 π : VEnv} {i : Nat} : ∀ {vs : List Nat}, i ∉ vs → (restV π0 vs π)[i]? = π[i]?
  | [], _ => rfl
  | v :: vs, h => by
    show ((restV π0 vs π).set v _)[i]? = _
    rw [List.getElem?_set_ne fun z => h (by rw [z]; exact List.mem_cons_self)]
    exact restV_ne fun z => h (List.mem_cons_of_mem _ z)
theorem restV_in {π0 π : VEnv} {i : Nat} {v : VV} : ∀ {vs : List Nat}, i ∈ vs → (restV π0 vs π)[i]? = some (some v) → π0[i]? = some (some v)
  | w :: vs, h, p => by
    rcases getset p with ⟨e1, e⟩ | ⟨z, p⟩
    · subst e1
      unfold List.getD at e
      cases q : π0[i]? with
      | none => rw [q] at e; cases e
      | some o => rw [q] at e; rw [show o = some v from e]
    · exact restV_in ((List.mem_cons.mp h).resolve_left z) p
section
variable {O : Ow} {fr : Bool} {T T1 : Ty} {h h1 : MH} {ρ ρ1 ρ2 : Env} {π π1 : VEnv} {is : List Nat}
theorem SimE.wipe (s : SimE O T h ρ π) (o : ∀ i ∈ is, O i = .fz) (hl : ρ1.length = ρ.length) (hs : ∀ i, i ∉ is → ρ1[i]? = ρ[i]?) : SimE O T h ρ1 (wipeV π is) where
  ln := by rw [hl, wipeV_len]; exact s.ln
  fz := fun i v oi p => by
    have hi : i ∉ is := fun z => wipeV_in z v p
    rw [wipeV_ne hi] at p
    rw [hs i hi]; exact s.fz i v oi p
  ow := fun i v oi p => by
    have hi : i ∉ is := fun z => oi (o i z)
    rw [wipeV_ne hi] at p
    rw [hs i hi]; exact s.ow i v oi p
  ds := fun a b n u1 u2 oa ob pa pb qa qb => by
    have ha : a ∉ is := fun z => oa (o a z)
    have hb : b ∉ is := fun z => ob (o b z)
    rw [wipeV_ne ha] at pa
    rw [wipeV_ne hb] at pb
    rw [hs a ha] at qa
    rw [hs b hb] at qb
    exact s.ds a b n u1 u2 oa ob pa pb qa qb
theorem Ke.wipe (k : Ke O T h ρ π T1 h1 ρ1 π1) (o : ∀ i ∈ is, O i = .fz) (hl : ρ2.length = ρ1.length) (hs : ∀ i, i ∉ is → ρ2[i]? = ρ1[i]?) : Ke O T h ρ π T1 h1 ρ2 (wipeV π1 is) where
  ty := k.ty
  ht := k.ht
  nx := k.nx
  fr := k.fr
  se := k.se.wipe o hl hs
  hd := fun n ⟨i, v, oi, p, q⟩ l => by
    have hi : i ∉ is := fun z => oi (o i z)
    rw [wipeV_ne hi] at p
    rw [hs i hi] at q
    exact k.hd n ⟨i, v, oi, p, q⟩ l
  pa := fun i e => by
    have hi : i ∉ is := fun z => by rw [o i z] at e; cases e
    rw [hs i hi]; exact k.pa i e
/-- back from a comprehension -/
theorem Ke.rest {T0 : Ty} {h0 : MH} {π0 : VEnv} (k : Ke O T0 h0 ρ π0 T1 h1 ρ1 π1) (s0 : SimE O T0 h0 ρ π0) (o : ∀ i ∈ is, O i = .fz) (hl : ρ1.length = ρ.length) (hs : ∀ i, i ∉ is → ρ1[i]? = ρ[i]?) : Ke O T0 h0 ρ π0 T1 h1 ρ (restV π0 is π1) where
  ty := k.ty
  ht := k.ht
  nx := k.nx
  fr := k.fr
  se := {
    ln := by rw [restV_len, ← k.se.ln, hl]
    fz := fun i v oi p => by
      by_cases hi : i ∈ is
      · obtain ⟨x, q, r⟩ := s0.fz i v oi (restV_in hi p)
        exact ⟨x, q, r.mono k.ty⟩
      · rw [restV_ne hi] at p
        rw [← hs i hi]; exact k.se.fz i v oi p
    ow := fun i v oi p => by
      have hi : i ∉ is := fun z => oi (o i z)
      rw [restV_ne hi] at p
      rw [← hs i hi]; exact k.se.ow i v oi p
    ds := fun a b n u1 u2 oa ob pa pb qa qb => by
      have ha : a ∉ is := fun z => oa (o a z)
      have hb : b ∉ is := fun z => ob (o b z)
      rw [restV_ne ha] at pa
      rw [restV_ne hb] at pb
      rw [← hs a ha] at qa
      rw [← hs b hb] at qb
      exact k.se.ds a b n u1 u2 oa ob pa pb qa qb }
  hd := fun n ⟨i, v, oi, p, q⟩ l => by
    have hi : i ∉ is := fun z => oi (o i z)
    rw [restV_ne hi] at p
    rw [← hs i hi] at q
    exact k.hd n ⟨i, v, oi, p, q⟩ l
  pa := fun i e => rfl
variable {gt : GF} {vg : VG} {tf : TF} {vt : VT} {e : EF} {ve : VE}
def vCompN (is : List Nat) (vg : VG) (t : VT) (e : VE) : List VV → VM (List VV)
  | [], π => .ok [] π
  | v :: vs, π => match vg v π with
    | none => .bad
    | some π1 => (t π1).bind fun b π2 => if b then (e π2).bind fun y π3 => (vCompN is vg t e vs (wipeV π3 is)).bind fun ys π4 => .ok (y :: ys) π4 else vCompN is vg t e vs (wipeV π2 is)
/-- an item's run, given the next ones' -/
theorem comp_sim {nx : Src} {all : List VV} (o : ∀ i ∈ is, O i = .fz) (b : RGt O is gt vg) (c : RT O tf vt) (a : RE O e ve) : ∀ (vs : List VV) (f i l : Nat) (T : Ty) (h : MH) (ρ : Env) (π : VEnv), SrcT T nx all → vs = all.drop i → vs.length < f → HT T h → SimE O T h ρ π →
    ∀ ys π', vCompN is vg vt ve vs π = .ok ys π' → l + ys.length ≤ 10000000 → ∃ xs h' T', compN nx gt tf e f i l ρ h = .ok xs h' ∧ Ke O T h ρ π T' h' ρ π' ∧ RepL T' xs ys
  | vs, 0, i, l, T, h, ρ, π, _, _, hf, _, _, _, _, _, _ => absurd hf (Nat.not_lt_zero _)
  | [], f + 1, i, l, T, h, ρ, π, sr, hv, hf, t, s, ys, π', ev, hl => by
    have hi : all[i]? = none := by
      rw [List.getElem?_eq_none_iff]
      have := congrArg List.length hv
      rw [List.length_drop] at this
      simp at this
      omega
    have z := sr.2 T h (TLe.refl T) t i
    rw [hi] at z
    cases ev
    refine ⟨[], h, T, ?_, Ke.refl t s, .nil⟩
    unfold compN
    rw [z]
  | v :: vs, f + 1, i, l, T, h, ρ, π, sr, hv, hf, t, s, ys, π', ev, hl => by
    have hi : all[i]? = some v := by
      have := congrArg (fun l => l[0]?) hv
      simpa using this.symm
    have hn : vs = all.drop (i + 1) := by
      have := congrArg List.tail hv
      simpa using this
    have z := sr.2 T h (TLe.refl T) t i
    rw [hi] at z
    obtain ⟨x, e0, r⟩ := z
    unfold vCompN at ev
    cases e1 : vg v π with
    | none => rw [e1] at ev; cases ev
    | some π1 =>
      rw [e1] at ev
      dsimp only at ev
      obtain ⟨ρ1, q1, k1, hlen, u1⟩ := b T h ρ π x v t s r π1 e1
      have q2 := c T h ρ1 π1 t k1.se
      have un : ∀ r, (((gt x ρ).bind fun ρ2 => (tf ρ2).bind fun b => if b then (e ρ2).bind fun y => if l < 10000000 then (compN nx gt tf e f (i + 1) (l + 1) ρ).bind fun ys => M.ret (y :: ys) else M.bad
        else compN nx gt tf e f (i + 1) l ρ) h) = r → compN nx gt tf e (f + 1) i l ρ h = r := fun r z => by
        unfold compN
        rw [e0]; exact z
      cases e2 : vt π1 with
      | bad => rw [e2] at ev; cases ev
      | exc _ _ _ => rw [e2] at ev; cases ev
      | ok bb π2 =>
        rw [e2] at ev q2
        obtain ⟨b', h2, T2, r2, k2, rb⟩ := q2
        rw [show b' = bb from rb] at r2
        cases bb with
        | false =>
          have kk : Ke O T h ρ π T2 h2 ρ (wipeV π2 is) := (k1.trans k2).wipe o hlen.symm fun i hi => (u1 i hi).symm
          obtain ⟨xs, h4, T4, r4, k4, rl⟩ := comp_sim o b c a vs f (i + 1) l T2 h2 ρ (wipeV π2 is) (sr.mono k2.ty) hn (by simp at hf; omega) kk.ht kk.se ys π' ev hl
          refine ⟨xs, h4, T4, un _ ?_, kk.trans k4, rl⟩
          rw [M.bind_ok q1, M.bind_ok r2]; exact r4
        | true =>
          have ev' : ((ve π2).bind fun y π3 => (vCompN is vg vt ve vs (wipeV π3 is)).bind fun ys π4 => VR.ok (y :: ys) π4) = .ok ys π' := ev
          have q3 := a T2 h2 ρ1 π2 k2.ht k2.se
          cases e3 : ve π2 with
          | bad => rw [e3] at ev'; cases ev'
          | exc _ _ _ => rw [e3] at ev'; cases ev'
          | ok y π3 =>
            rw [e3] at ev' q3
            obtain ⟨y', h3, T3, r3, k3, ry⟩ := q3
            have ev2 : ((vCompN is vg vt ve vs (wipeV π3 is)).bind fun ys π4 => VR.ok (y :: ys) π4) = .ok ys π' := ev'
            cases e4 : vCompN is vg vt ve vs (wipeV π3 is) with
            | bad => rw [e4] at ev2; cases ev2
            | exc _ _ _ => rw [e4] at ev2; cases ev2
            | ok zs π4 =>
              rw [e4] at ev2
              cases ev2
              simp at hl
              have kk : Ke O T h ρ π T3 h3 ρ (wipeV π3 is) := ((k1.trans k2).trans k3).wipe o hlen.symm fun i hi => (u1 i hi).symm
              obtain ⟨xs, h4, T4, r4, k4, rl⟩ := comp_sim o b c a vs f (i + 1) (l + 1) T3 h3 ρ (wipeV π3 is) (sr.mono (k2.ty.trans k3.ty)) hn (by simp at hf; omega) kk.ht kk.se zs _ e4 (by omega)
              refine ⟨y' :: xs, h4, T4, un _ ?_, kk.trans k4, .cons (RepT.mono k4.ty ry) rl⟩
              rw [M.bind_ok q1, M.bind_ok r2]
              show ((e ρ1).bind fun y => if l < 10000000 then (compN nx gt tf e f (i + 1) (l + 1) ρ).bind fun ys => M.ret (y :: ys) else M.bad) h2 = _
              rw [M.bind_ok r3, if_pos (by omega), M.bind_ok r4]; rfl
/-- the list of a comprehension -/
def vLc (it : VI) (is : List Nat) (vg : VG) (t : VT) (e : VE) : VE := fun π => (it π).bind fun vs π1 => match vCompN is vg t e vs (wipeV π1 is) with
  | .ok ys π2 => if ys.length ≤ 10000000 then .ok (.lst ys) (restV π1 is π2) else .bad
  | _ => .bad
theorem ro_lc {it : IF} {vi : VI} (o : ∀ i ∈ is, O i = .fz) (c0 : RI O it vi) (b : RGt O is gt vg) (c : RT O tf vt) (a : RE O e ve) : RO O (eLc it is gt tf e) (vLc vi is vg vt ve) := fun T h ρ π t s => by
  show Sim O (relF O h ρ π) T h ρ π (((it ρ).bind fun nxt => (noX (compN nxt gt tf e fuel 0 0 (wipeE ρ is))).bind fun xs => mNew (.lst xs)) h) _
  refine (c0 T h ρ π t s).bind fun nx h1 T1 vs π1 k1 sr => ?_
  cases ev : vCompN is vg vt ve vs (wipeV π1 is) with
  | bad => exact True.intro
  | exc _ _ _ => exact True.intro
  | ok ys π2 =>
    dsimp only
    by_cases hl : ys.length ≤ 10000000
    · rw [if_pos hl]
      have kw : Ke O T1 h1 ρ π1 T1 h1 (wipeE ρ is) (wipeV π1 is) := (Ke.refl k1.ht k1.se).wipe o (wipeE_len ρ is) fun i hi => wipeE_ne hi
      obtain ⟨xs, h2, T2, r2, k2, rl⟩ := comp_sim o b c a vs fuel 0 0 T1 h1 (wipeE ρ is) (wipeV π1 is) sr rfl sr.1 k1.ht kw.se ys π2 ev (by omega)
      have kr : Ke O T1 h1 ρ π1 T2 h2 ρ (restV π1 is π2) := (kw.trans k2).rest k1.se o (wipeE_len ρ is) fun i hi => wipeE_ne hi
      have e1 : (noX (compN nx gt tf e fuel 0 0 (wipeE ρ is))) h1 = .ok xs h2 := by
        unfold noX
        rw [r2]
      rw [M.bind_ok e1]
      exact ⟨_, _, T2, rfl, kr.trans (Ke.new kr.ht kr.se), relF.at (k1.trans kr) (new_rel kr.ht kr.se (.lst rl))⟩
    · rw [if_neg hl]; exact True.intro
end
def getOuts (π : VEnv) : List Nat → Option (List VV)
  | [] => some []
  | i :: is => match π[i]? with
    | some (some v) => (getOuts π is).map (v :: ·)
    | _ => none
def vEnd (ps : List Nat) (v : VV) (π : VEnv) : FR := match getOuts π ps with
  | some outs => .ok v outs
  | none => .bad
def vRes (fr : Bool) (ps : List Nat) (w : VR VO) : FR := match w with
  | .ok .nx π => if fr then .bad else vEnd ps .non π
  | .ok (.rt v) π => vEnd ps v π
  | .ok (.xc c x) π => (match getOuts π ps with
    | some outs => .exc c x outs
    | none => .bad)
  | _ => .bad
def vStart (n : Nat) (vs : List VV) : VEnv := vs.map some ++ List.replicate (n - vs.length) none
def vDef (fr : Bool) (n m : Nat) (ps : List Nat) (dvs : List VV) (g : VS) : GV := fun vs => if vs.length = m then vRes fr ps (g (vStart n (vs ++ dvs))) else .bad
/-- the slots of what is handed in to be changed -/
def psOf : List Bool → Nat → List Nat
  | [], _ => []
  | true :: ms, i => i :: psOf ms (i + 1)
  | false :: ms, i => psOf ms (i + 1)
/-- the modes fit -/
def mdOk (O : Ow) : List Bool → Nat → Prop
  | [], _ => True
  | m :: ms, i => O i = (if m then .pa else .fz) ∧ mdOk O ms (i + 1)
section
variable {O : Ow} {T : Ty} {h : MH}
/-- the arguments in their slots, from the i-th on -/
theorem arg_at : ∀ {ms : List Bool} {xs : List PV} {vs : List VV}, ArgR T h ms xs vs → ∀ (i : Nat), mdOk O ms i → ∀ (k : Nat) (v : VV), vs[k]? = some v → ∃ x, xs[k]? = some x ∧ ((O (i + k) = .fz ∧ RepT T x v) ∨ (O (i + k) = .pa ∧ (i + k) ∈ psOf ms i ∧ ∃ n, x = .ref n ∧ n ∈ hdl ms xs ∧ OwnAt T h n v))
  | _, _, _, .nil, _, _, k, v, e => by simp at e
  | _, _, _, @ArgR.v _ _ m x v xs vs r t, i, o, 0, u, e => by
    cases e
    exact ⟨x, rfl, .inl ⟨o.1, r⟩⟩
  | _, _, _, @ArgR.v _ _ m x v xs vs r t, i, o, k + 1, u, e => by
    obtain ⟨y, h1, h2⟩ := arg_at t (i + 1) o.2 k u (by simpa using e)
    have eh : hdl (false :: m) (x :: xs) = hdl m xs := by cases x <;> rfl
    refine ⟨y, by simpa using h1, ?_⟩
    rw [show i + (k + 1) = i + 1 + k by omega, eh]
    exact h2
  | _, _, _, @ArgR.s _ _ m n v xs vs r t, i, o, 0, u, e => by
    cases e
    exact ⟨_, rfl, .inr ⟨o.1, List.mem_cons_self, n, rfl, List.mem_cons_self, r⟩⟩
  | _, _, _, @ArgR.s _ _ m n v xs vs r t, i, o, k + 1, u, e => by
    obtain ⟨y, h1, h2⟩ := arg_at t (i + 1) o.2 k u (by simpa using e)
    refine ⟨y, by simpa using h1, ?_⟩
    rw [show i + (k + 1) = i + 1 + k by omega]
    rcases h2 with h2 | ⟨a, b, n', c, d, w⟩
    · exact .inl h2
    · exact .inr ⟨a, List.mem_cons_of_mem _ b, n', c, List.mem_cons_of_mem _ d, w⟩
theorem arg_hdl : ∀ {ms : List Bool} {xs : List PV} {vs : List VV}, ArgR T h ms xs vs → ∀ (i : Nat), mdOk O ms i → xs.length = vs.length ∧ ∀ (l : Nat) (n : Nat), (psOf ms i)[l]? = some n → ∃ m, (hdl ms xs)[l]? = some m ∧ i ≤ n ∧ xs[n - i]? = some (PV.ref m) ∧ O n = .pa
  | _, _, _, .nil, _, _ => ⟨rfl, fun l n e => by simp [psOf] at e⟩
  | _, _, _, @ArgR.v _ _ m x v xs vs r t, i, o => by
    obtain ⟨h1, h2⟩ := arg_hdl t (i + 1) o.2
    have eh : hdl (false :: m) (x :: xs) = hdl m xs := by cases x <;> rfl
    refine ⟨congrArg Nat.succ h1, fun l n e => ?_⟩
    obtain ⟨a, b, c, d, w⟩ := h2 l n e
    refine ⟨a, by rw [eh]; exact b, by omega, ?_, w⟩
    rw [show n - i = (n - (i + 1)) + 1 by omega]
    simpa using d
  | _, _, _, @ArgR.s _ _ m n v xs vs r t, i, o => by
    obtain ⟨h1, h2⟩ := arg_hdl t (i + 1) o.2
    refine ⟨congrArg Nat.succ h1, fun l k e => ?_⟩
    cases l with
    | zero =>
      cases e
      exact ⟨n, rfl, Nat.le_refl _, by simp, o.1⟩
    | succ l =>
      obtain ⟨a, b, c, d, w⟩ := h2 l k (by simpa [psOf] using e)
      refine ⟨a, by simpa [hdl] using b, by omega, ?_, w⟩
      rw [show k - i = (k - (i + 1)) + 1 by omega]
      simpa using d
theorem hdl_len {ms : List Bool} {xs : List PV} {vs : List VV} (r : ArgR T h ms xs vs) : ∀ (i : Nat), (hdl ms xs).length = (psOf ms i).length := by
  induction r with
  | nil => intro i; rfl
  | @v m x v xs vs r t ih =>
    intro i
    have eh : hdl (false :: m) (x :: xs) = hdl m xs := by cases x <;> rfl
    rw [eh]; exact ih (i + 1)
  | s r t ih => intro i; exact congrArg Nat.succ (ih (i + 1))
theorem nodup_idx {l : List Nat} (n : l.Nodup) {i j k : Nat} (a : l[i]? = some k) (b : l[j]? = some k) : i = j := by
  have li := (List.getElem?_eq_some_iff.mp a).1
  exact (List.getElem?_inj li n).mp (a.trans b.symm)
theorem inE {α : Type} {l : List α} {n i : Nat} {v : α} (p : (l.map some ++ List.replicate n none)[i]? = some (some v)) : l[i]? = some v := by
  by_cases hi : i < l.length
  · rw [List.getElem?_append_left (by rw [List.length_map]; exact hi), List.getElem?_map] at p
    cases e : l[i]? with
    | none => rw [e] at p; cases p
    | some w => rw [e] at p; cases p; rfl
  · rw [List.getElem?_append_right (by rw [List.length_map]; omega), List.getElem?_replicate] at p
    split at p <;> cases p
theorem outE {α : Type} {l : List α} {n i : Nat} {x : α} (p : l[i]? = some x) : (l.map some ++ List.replicate n none)[i]? = some (some x) := by
  have hi := (List.getElem?_eq_some_iff.mp p).1
  rw [List.getElem?_append_left (by rw [List.length_map]; exact hi), List.getElem?_map, p]; rfl
/-- at the start of a body -/
theorem start_sim {ms : List Bool} {xs dxs : List PV} {vs dvs : List VV} {n : Nat} (t : HT T h) (r : ArgR T h ms xs vs) (nd : (hdl ms xs).Nodup) (o : mdOk O ms 0) (od : ∀ i, xs.length ≤ i → i < xs.length + dvs.length → O i = .fz) (rd : RepL T dxs dvs) :
    SimE O T h ((xs ++ dxs).map some ++ List.replicate (n - (xs ++ dxs).length) none) (vStart n (vs ++ dvs)) ∧ ∀ m, Hd O ((xs ++ dxs).map some ++ List.replicate (n - (xs ++ dxs).length) none) (vStart n (vs ++ dvs)) m → m ∈ hdl ms xs := by
  obtain ⟨hl, hp⟩ := arg_hdl (O := O) r 0 o
  have ld := rd.length
  have ll : (xs ++ dxs).length = (vs ++ dvs).length := by rw [List.length_append, List.length_append, hl, ld]
  have key : ∀ i v, (vs ++ dvs)[i]? = some v → ∃ x, (xs ++ dxs)[i]? = some x ∧ ((O i = .fz ∧ RepT T x v) ∨ (O i = .pa ∧ i ∈ psOf ms 0 ∧ ∃ n, x = .ref n ∧ n ∈ hdl ms xs ∧ OwnAt T h n v)) := fun i v p => by
    by_cases hi : i < vs.length
    · rw [List.getElem?_append_left hi] at p
      obtain ⟨x, h1, h2⟩ := arg_at (O := O) r 0 o i v p
      refine ⟨x, by rw [List.getElem?_append_left (by rw [hl]; exact hi)]; exact h1, ?_⟩
      simpa using h2
    · rw [List.getElem?_append_right (by omega)] at p
      obtain ⟨x, h1, h2⟩ := rd.get p
      have hlt := (List.getElem?_eq_some_iff.mp p).1
      exact ⟨x, by rw [List.getElem?_append_right (by omega), hl]; exact h1, .inl ⟨od i (by omega) (by omega), h2⟩⟩
  have slot : ∀ i m v, O i ≠ .fz → (vs ++ dvs)[i]? = some v → (xs ++ dxs)[i]? = some (PV.ref m) → ∃ l : Nat, (psOf ms 0)[l]? = some i ∧ (hdl ms xs)[l]? = some m := fun i m v oi p q => by
    obtain ⟨x, h1, h2⟩ := key i v p
    rcases h2 with ⟨z, _⟩ | ⟨_, hm, _⟩
    · exact absurd z oi
    · obtain ⟨l, hl2⟩ := List.mem_iff_getElem?.mp hm
      obtain ⟨m', a, b, c, d⟩ := hp l i hl2
      refine ⟨l, hl2, ?_⟩
      have hi : i < xs.length := (List.getElem?_eq_some_iff.mp c).1
      rw [List.getElem?_append_left hi] at q
      rw [show i - 0 = i from rfl, q] at c
      cases c; exact a
  unfold vStart
  refine ⟨⟨by simp only [List.length_append, List.length_map, List.length_replicate, hl, ld], fun i v oi p => ?_, fun i v oi p => ?_, fun i j m u1 u2 oi oj pi pj qi qj => ?_⟩, ?_⟩
  · obtain ⟨x, h1, h2⟩ := key i v (inE p)
    rcases h2 with ⟨_, h2⟩ | ⟨z, _⟩
    · exact ⟨x, outE h1, h2⟩
    · rw [oi] at z; cases z
  · obtain ⟨x, h1, h2⟩ := key i v (inE p)
    rcases h2 with ⟨z, _⟩ | ⟨_, _, m, rfl, _, w⟩
    · exact absurd z oi
    · exact ⟨m, outE h1, w⟩
  · obtain ⟨l1, a1, b1⟩ := slot i m u1 oi (inE pi) (inE qi)
    obtain ⟨l2, a2, b2⟩ := slot j m u2 oj (inE pj) (inE qj)
    have := nodup_idx nd b1 b2
    subst this
    rw [a1] at a2
    exact Option.some.inj a2
  · rintro m ⟨i, v, oi, p, q⟩
    obtain ⟨l, _, b⟩ := slot i m v oi (inE p) (inE q)
    exact List.mem_of_getElem? b
/-- what is handed back -/
theorem outs_sim {ρ : Env} {π : VEnv} (s : SimE O T h ρ π) : ∀ {ns ps : List Nat}, ps.length = ns.length → (∀ (l i m : Nat), ps[l]? = some i → ns[l]? = some m → O i = .pa ∧ ρ[i]? = some (some (PV.ref m))) → ∀ {outs : List VV}, getOuts π ps = some outs → OutR T h ns outs
  | [], [], _, _, outs, e => by cases e; exact .nil
  | [], _ :: _, hl, _, _, _ => by simp at hl
  | _ :: _, [], hl, _, _, _ => by simp at hl
  | n :: ns, p :: ps, hl, hk, outs, e => by
    unfold getOuts at e
    split at e
    · rename_i v pv
      cases q : getOuts π ps with
      | none => rw [q] at e; cases e
      | some os =>
        rw [q] at e
        cases e
        obtain ⟨op, hr⟩ := hk 0 p n rfl rfl
        obtain ⟨m, q2, w⟩ := s.ow p v (by rw [op]; exact fun z => nomatch z) pv
        rw [hr] at q2
        cases q2
        exact .cons w (outs_sim s (by simpa using hl) (fun l i m a b => hk (l + 1) i m (by simpa using a) (by simpa using b)) q)
    · cases e
theorem getOuts_in {π : VEnv} : ∀ {ps : List Nat} {outs : List VV}, getOuts π ps = some outs → ∀ i ∈ ps, ∃ v, π[i]? = some (some v)
  | [], _, _, i, hi => by cases hi
  | p :: ps, outs, e, i, hi => by
    unfold getOuts at e
    split at e
    · rename_i v pv
      rcases List.mem_cons.mp hi with rfl | hi
      · exact ⟨v, pv⟩
      · cases q : getOuts π ps with
        | none => rw [q] at e; cases e
        | some os => exact getOuts_in q i hi
    · cases e
/-- THE RULE: a def by its body -/
theorem rf_def {O : Ow} {n m : Nat} {ms : List Bool} {fr : Bool} {dxs : List PV} {dvs : List VV} {s : SF} {g : VS} (b : RS O fr s g) (o : mdOk O ms 0) (od : ∀ i, m ≤ i → i < m + dvs.length → O i = .fz) (rd : ∀ T, RepL T dxs dvs) :
    RF ms fr (defB n m dxs s) (vDef fr n m (psOf ms 0) dvs g) := fun T h xs vs t r nd => by
  obtain ⟨hl, hp⟩ := arg_hdl (O := O) r 0 o
  have hh := hdl_len r 0
  unfold vDef
  by_cases lv : vs.length = m
  · rw [if_pos lv]
    have lx : xs.length = m := hl.trans lv
    obtain ⟨s0, hd0⟩ := start_sim (n := n) (dvs := dvs) t r nd o (by rw [lx]; exact od) (rd T)
    have q := b T h _ _ t s0
    have un : defB n m dxs s xs = runB n s (xs ++ dxs) := by unfold defB; rw [if_pos lx]
    rw [un]
    have pa0 : ∀ (l i k : Nat), (psOf ms 0)[l]? = some i → (hdl ms xs)[l]? = some k → O i = .pa ∧ ((xs ++ dxs).map some ++ List.replicate (n - (xs ++ dxs).length) none)[i]? = some (some (PV.ref k)) := fun l i k a b => by
      obtain ⟨k', a2, _, c, d⟩ := hp l i a
      rw [b] at a2
      cases a2
      refine ⟨d, outE ?_⟩
      rw [Nat.sub_zero] at c
      rw [List.getElem?_append_left (List.getElem?_eq_some_iff.mp c).1]
      exact c
    have fin : ∀ {T' : Ty} {h' : MH} {ρ' : Env} {π' : VEnv} {outs : List VV}, Ke O T h ((xs ++ dxs).map some ++ List.replicate (n - (xs ++ dxs).length) none) (vStart n (vs ++ dvs)) T' h' ρ' π' → getOuts π' (psOf ms 0) = some outs → Kf ms T h xs T' h' outs := fun {T' h' ρ' π' outs} k e =>
      ⟨k.ty, k.ht, k.nx, fun n l u d => k.fr n l u fun z => d (hd0 n z), outs_sim k.se hh.symm (fun l i m a b => by
        obtain ⟨p1, p2⟩ := pa0 l i m a b
        exact ⟨p1, by rw [k.pa i p1]; exact p2⟩) e⟩
    unfold vRes
    revert q
    cases e : g (vStart n (vs ++ dvs)) with
    | bad => exact fun _ => True.intro
    | exc _ _ _ => exact fun _ => True.intro
    | ok o' π' =>
      rintro ⟨o'', h', T', e2, q⟩
      have e3 : (noX (s ((xs ++ dxs).map some ++ List.replicate (n - (xs ++ dxs).length) none))) h = .ok o'' h' := by
        unfold noX
        rw [e2]
      have e4 : runB n s (xs ++ dxs) h = (match o'' with
        | .nx _ => M.ret .non
        | .rt x => M.ret x
        | .xc c x _ => fun h => .exc c x h
        | _ => M.bad : M PV) h' := by
        unfold runB
        rw [M.bind_ok e3]
        cases o'' <;> rfl
      rw [e4]
      cases o' with
      | nx =>
        cases o'' <;> first | exact q.elim | skip
        dsimp only
        cases fr with
        | true => exact True.intro
        | false =>
          unfold vEnd
          cases eo : getOuts π' (psOf ms 0) with
          | none => exact True.intro
          | some outs => exact ⟨_, h', T', rfl, fin q eo, .non⟩
      | rt v =>
        cases o'' <;> first | exact q.elim | skip
        obtain ⟨ρ', k, z⟩ := q
        unfold vEnd
        dsimp only
        cases eo : getOuts π' (psOf ms 0) with
        | none => exact True.intro
        | some outs =>
          refine ⟨_, h', T', rfl, fin k eo, ?_⟩
          unfold RetR
          cases fr with
          | false => exact z
          | true =>
            obtain ⟨j, e5, l, d, w⟩ := z
            have nh : j ∉ hdl ms xs := fun hj => by
              obtain ⟨li, hli⟩ := List.mem_iff_getElem?.mp hj
              have hlt : li < (psOf ms 0).length := by rw [← hh]; exact (List.getElem?_eq_some_iff.mp hli).1
              obtain ⟨p1, p2⟩ := pa0 li _ j (List.getElem?_eq_getElem hlt) hli
              obtain ⟨u, hu⟩ := getOuts_in eo _ (List.getElem_mem hlt)
              exact d ⟨_, u, by rw [p1]; exact (fun z => nomatch z), hu, by rw [k.pa _ p1]; exact p2⟩
            refine ⟨j, e5, ?_, nh, w⟩
            rcases l with l | l
            · exact l
            · exact absurd (hd0 j l) nh
      | xc c v =>
        cases o'' <;> first | exact q.elim | skip
        obtain ⟨rfl, k, z⟩ := q
        dsimp only
        cases eo : getOuts π' (psOf ms 0) with
        | none => exact True.intro
        | some outs => exact ⟨_, h', T', rfl, fin k eo, z⟩
      | bk => exact True.intro
      | ct => exact True.intro
  · rw [if_neg lv]; exact True.intro
end
end VX

set_option Elab.async false
set_option linter.all false
set_option maxRecDepth 100000
set_option maxHeartbeats 1000000
namespace VX
open FX
section
variable {T : Ty} {h : MH} {x : PV} {v : VV}
theorem rb_int {i : Int} (t : HT T h) (r : RepB T h x (.int i)) : x = .int i := by
  rcases r with r | ⟨n, e, w⟩
  · cases r with
    | int => rfl
    | ref e => obtain ⟨o, _, b⟩ := t _ _ e; cases b
  · obtain ⟨o, _, b⟩ := w.ob; cases b
theorem rb_bl {i : Bool} (t : HT T h) (r : RepB T h x (.bl i)) : x = .bl i := by
  rcases r with r | ⟨n, e, w⟩
  · cases r with
    | bl => rfl
    | ref e => obtain ⟨o, _, b⟩ := t _ _ e; cases b
  · obtain ⟨o, _, b⟩ := w.ob; cases b
theorem rb_non (t : HT T h) (r : RepB T h x .non) : x = .non := by
  rcases r with r | ⟨n, e, w⟩
  · cases r with
    | non => rfl
    | ref e => obtain ⟨o, _, b⟩ := t _ _ e; cases b
  · obtain ⟨o, _, b⟩ := w.ob; cases b
theorem rb_str {i : List Nat} (t : HT T h) (r : RepB T h x (.str i)) : x = .str i := by
  rcases r with r | ⟨n, e, w⟩
  · cases r with
    | str => rfl
    | ref e => obtain ⟨o, _, b⟩ := t _ _ e; cases b
  · obtain ⟨o, _, b⟩ := w.ob; cases b
theorem rb_ty {i : String} (t : HT T h) (r : RepB T h x (.ty i)) : x = .ty i := by
  rcases r with r | ⟨n, e, w⟩
  · cases r with
    | ty => rfl
    | ref e => obtain ⟨o, _, b⟩ := t _ _ e; cases b
  · obtain ⟨o, _, b⟩ := w.ob; cases b
theorem rb_tup {vs : List VV} (t : HT T h) (r : RepB T h x (.tup vs)) : ∃ xs, x = .tup xs ∧ RepL T xs vs := by
  rcases r with r | ⟨n, e, w⟩
  · cases r with
    | tup r => exact ⟨_, rfl, r⟩
    | ref e => obtain ⟨o, _, b⟩ := t _ _ e; cases b
  · obtain ⟨o, _, b⟩ := w.ob; cases b
theorem rb_kl {vs : List VV} (t : HT T h) (r : RepB T h x (.kl vs)) : ∃ a xs, x = .kl a xs ∧ RepL T xs vs := by
  rcases r with r | ⟨n, e, w⟩
  · cases r with
    | kl r => exact ⟨_, _, rfl, r⟩
    | ref e => obtain ⟨o, _, b⟩ := t _ _ e; cases b
  · obtain ⟨o, _, b⟩ := w.ob; cases b
theorem rb_lst {vs : List VV} (t : HT T h) (r : RepB T h x (.lst vs)) : ∃ xs n, RepL T xs vs ∧ x = .ref n ∧ h.get n = some (.lst xs) := by
  have aux : ∀ {n : Nat} {o : MO}, h.get n = some o → ObT T o (.lst vs) → ∃ xs, RepL T xs vs ∧ h.get n = some (.lst xs) := fun {n o} g b => by
    cases b with
    | lst r => exact ⟨_, r, g⟩
  rcases r with r | ⟨n, e, w⟩
  · cases r with
    | ref e =>
      obtain ⟨o, g, b⟩ := t _ _ e
      obtain ⟨xs, r, g⟩ := aux g b
      exact ⟨xs, _, r, rfl, g⟩
  · obtain ⟨o, g, b⟩ := w.ob
    obtain ⟨xs, r, g⟩ := aux g b
    exact ⟨xs, _, r, e, g⟩
theorem rb_obj {c : Nat} {vs : List VV} (t : HT T h) (r : RepB T h x (.obj c vs)) : ∃ n os, x = .ref n ∧ h.get n = some (.ins c os) ∧ RepS T os vs := by
  have aux : ∀ {n : Nat} {o : MO}, h.get n = some o → ObT T o (.obj c vs) → ∃ os, h.get n = some (.ins c os) ∧ RepS T os vs := fun {n o} g b => by
    cases b with
    | ins r => exact ⟨_, g, r⟩
  rcases r with r | ⟨n, e, w⟩
  · cases r with
    | ref e =>
      obtain ⟨o, g, b⟩ := t _ _ e
      obtain ⟨os, g, r⟩ := aux g b
      exact ⟨_, os, rfl, g, r⟩
  · obtain ⟨o, g, b⟩ := w.ob
    obtain ⟨os, g, r⟩ := aux g b
    exact ⟨n, os, e, g, r⟩
theorem rb_err {c : Nat} {v : VV} (t : HT T h) (r : RepB T h x (.err c v)) : ∃ n y, x = .ref n ∧ h.get n = some (.exo c y) ∧ RepT T y v := by
  have aux : ∀ {n : Nat} {o : MO}, h.get n = some o → ObT T o (.err c v) → ∃ y, h.get n = some (.exo c y) ∧ RepT T y v := fun {n o} g b => by
    cases b with
    | exo r => exact ⟨_, g, r⟩
  rcases r with r | ⟨n, e, w⟩
  · cases r with
    | ref e =>
      obtain ⟨o, g, b⟩ := t _ _ e
      obtain ⟨os, g, r⟩ := aux g b
      exact ⟨_, os, rfl, g, r⟩
  · obtain ⟨o, g, b⟩ := w.ob
    obtain ⟨os, g, r⟩ := aux g b
    exact ⟨n, os, e, g, r⟩
theorem rb_bxe {c : String} (t : HT T h) (r : RepB T h x (.bxe c)) : ∃ n, x = .ref n ∧ h.get n = some (.bxo c) := by
  have aux : ∀ {n : Nat} {o : MO}, h.get n = some o → ObT T o (.bxe c) → h.get n = some (.bxo c) := fun {n o} g b => by
    cases b with
    | bxo => exact g
  rcases r with r | ⟨n, e, w⟩
  · cases r with
    | ref e =>
      obtain ⟨o, g, b⟩ := t _ _ e
      exact ⟨_, rfl, aux g b⟩
  · obtain ⟨o, g, b⟩ := w.ob
    exact ⟨n, e, aux g b⟩
theorem rb_dct {kws : List (VV × VV)} (t : HT T h) (r : RepB T h x (.dct kws)) : ∃ n kvs, x = .ref n ∧ RepKV T kvs kws ∧ h.get n = some (.dct kvs) := by
  have aux : ∀ {n : Nat} {o : MO}, h.get n = some o → ObT T o (.dct kws) → ∃ kvs, RepKV T kvs kws ∧ h.get n = some (.dct kvs) := fun {n o} g b => by
    cases b with
    | dct r => exact ⟨_, r, g⟩
  rcases r with r | ⟨n, e, w⟩
  · cases r with
    | ref e =>
      obtain ⟨o, g, b⟩ := t _ _ e
      obtain ⟨os, g, r⟩ := aux g b
      exact ⟨_, os, rfl, g, r⟩
  · obtain ⟨o, g, b⟩ := w.ob
    obtain ⟨os, g, r⟩ := aux g b
    exact ⟨n, os, e, g, r⟩
theorem rb_dtt {kws : List (VV × VV)} (t : HT T h) (r : RepB T h x (.dtt kws)) : ∃ n kvs, x = .ref n ∧ RepKV T kvs kws ∧ h.get n = some (.dtt kvs) := by
  have aux : ∀ {n : Nat} {o : MO}, h.get n = some o → ObT T o (.dtt kws) → ∃ kvs, RepKV T kvs kws ∧ h.get n = some (.dtt kvs) := fun {n o} g b => by
    cases b with
    | dtt r => exact ⟨_, r, g⟩
  rcases r with r | ⟨n, e, w⟩
  · cases r with
    | ref e =>
      obtain ⟨o, g, b⟩ := t _ _ e
      obtain ⟨os, g, r⟩ := aux g b
      exact ⟨_, os, rfl, g, r⟩
  · obtain ⟨o, g, b⟩ := w.ob
    obtain ⟨os, g, r⟩ := aux g b
    exact ⟨n, os, e, g, r⟩
end
def seqV : VV → Option (List VV)
  | .tup xs => some xs
  | .lst xs => some xs
  | .kl xs => some xs
  | _ => none
theorem seq_rel {α : Type} {T : Ty} {h : MH} {x : PV} {v : VV} {vs : List VV} {k : List PV → M α} (t : HT T h) (r : RepB T h x v) (e : seqV v = some vs) : ∃ xs, RepL T xs vs ∧ mSeq x k h = k xs h := by
  cases v with
  | tup us =>
    cases e
    obtain ⟨xs, rfl, rl⟩ := rb_tup t r
    exact ⟨xs, rl, rfl⟩
  | lst us =>
    cases e
    obtain ⟨xs, n, rl, rfl, g⟩ := rb_lst t r
    refine ⟨xs, rl, ?_⟩
    show mAt n _ h = _
    rw [mAt_ok g]
  | kl us =>
    cases e
    obtain ⟨a, xs, rfl, rl⟩ := rb_kl t r
    exact ⟨xs, rl, rfl⟩
  | _ => cases e
def lstV : VV → Option (List VV)
  | .lst xs => some xs
  | .kl xs => some xs
  | _ => none
theorem lst_rel {α : Type} {T : Ty} {h : MH} {x : PV} {v : VV} {vs : List VV} {k : List PV → M α} (t : HT T h) (r : RepB T h x v) (e : lstV v = some vs) : ∃ xs, RepL T xs vs ∧ mLst x k h = k xs h := by
  cases v with
  | lst us =>
    cases e
    obtain ⟨xs, n, rl, rfl, g⟩ := rb_lst t r
    refine ⟨xs, rl, ?_⟩
    show mAt n _ h = _
    rw [mAt_ok g]
  | kl us =>
    cases e
    obtain ⟨a, xs, rfl, rl⟩ := rb_kl t r
    exact ⟨xs, rl, rfl⟩
  | _ => cases e
/-- plain data of depth below n -/
def okV : Nat → VV → Bool
  | _, .non => true
  | _, .bl _ => true
  | _, .int _ => true
  | _, .str x => x.all fun c => decide (c < 0x110000)
  | n + 1, .tup xs => xs.all (okV n)
  | _, _ => false
mutual
/-- == of data -/
def eqvV : VV → VV → Bool
  | .non, .non => true
  | .bl a, .bl b => a == b
  | .bl a, .int j => (if a then 1 else 0) == j
  | .int i, .bl b => i == (if b then 1 else 0)
  | .int i, .int j => decide (i = j)
  | .str x, .str y => eqL x y
  | .tup xs, .tup ys => eqvVL xs ys
  | _, _ => false
def eqvVL : List VV → List VV → Bool
  | [], [] => true
  | x :: xs, y :: ys => eqvV x y && eqvVL xs ys
  | _, _ => false
end
section
variable {T : Ty} {h : MH}
mutual
theorem okV_rel (t : HT T h) : ∀ (n : Nat) (x : PV) (v : VV), RepT T x v → okV n v = true → okD n x = true
  | 0, .non, _, .non, _ => rfl
  | _ + 1, .non, _, .non, _ => rfl
  | 0, .bl _, _, .bl, _ => rfl
  | _ + 1, .bl _, _, .bl, _ => rfl
  | 0, .int _, _, .int, _ => rfl
  | _ + 1, .int _, _, .int, _ => rfl
  | 0, .str _, _, .str, e => e
  | _ + 1, .str _, _, .str, e => e
  | 0, .ty _, _, .ty, e => by cases e
  | _ + 1, .ty _, _, .ty, e => by cases e
  | 0, .tup xs, _, .tup r, e => by cases e
  | n + 1, .tup xs, _, .tup (vs := vs) r, e => by
    have e' : vs.all (okV n) = true := e
    exact okVL_rel t n xs vs r e'
  | 0, .kl _ _, _, .kl _, e => by cases e
  | _ + 1, .kl _ _, _, .kl _, e => by cases e
  | n, .ref m, v, .ref q, e => by
    obtain ⟨o, _, b⟩ := t _ _ q
    cases b <;> cases n <;> cases e
theorem okVL_rel (t : HT T h) : ∀ (n : Nat) (xs : List PV) (vs : List VV), RepL T xs vs → vs.all (okV n) = true → xs.all (okD n) = true
  | _, [], _, .nil, _ => rfl
  | n, x :: xs, _, .cons (v := v) (vs := vs) r u, e => by
    have e' : (okV n v && vs.all (okV n)) = true := e
    rw [Bool.and_eq_true] at e'
    show (okD n x && xs.all (okD n)) = true
    rw [okV_rel t n x v r e'.1, okVL_rel t n xs vs u e'.2]; rfl
end
mutual
theorem eqv_rel (t : HT T h) : ∀ (x y : PV) (v u : VV), RepT T x v → RepT T y u → ∀ n, okV n v = true → okV n u = true → eqv x y = eqvV v u
  | .tup xs, .tup ys, _, _, .tup r1, .tup r2, n, e1, e2 => by
    cases n with
    | zero => cases e1
    | succ n => exact eqvL_rel t xs ys _ _ r1 r2 n e1 e2
  | .ref m, y, v, u, .ref q, _, n, e1, e2 => by
    obtain ⟨o, _, b⟩ := t _ _ q
    cases b <;> cases n <;> cases e1
  | x, .ref m, v, u, _, .ref q, n, e1, e2 => by
    obtain ⟨o, _, b⟩ := t _ _ q
    cases b <;> cases n <;> cases e2
  | .kl _ _, y, _, u, .kl _, _, n, e1, e2 => by cases n <;> cases e1
  | x, .kl _ _, v, _, _, .kl _, n, e1, e2 => by cases n <;> cases e2
  | .ty _, y, _, u, .ty, _, n, e1, e2 => by cases n <;> cases e1
  | x, .ty _, v, _, _, .ty, n, e1, e2 => by cases n <;> cases e2
  | .non, .non, _, _, .non, .non, n, e1, e2 => rfl
  | .non, .bl _, _, _, .non, .bl, n, e1, e2 => rfl
  | .non, .int _, _, _, .non, .int, n, e1, e2 => rfl
  | .non, .str _, _, _, .non, .str, n, e1, e2 => rfl
  | .non, .tup _, _, _, .non, .tup _, n, e1, e2 => rfl
  | .bl _, .non, _, _, .bl, .non, n, e1, e2 => rfl
  | .bl _, .bl _, _, _, .bl, .bl, n, e1, e2 => rfl
  | .bl _, .int _, _, _, .bl, .int, n, e1, e2 => rfl
  | .bl _, .str _, _, _, .bl, .str, n, e1, e2 => rfl
  | .bl _, .tup _, _, _, .bl, .tup _, n, e1, e2 => rfl
  | .int _, .non, _, _, .int, .non, n, e1, e2 => rfl
  | .int _, .bl _, _, _, .int, .bl, n, e1, e2 => rfl
  | .int _, .int _, _, _, .int, .int, n, e1, e2 => rfl
  | .int _, .str _, _, _, .int, .str, n, e1, e2 => rfl
  | .int _, .tup _, _, _, .int, .tup _, n, e1, e2 => rfl
  | .str _, .non, _, _, .str, .non, n, e1, e2 => rfl
  | .str _, .bl _, _, _, .str, .bl, n, e1, e2 => rfl
  | .str _, .int _, _, _, .str, .int, n, e1, e2 => rfl
  | .str _, .str _, _, _, .str, .str, n, e1, e2 => rfl
  | .str _, .tup _, _, _, .str, .tup _, n, e1, e2 => rfl
  | .tup _, .non, _, _, .tup _, .non, n, e1, e2 => rfl
  | .tup _, .bl _, _, _, .tup _, .bl, n, e1, e2 => rfl
  | .tup _, .int _, _, _, .tup _, .int, n, e1, e2 => rfl
  | .tup _, .str _, _, _, .tup _, .str, n, e1, e2 => rfl
theorem eqvL_rel (t : HT T h) : ∀ (xs ys : List PV) (vs us : List VV), RepL T xs vs → RepL T ys us → ∀ n, vs.all (okV n) = true → us.all (okV n) = true → eqvL xs ys = eqvVL vs us
  | [], [], _, _, .nil, .nil, _, _, _ => rfl
  | [], _ :: _, _, _, .nil, .cons _ _, _, _, _ => rfl
  | _ :: _, [], _, _, .cons _ _, .nil, _, _, _ => rfl
  | x :: xs, y :: ys, _, _, .cons (v := v) (vs := vs) r1 s1, .cons (v := u) (vs := us) r2 s2, n, e1, e2 => by
    have e1' : (okV n v && vs.all (okV n)) = true := e1
    have e2' : (okV n u && us.all (okV n)) = true := e2
    rw [Bool.and_eq_true] at e1' e2'
    show (eqv x y && eqvL xs ys) = (eqvV v u && eqvVL vs us)
    rw [eqv_rel t x y v u r1 r2 n e1'.1 e2'.1, eqvL_rel t xs ys vs us s1 s2 n e1'.2 e2'.2]
end
end
section
variable {T : Ty} {h : MH} {xs : List PV} {v u : VV}
theorem rb1 (r : RepBL T h xs [v]) : ∃ x, xs = [x] ∧ RepB T h x v := by
  cases r with
  | cons r s => cases s; exact ⟨_, rfl, r⟩
theorem rb2 (r : RepBL T h xs [v, u]) : ∃ x y, xs = [x, y] ∧ RepB T h x v ∧ RepB T h y u := by
  cases r with
  | cons r s =>
    obtain ⟨y, rfl, q⟩ := rb1 s
    exact ⟨_, y, rfl, r, q⟩
theorem frz_of (t : HT T h) {x : PV} {n : Nat} (r : RepB T h x v) (e : okV n v = true) : RepT T x v := by
  rcases r with r | ⟨m, e2, w⟩
  · exact r
  · obtain ⟨o, _, b⟩ := w.ob
    cases b <;> cases n <;> cases e
end
def qEq : QF := fun vs => match vs with
  | [v, u] => if okV 40 v && okV 40 u then .ok (.bl (eqvV v u)) else .bad
  | _ => .bad
def qNe : QF := fun vs => match vs with
  | [v, u] => if okV 40 v && okV 40 u then .ok (.bl (!eqvV v u)) else .bad
  | _ => .bad
theorem op_eq : POp (two pEq) qEq := fun T h xs vs t r => by
  unfold qEq
  split
  · obtain ⟨x, y, rfl, r1, r2⟩ := rb2 r
    split
    · rename_i v u e
      rw [Bool.and_eq_true] at e
      have f1 := frz_of t r1 e.1
      have f2 := frz_of t r2 e.2
      refine ⟨_, ?_, .bl⟩
      show pEq x y h = _
      unfold pEq
      rw [okV_rel t 40 x v f1 e.1, okV_rel t 40 y u f2 e.2, eqv_rel t x y v u f1 f2 40 e.1 e.2]
      rfl
    · exact True.intro
  · exact True.intro
theorem op_ne : POp (two pNe) qNe := fun T h xs vs t r => by
  unfold qNe
  split
  · obtain ⟨x, y, rfl, r1, r2⟩ := rb2 r
    split
    · rename_i v u e
      rw [Bool.and_eq_true] at e
      have f1 := frz_of t r1 e.1
      have f2 := frz_of t r2 e.2
      refine ⟨_, ?_, .bl⟩
      show pNe x y h = _
      unfold pNe
      rw [okV_rel t 40 x v f1 e.1, okV_rel t 40 y u f2 e.2, eqv_rel t x y v u f1 f2 40 e.1 e.2]
      rfl
    · exact True.intro
  · exact True.intro
def qLt : QF := fun vs => match vs with
  | [.int i, .int j] => .ok (.bl (decide (i < j)))
  | _ => .bad
def qLe : QF := fun vs => match vs with
  | [.int i, .int j] => .ok (.bl (decide (i ≤ j)))
  | _ => .bad
def qGt : QF := fun vs => match vs with
  | [.int i, .int j] => .ok (.bl (decide (j < i)))
  | _ => .bad
def qGe : QF := fun vs => match vs with
  | [.int i, .int j] => .ok (.bl (decide (j ≤ i)))
  | _ => .bad
def qSub : QF := fun vs => match vs with
  | [.int i, .int j] => .ok (.int (i - j))
  | _ => .bad
def qMul : QF := fun vs => match vs with
  | [.int i, .int j] => if smallI i || smallI j then .ok (.int (i * j)) else .bad
  | _ => .bad
def qDiv : QF := fun vs => match vs with
  | [.int i, .int j] => if decide (0 < j ∧ j < 1073741824) then .ok (.int (i / j)) else .bad
  | _ => .bad
def qMod : QF := fun vs => match vs with
  | [.int i, .int j] => if decide (0 < j) then .ok (.int (i % j)) else .bad
  | _ => .bad
def qPow : QF := fun vs => match vs with
  | [.int i, .int j] => if decide (0 ≤ j ∧ (PySem.Builtin.Int.intBits i : Int) * j ≤ 2 ^ 27) then .ok (.int (i ^ j.toNat)) else .bad
  | _ => .bad
def qAbs : QF := fun vs => match vs with
  | [.int i] => .ok (.int (if i < 0 then -i else i))
  | _ => .bad
def qNeg : QF := fun vs => match vs with
  | [.int i] => .ok (.int (-i))
  | _ => .bad
def qMax2 : QF := fun vs => match vs with
  | [.int i, .int j] => .ok (.int (if j > i then j else i))
  | _ => .bad
def qMin2 : QF := fun vs => match vs with
  | [.int i, .int j] => .ok (.int (if j < i then j else i))
  | _ => .bad
def qInt : QF := fun vs => match vs with
  | [.int i] => .ok (.int i)
  | [.bl b] => .ok (.int (if b then 1 else 0))
  | _ => .bad
theorem op_lt : POp (two pLt) qLt := fun T h xs vs t r => by
  unfold qLt
  split
  · obtain ⟨x, y, rfl, r1, r2⟩ := rb2 r
    obtain rfl := rb_int t r1
    obtain rfl := rb_int t r2
    exact ⟨_, rfl, .bl⟩
  · exact True.intro
theorem op_le : POp (two pLe) qLe := fun T h xs vs t r => by
  unfold qLe
  split
  · obtain ⟨x, y, rfl, r1, r2⟩ := rb2 r
    obtain rfl := rb_int t r1
    obtain rfl := rb_int t r2
    exact ⟨_, rfl, .bl⟩
  · exact True.intro
theorem op_gt : POp (two pGt) qGt := fun T h xs vs t r => by
  unfold qGt
  split
  · obtain ⟨x, y, rfl, r1, r2⟩ := rb2 r
    obtain rfl := rb_int t r1
    obtain rfl := rb_int t r2
    exact ⟨_, rfl, .bl⟩
  · exact True.intro
theorem op_ge : POp (two pGe) qGe := fun T h xs vs t r => by
  unfold qGe
  split
  · obtain ⟨x, y, rfl, r1, r2⟩ := rb2 r
    obtain rfl := rb_int t r1
    obtain rfl := rb_int t r2
    exact ⟨_, rfl, .bl⟩
  · exact True.intro
theorem op_sub : POp (two pSub) qSub := fun T h xs vs t r => by
  unfold qSub
  split
  · obtain ⟨x, y, rfl, r1, r2⟩ := rb2 r
    obtain rfl := rb_int t r1
    obtain rfl := rb_int t r2
    exact ⟨_, rfl, .int⟩
  · exact True.intro
theorem op_mul : POp (two pMul) qMul := fun T h xs vs t r => by
  unfold qMul
  split
  · obtain ⟨x, y, rfl, r1, r2⟩ := rb2 r
    obtain rfl := rb_int t r1
    obtain rfl := rb_int t r2
    rename_i i j
    show PRes T h ((if smallI i || smallI j then M.ret (.int (i * j)) else M.bad : M PV) h) _
    split
    · exact ⟨_, rfl, .int⟩
    · exact True.intro
  · exact True.intro
theorem op_div : POp (two pDiv) qDiv := fun T h xs vs t r => by
  unfold qDiv
  split
  · obtain ⟨x, y, rfl, r1, r2⟩ := rb2 r
    obtain rfl := rb_int t r1
    obtain rfl := rb_int t r2
    rename_i i j
    show PRes T h ((if decide (0 < j ∧ j < 1073741824) then M.ret (.int (i / j)) else M.bad : M PV) h) _
    split
    · exact ⟨_, rfl, .int⟩
    · exact True.intro
  · exact True.intro
theorem op_mod : POp (two pMod) qMod := fun T h xs vs t r => by
  unfold qMod
  split
  · obtain ⟨x, y, rfl, r1, r2⟩ := rb2 r
    obtain rfl := rb_int t r1
    obtain rfl := rb_int t r2
    rename_i i j
    show PRes T h ((if decide (0 < j) then M.ret (.int (i % j)) else M.bad : M PV) h) _
    split
    · exact ⟨_, rfl, .int⟩
    · exact True.intro
  · exact True.intro
theorem op_pow : POp (two pPow) qPow := fun T h xs vs t r => by
  unfold qPow
  split
  · obtain ⟨x, y, rfl, r1, r2⟩ := rb2 r
    obtain rfl := rb_int t r1
    obtain rfl := rb_int t r2
    rename_i i j
    show PRes T h ((if decide (0 ≤ j ∧ (PySem.Builtin.Int.intBits i : Int) * j ≤ 2 ^ 27) then M.ret (.int (i ^ j.toNat)) else M.bad : M PV) h) _
    split
    · exact ⟨_, rfl, .int⟩
    · exact True.intro
  · exact True.intro
theorem op_abs : POp pAbs qAbs := fun T h xs vs t r => by
  unfold qAbs
  split
  · obtain ⟨x, rfl, r1⟩ := rb1 r
    obtain rfl := rb_int t r1
    exact ⟨_, rfl, .int⟩
  · exact True.intro
theorem op_neg : POp (one pNeg) qNeg := fun T h xs vs t r => by
  unfold qNeg
  split
  · obtain ⟨x, rfl, r1⟩ := rb1 r
    obtain rfl := rb_int t r1
    exact ⟨_, rfl, .int⟩
  · exact True.intro
theorem op_max2 : POp pMax2 qMax2 := fun T h xs vs t r => by
  unfold qMax2
  split
  · obtain ⟨x, y, rfl, r1, r2⟩ := rb2 r
    obtain rfl := rb_int t r1
    obtain rfl := rb_int t r2
    exact ⟨_, rfl, .int⟩
  · exact True.intro
theorem op_min2 : POp pMin2 qMin2 := fun T h xs vs t r => by
  unfold qMin2
  split
  · obtain ⟨x, y, rfl, r1, r2⟩ := rb2 r
    obtain rfl := rb_int t r1
    obtain rfl := rb_int t r2
    exact ⟨_, rfl, .int⟩
  · exact True.intro
theorem op_int : POp pInt qInt := fun T h xs vs t r => by
  unfold qInt
  split
  · obtain ⟨x, rfl, r1⟩ := rb1 r
    obtain rfl := rb_int t r1
    exact ⟨_, rfl, .int⟩
  · obtain ⟨x, rfl, r1⟩ := rb1 r
    obtain rfl := rb_bl t r1
    exact ⟨_, rfl, .int⟩
  · exact True.intro
def isNonV : VV → Bool
  | .non => true
  | _ => false
theorem isNon_rel {T : Ty} {h : MH} {x : PV} {v : VV} (t : HT T h) (r : RepB T h x v) : isNon x = isNonV v := by
  rcases r with r | ⟨m, e2, w⟩
  · cases r <;> first | rfl | skip
    rename_i n q
    obtain ⟨o, _, b⟩ := t _ _ q
    cases b <;> rfl
  · subst e2
    obtain ⟨o, _, b⟩ := w.ob
    cases b <;> rfl
def qIsN : QF := fun vs => match vs with
  | [v, .non] => .ok (.bl (isNonV v))
  | _ => .bad
def qNotN : QF := fun vs => match vs with
  | [v, .non] => .ok (.bl (!isNonV v))
  | _ => .bad
theorem op_isN : POp (two pIsN) qIsN := fun T h xs vs t r => by
  unfold qIsN
  split
  · obtain ⟨x, y, rfl, r1, r2⟩ := rb2 r
    obtain rfl := rb_non t r2
    exact ⟨.bl (isNon x), rfl, by rw [isNon_rel t r1]; exact .bl⟩
  · exact True.intro
theorem op_notN : POp (two pNotN) qNotN := fun T h xs vs t r => by
  unfold qNotN
  split
  · obtain ⟨x, y, rfl, r1, r2⟩ := rb2 r
    obtain rfl := rb_non t r2
    exact ⟨.bl (!isNon x), rfl, by rw [isNon_rel t r1]; exact .bl⟩
  · exact True.intro
def qAdd : QF := fun vs => match vs with
  | [.int i, .int j] => .ok (.int (i + j))
  | [.tup a, .tup b] => if a.length + b.length ≤ lim then .ok (.tup (a ++ b)) else .bad
  | [.str a, .str b] => if a.length + b.length ≤ lim then .ok (.str (a ++ b)) else .bad
  | _ => .bad
theorem op_add : POp (two pAdd) qAdd := fun T h xs vs t r => by
  unfold qAdd
  split
  · obtain ⟨x, y, rfl, r1, r2⟩ := rb2 r
    obtain rfl := rb_int t r1
    obtain rfl := rb_int t r2
    exact ⟨_, rfl, .int⟩
  · obtain ⟨x, y, rfl, r1, r2⟩ := rb2 r
    obtain ⟨a, rfl, q1⟩ := rb_tup t r1
    obtain ⟨b, rfl, q2⟩ := rb_tup t r2
    show PRes T h ((if a.length + b.length ≤ lim then M.ret (.tup (a ++ b)) else M.bad : M PV) h) _
    rw [q1.length, q2.length]
    split
    · exact ⟨_, rfl, .tup (q1.append q2)⟩
    · exact True.intro
  · obtain ⟨x, y, rfl, r1, r2⟩ := rb2 r
    obtain rfl := rb_str t r1
    obtain rfl := rb_str t r2
    rename_i a b
    show PRes T h ((if a.length + b.length ≤ lim then M.ret (.str (a ++ b)) else M.bad : M PV) h) _
    split
    · exact ⟨_, rfl, .str⟩
    · exact True.intro
  · exact True.intro
def qLen : QF := fun vs => match vs with
  | [.str y] => if y.length ≤ lim then .ok (.int y.length) else .bad
  | [v] => (match seqV v with
    | some us => .ok (.int us.length)
    | none => .bad)
  | _ => .bad
theorem op_len : POp pLen qLen := fun T h xs vs t r => by
  unfold qLen
  split
  · obtain ⟨x, rfl, r1⟩ := rb1 r
    obtain rfl := rb_str t r1
    rename_i y
    show PRes T h ((if y.length ≤ lim then M.ret (.int y.length) else M.bad : M PV) h) _
    split
    · exact ⟨_, rfl, .int⟩
    · exact True.intro
  · obtain ⟨x, rfl, r1⟩ := rb1 r
    rename_i v hv
    cases e : seqV v with
    | none => exact True.intro
    | some us =>
      obtain ⟨ys, rl, q⟩ := seq_rel (k := fun ys => M.ret (PV.int ys.length)) t r1 e
      have nx : ∀ s, x ≠ .str s := by
        rintro s rfl
        cases v <;> cases e
        · obtain ⟨_, e, _⟩ := rb_tup t r1; cases e
        · obtain ⟨_, _, _, e, _⟩ := rb_lst t r1; cases e
        · obtain ⟨_, _, e, _⟩ := rb_kl t r1; cases e
      refine ⟨.int ys.length, ?_, by rw [rl.length]; exact .int⟩
      unfold pLen
      cases x <;> first | exact q | exact absurd rfl (nx _)
  · exact True.intro
end VX

set_option Elab.async false
set_option linter.all false
set_option maxRecDepth 100000
set_option maxHeartbeats 1000000
namespace VX
open FX
open L2 (atI ixN)
def qIx : QF := fun vs => match vs with
  | [v, .int i] => (match seqV v with
    | some us => (match atI us i with
      | some u => .ok u
      | none => .bad)
    | none => .bad)
  | _ => .bad
theorem atI_rel {T : Ty} {xs : List PV} {vs : List VV} {i : Int} {v : VV} (r : RepL T xs vs) (e : atI vs i = some v) : ∃ x, atI xs i = some x ∧ RepT T x v := by
  unfold atI at e ⊢
  rw [r.length]
  cases q : ixN vs.length i with
  | none => rw [q] at e; cases e
  | some n =>
    rw [q] at e
    exact r.get e
theorem op_ix : POp (two pIx) qIx := fun T h xs vs t r => by
  unfold qIx
  split
  · obtain ⟨x, y, rfl, r1, r2⟩ := rb2 r
    obtain rfl := rb_int t r2
    rename_i v i
    cases e : seqV v with
    | none => exact True.intro
    | some us =>
      dsimp only
      cases e2 : atI us i with
      | none => exact True.intro
      | some u =>
        obtain ⟨ys, rl, q⟩ := seq_rel (k := fun xs => match atI xs i with
          | some z => M.ret z
          | none => M.bad) t r1 e
        obtain ⟨z, e3, rz⟩ := atI_rel rl e2
        refine ⟨z, ?_, rz⟩
        show mSeq x _ h = _
        refine Eq.trans q ?_
        rw [e3]; rfl
  · exact True.intro
def toBsV : List VV → Option (List Bool)
  | [] => some []
  | .bl b :: xs => (toBsV xs).map (b :: ·)
  | _ :: _ => none
theorem toBs_rel {T : Ty} {h : MH} (t : HT T h) : ∀ {xs : List PV} {vs : List VV} {bs : List Bool}, RepL T xs vs → toBsV vs = some bs → toBs xs = some bs
  | _, _, _, .nil, e => by cases e; rfl
  | _, _, bs, .cons (v := v) (vs := vs) r s, e => by
    unfold toBsV at e
    cases v with
    | bl b =>
      dsimp only at e
      cases q : toBsV vs with
      | none => rw [q] at e; cases e
      | some cs =>
        rw [q] at e
        cases e
        obtain rfl := rb_bl t (.inl r)
        show (toBs _).map _ = _
        rw [toBs_rel t s q]; rfl
    | _ => cases e
def qAll : QF := fun vs => match vs with
  | [v] => (match lstV v with
    | some us => (match toBsV us with
      | some bs => .ok (.bl (bs.all id))
      | none => .bad)
    | none => .bad)
  | _ => .bad
def qAny : QF := fun vs => match vs with
  | [v] => (match lstV v with
    | some us => (match toBsV us with
      | some bs => .ok (.bl (bs.any id))
      | none => .bad)
    | none => .bad)
  | _ => .bad
theorem op_all : POp pAll qAll := fun T h xs vs t r => by
  unfold qAll
  split
  · obtain ⟨x, rfl, r1⟩ := rb1 r
    rename_i v
    cases e : lstV v with
    | none => exact True.intro
    | some us =>
      dsimp only
      cases e2 : toBsV us with
      | none => exact True.intro
      | some bs =>
        refine ⟨.bl (bs.all id), ?_, .bl⟩
        show mLst x _ h = _
        obtain ⟨ys, rl, q⟩ := lst_rel (k := fun ys => match toBs ys with
          | some bs => M.ret (PV.bl (bs.all id))
          | none => M.bad) t r1 e
        refine Eq.trans q ?_
        rw [toBs_rel t rl e2]; rfl
  · exact True.intro
theorem op_any : POp pAny qAny := fun T h xs vs t r => by
  unfold qAny
  split
  · obtain ⟨x, rfl, r1⟩ := rb1 r
    rename_i v
    cases e : lstV v with
    | none => exact True.intro
    | some us =>
      dsimp only
      cases e2 : toBsV us with
      | none => exact True.intro
      | some bs =>
        refine ⟨.bl (bs.any id), ?_, .bl⟩
        show mLst x _ h = _
        obtain ⟨ys, rl, q⟩ := lst_rel (k := fun ys => match toBs ys with
          | some bs => M.ret (PV.bl (bs.any id))
          | none => M.bad) t r1 e
        refine Eq.trans q ?_
        rw [toBs_rel t rl e2]; rfl
  · exact True.intro
def qTuple : QF := fun vs => match vs with
  | [v] => (match seqV v with
    | some us => .ok (.tup us)
    | none => .bad)
  | _ => .bad
theorem op_tuple : POp pTuple qTuple := fun T h xs vs t r => by
  unfold qTuple
  split
  · obtain ⟨x, rfl, r1⟩ := rb1 r
    rename_i v
    cases v with
    | tup us =>
      obtain ⟨ys, rfl, rl⟩ := rb_tup t r1
      exact ⟨_, rfl, .tup rl⟩
    | lst us =>
      obtain ⟨ys, n, rl, rfl, g⟩ := rb_lst t r1
      refine ⟨.tup ys, ?_, .tup rl⟩
      show mAt n _ h = _
      rw [mAt_ok g]; rfl
    | kl us =>
      obtain ⟨a, ys, rfl, rl⟩ := rb_kl t r1
      exact ⟨_, rfl, .tup rl⟩
    | _ => exact True.intro
  · exact True.intro
def qList : QF := fun vs => match vs with
  | [v] => (match seqV v with
    | some us => .nw (.lst us)
    | none => .bad)
  | _ => .bad
theorem op_list : POp pList qList := fun T h xs vs t r => by
  unfold qList
  split
  · obtain ⟨x, rfl, r1⟩ := rb1 r
    rename_i v
    cases e : seqV v with
    | none => exact True.intro
    | some us =>
      obtain ⟨ys, rl, q⟩ := seq_rel (k := fun ys => mNew (.lst ys)) t r1 e
      exact ⟨.lst ys, q, .lst rl⟩
  · exact True.intro
def qLrg : QF := fun vs => match vs with
  | [.int n] => if decide (0 ≤ n ∧ n ≤ 10000000) then .nw (.lst ((List.range n.toNat).map fun i => VV.int (i : Nat))) else .bad
  | _ => .bad
theorem rep_ints {T : Ty} : ∀ (l : List Nat), RepL T (l.map fun i => PV.int (i : Nat)) (l.map fun i => VV.int (i : Nat))
  | [] => .nil
  | _ :: r => .cons .int (rep_ints r)
def pLrg : PV → M PV := fun x => match x with
  | .int n => if decide (0 ≤ n ∧ n ≤ 10000000) then mNew (.lst ((List.range n.toNat).map fun i => PV.int (i : Nat))) else M.bad
  | _ => M.bad
theorem eLrg_un {f : EF} : eLrg f = eUn pLrg f := rfl
theorem op_lrg : POp (one pLrg) qLrg := fun T h xs vs t r => by
  unfold qLrg
  split
  · obtain ⟨x, rfl, r1⟩ := rb1 r
    obtain rfl := rb_int t r1
    rename_i n
    show PRes T h ((if decide (0 ≤ n ∧ n ≤ 10000000) then mNew _ else M.bad : M PV) h) _
    split
    · exact ⟨_, rfl, .lst (rep_ints _)⟩
    · exact True.intro
  · exact True.intro
def toIsV : List VV → Option (List Int)
  | [] => some []
  | .int i :: xs => (toIsV xs).map (i :: ·)
  | _ :: _ => none
theorem toIs_rel {T : Ty} {h : MH} (t : HT T h) : ∀ {xs : List PV} {vs : List VV} {bs : List Int}, RepL T xs vs → toIsV vs = some bs → toIs xs = some bs
  | _, _, _, .nil, e => by cases e; rfl
  | _, _, bs, .cons (v := v) (vs := vs) r s, e => by
    unfold toIsV at e
    cases v with
    | int b =>
      dsimp only at e
      cases q : toIsV vs with
      | none => rw [q] at e; cases e
      | some cs =>
        rw [q] at e
        cases e
        obtain rfl := rb_int t (.inl r)
        show (toIs _).map _ = _
        rw [toIs_rel t s q]; rfl
    | _ => cases e
theorem rep_intI {T : Ty} : ∀ (l : List Int), RepL T (l.map PV.int) (l.map VV.int)
  | [] => .nil
  | _ :: r => .cons .int (rep_intI r)
def qSS : QF := fun vs => match vs with
  | [.tup us] => (match toIsV us with
    | some ns => if ns.length < 64 then .nw (.lst ((sDed ns).map VV.int)) else .bad
    | none => .bad)
  | _ => .bad
theorem op_ss : POp (one pSS) qSS := fun T h xs vs t r => by
  unfold qSS
  split
  · obtain ⟨x, rfl, r1⟩ := rb1 r
    obtain ⟨ys, rfl, rl⟩ := rb_tup t r1
    rename_i us
    cases e : toIsV us with
    | none => exact True.intro
    | some ns =>
      have e2 := toIs_rel t rl e
      have e3 : one pSS [.tup ys] h = (if ns.length < 64 then mNew (.lst ((sDed ns).map PV.int)) else M.bad : M PV) h := by
        show (match toIs ys with
          | some ns => if ns.length < 64 then mNew (.lst ((sDed ns).map PV.int)) else M.bad
          | none => M.bad : M PV) h = _
        rw [e2]
      rw [e3]
      dsimp only
      split
      · exact ⟨_, rfl, .lst (rep_intI _)⟩
      · exact True.intro
  · exact True.intro
def kdV : VV → Option Kd
  | .non => some (.b "NoneType")
  | .bl _ => some (.b "bool")
  | .int _ => some (.b "int")
  | .str _ => some (.b "str")
  | .tup _ => some (.b "tuple")
  | .lst _ => some (.b "list")
  | .kl _ => some (.b "list")
  | .dct _ => some (.b "dict")
  | .dtt _ => some (.b "dict")
  | .obj c _ => some (.o c)
  | .err c _ => some (.e c)
  | .bxe c => some (.x c)
  | _ => none
theorem kdOf_ref {n : Nat} {h : MH} : kdOf (.ref n) h = (match h.get n with
    | some (.lst _) => some (.b "list")
    | some (.dct _) => some (.b "dict")
    | some (.dtt _) => some (.b "dict")
    | some (.ins c _) => some (.o c)
    | some (.exo c _) => some (.e c)
    | some (.bxo T) => some (.x T)
    | _ => none) := rfl
theorem kd_rel {T : Ty} {h : MH} {x : PV} {v : VV} {k : Kd} (t : HT T h) (r : RepB T h x v) (e : kdV v = some k) : kdOf x h = some k := by
  cases v with
  | non => obtain rfl := rb_non t r; exact e
  | bl b => obtain rfl := rb_bl t r; exact e
  | int b => obtain rfl := rb_int t r; exact e
  | str b => obtain rfl := rb_str t r; exact e
  | tup b => obtain ⟨_, rfl, _⟩ := rb_tup t r; exact e
  | lst b =>
    obtain ⟨ys, n, rl, rfl, g⟩ := rb_lst t r
    rw [kdOf_ref, g]; exact e
  | kl b => obtain ⟨a, xs, rfl, _⟩ := rb_kl t r; exact e
  | dct b => obtain ⟨n, kvs, rfl, _, g⟩ := rb_dct t r; rw [kdOf_ref, g]; exact e
  | dtt b => obtain ⟨n, kvs, rfl, _, g⟩ := rb_dtt t r; rw [kdOf_ref, g]; exact e
  | obj c b => obtain ⟨n, os, rfl, g, _⟩ := rb_obj t r; rw [kdOf_ref, g]; exact e
  | err c b => obtain ⟨n, os, rfl, g, _⟩ := rb_err t r; rw [kdOf_ref, g]; exact e
  | bxe c => obtain ⟨n, rfl, g⟩ := rb_bxe t r; rw [kdOf_ref, g]; exact e
  | _ => cases e
def qIsi (tb : Kd → Option Bool) : QF := fun vs => match vs with
  | [v] => (match (kdV v).bind tb with
    | some b => .ok (.bl b)
    | none => .bad)
  | _ => .bad
theorem op_isi {tb : Kd → Option Bool} : POp (one (isiT tb)) (qIsi tb) := fun T h xs vs t r => by
  unfold qIsi
  split
  · obtain ⟨x, rfl, r1⟩ := rb1 r
    rename_i v
    cases e : kdV v with
    | none => exact True.intro
    | some k =>
      show PRes T h (isiT tb x h) (match (some k).bind tb with
        | some b => .ok (.bl b)
        | none => .bad)
      unfold isiT
      rw [kd_rel t r1 e]
      show PRes T h (match tb k with
        | some b => .ok (.bl b) h
        | none => .bad) (match tb k with
        | some b => .ok (.bl b)
        | none => .bad)
      cases tb k with
      | none => exact True.intro
      | some b => exact ⟨_, rfl, .bl⟩
  · exact True.intro
def qSl (c i : Nat) : QF := fun vs => match vs with
  | [.obj c' fs] => if c' = c then (match fs[i]? with
    | some .und => .bad
    | some v => .ok v
    | none => .bad) else .bad
  | _ => .bad
theorem sl_rel {T : Ty} : ∀ {os : List (Option PV)} {vs : List VV} {i : Nat} {v : VV}, RepS T os vs → vs[i]? = some v → v ≠ .und → ∃ x, os[i]? = some (some x) ∧ RepT T x v
  | _, _, _, _, .nil, e, _ => by simp at e
  | _, _, 0, _, .und _, e, n => by simp at e; exact absurd e.symm n
  | _, _, i + 1, v, .und t, e, n => by
    obtain ⟨x, h1, h2⟩ := sl_rel (i := i) t (by simpa using e) n
    exact ⟨x, by simpa using h1, h2⟩
  | _, _, 0, _, .cons r _, e, _ => by simp at e; subst e; exact ⟨_, rfl, r⟩
  | _, _, i + 1, v, .cons _ t, e, n => by
    obtain ⟨x, h1, h2⟩ := sl_rel (i := i) t (by simpa using e) n
    exact ⟨x, by simpa using h1, h2⟩
theorem op_sl {c i : Nat} : POp (one (atSl c i)) (qSl c i) := fun T h xs vs t r => by
  unfold qSl
  split
  · obtain ⟨x, rfl, r1⟩ := rb1 r
    rename_i c' fs
    obtain ⟨n, os, rfl, g, rs⟩ := rb_obj t r1
    by_cases hc : c' = c
    · rw [if_pos hc]
      have e0 : one (atSl c i) [.ref n] h = slGet i os h := by
        show mAt n _ h = _
        rw [mAt_ok g]
        show (if c' = c then slGet i os else M.bad) h = _
        rw [if_pos hc]
      rw [e0]
      split
      · exact True.intro
      · rename_i v hn e
        obtain ⟨y, e1, ry⟩ := sl_rel rs e hn
        refine ⟨y, ?_, ry⟩
        unfold slGet
        rw [e1]; rfl
      · exact True.intro
    · rw [if_neg hc]; exact True.intro
  · exact True.intro
end VX

set_option Elab.async false
set_option linter.all false
set_option maxRecDepth 100000
set_option maxHeartbeats 1000000
namespace VX
open FX
open L2 (atI ixN)
section
variable {O : Ow} {fr : Bool} {T T1 : Ty} {h h1 : MH} {ρ : Env} {π π1 : VEnv}
/-- an own object is written -/
theorem Ke.put (t : HT T h) (s : SimE O T h ρ π) {i n : Nat} {v u : VV} {o' : MO} (oi : O i ≠ .fz) (p : π[i]? = some (some v)) (q : ρ[i]? = some (some (.ref n))) (b : ObT T o' u) : Ke O T h ρ π T (h.put n o') ρ (π.set i (some u)) := by
  obtain ⟨m, q2, w⟩ := s.ow i v oi p
  rw [q] at q2
  cases q2
  obtain ⟨o, g, _⟩ := w.ob
  have lt := MH.get_lt g
  have hdn : Hd O ρ π n := ⟨i, v, oi, p, q⟩
  have lp := lt_of_get p
  have back : ∀ j x, (π.set i (some u))[j]? = some (some x) → ∃ y, π[j]? = some (some y) := fun j x e => by
    rcases getset e with ⟨rfl, _⟩ | ⟨_, e⟩
    · exact ⟨v, p⟩
    · exact ⟨x, e⟩
  refine ⟨TLe.refl T, fun m w e => ?_, Nat.le_refl _, fun m l um dm => ⟨um, MH.get_put_ne fun z => dm (by rw [z]; exact hdn)⟩, ⟨by rw [List.length_set]; exact s.ln, fun j x oj e => ?_, fun j x oj e => ?_, fun a b m x y oa ob pa pb qa qb => ?_⟩, fun m ⟨j, x, oj, e, r⟩ _ => ?_, fun _ _ => rfl⟩
  · obtain ⟨o2, g2, b2⟩ := t m w e
    have : m ≠ n := fun z => by rw [z, s.hun hdn] at e; cases e
    exact ⟨o2, by rw [MH.get_put_ne this]; exact g2, b2⟩
  · rcases getset e with ⟨rfl, _⟩ | ⟨_, e⟩
    · exact absurd oj oi
    · exact s.fz j x oj e
  · rcases getset e with ⟨rfl, e2⟩ | ⟨z, e2⟩
    · cases e2
      exact ⟨n, q, w.un, o', MH.get_put lt, b⟩
    · obtain ⟨m, r, w2⟩ := s.ow j x oj e2
      have : m ≠ n := fun z2 => z (s.ds j i n x v oj oi e2 p (by rw [← z2]; exact r) q)
      obtain ⟨o2, g2, b2⟩ := w2.ob
      exact ⟨m, r, w2.un, o2, by rw [MH.get_put_ne this]; exact g2, b2⟩
  · obtain ⟨x', pa'⟩ := back a x pa
    obtain ⟨y', pb'⟩ := back b y pb
    exact s.ds a b m x' y' oa ob pa' pb' qa qb
  · obtain ⟨y, e'⟩ := back j x e
    exact ⟨j, y, oj, e', r⟩
inductive PM where
  | ok (v c : VV)
  | sm (v : VV)
  | exc (c : Nat) (v : VV)
  | bad
def PMR (T : Ty) (h : MH) (n : Nat) (r : R PV) : PM → Prop
  | .ok v c' => ∃ x o', r = .ok x (h.put n o') ∧ RepT T x v ∧ ObT T o' c'
  | .sm v => ∃ x, r = .ok x h ∧ RepT T x v
  | .exc ci v => ∃ x, r = .exc ci x h ∧ RepT T x v
  | .bad => True
/-- g on what stands at n -/
def PMt (g : FF) (q : VV → List VV → PM) : Prop := ∀ T h n o c xs vs, HT T h → T n = none → h.get n = some o → ObT T o c → RepBL T h xs vs → PMR T h n (g (.ref n :: xs) h) (q c vs)
/-- .. that takes its arguments in -/
def PMk (g : FF) (q : VV → List VV → PM) : Prop := ∀ T h n o c xs vs, HT T h → T n = none → h.get n = some o → ObT T o c → RepL T xs vs → PMR T h n (g (.ref n :: xs) h) (q c vs)
/-- what the check of the receiver says -/
def CkV (ck : PV → M Unit) (cv : VV → Bool) : Prop := ∀ T h x v, HT T h → RepB T h x v → cv v = true → ck x h = .ok () h
def vMt (kp : Bool) (cv : VV → Bool) (q : VV → List VV → PM) (i : Nat) (ga : VA) : VE := fun π => match π[i]? with
  | some (some c0) => if cv c0 then ((ga π).bind fun as π1 => match π1[i]? with
    | some (some c) => if kp && !vFr as then .bad else (match derefA π1 as with
      | some vs => (match q c vs with
        | .ok v c' => .ok v (π1.set i (some c'))
        | .sm v => .ok v π1
        | .exc ci v => .exc ci v π1
        | .bad => .bad)
      | none => .bad)
    | _ => .bad) else .bad
  | _ => .bad
variable {ck : PV → M Unit} {cv : VV → Bool} {g : FF} {q : VV → List VV → PM} {ra : AF} {ga : VA}
theorem mt_sim {i : Nat} (oi : O i ≠ .fz) (hc : CkV ck cv) (a : RA O ra ga) (kp : Bool) (hq : (kp = true → PMk g q) ∧ (kp = false → PMt g q)) : RE O (eBm ck g (eVar i) ra) (vMt kp cv q i ga) := fun T h ρ π t s => by
  unfold vMt
  cases e : π[i]? with
  | none => exact True.intro
  | some w =>
    cases w with
    | none => exact True.intro
    | some c0 =>
      obtain ⟨n, q2, w⟩ := s.ow i c0 oi e
      dsimp only
      by_cases hcv : cv c0 = true
      · rw [if_pos hcv]
        have e1 : eVar i ρ h = .ok (.ref n) h := by unfold eVar; rw [q2]
        have e2 := hc T h (.ref n) c0 t (.inr ⟨n, rfl, w⟩) hcv
        have un : eBm ck g (eVar i) ra ρ h = ((ra ρ).bind fun xs => g (.ref n :: xs)) h := by
          show (((eVar i ρ).bind _) h) = _
          rw [M.bind_ok e1, M.bind_ok e2]
        rw [un]
        refine (a T h ρ π t s).bind fun xs h1 T1 as π1 k1 r1 => ?_
        cases e3 : π1[i]? with
        | none => exact True.intro
        | some w1 =>
          cases w1 with
          | none => exact True.intro
          | some c =>
            dsimp only
            obtain ⟨m, q4, w1⟩ := k1.se.ow i c oi e3
            rw [q2] at q4
            cases q4
            obtain ⟨o, g1, b1⟩ := w1.ob
            have fin : ∀ (r : R PV) (pm : PM), PMR T1 h1 n r pm → Sim O relV T1 h1 ρ π1 r (match pm with
                | .ok v c' => .ok v (π1.set i (some c'))
                | .sm v => .ok v π1
                | .exc ci v => .exc ci v π1
                | .bad => .bad) := fun r pm z => by
              cases pm with
              | ok v c' =>
                obtain ⟨x, o', e5, rx, ro⟩ := z
                exact ⟨x, _, T1, e5, Ke.put k1.ht k1.se oi e3 q2 ro, rx⟩
              | sm v => obtain ⟨x, e5, rx⟩ := z; exact ⟨x, h1, T1, e5, Ke.refl k1.ht k1.se, rx⟩
              | exc ci v => obtain ⟨x, e5, rx⟩ := z; exact ⟨x, h1, T1, e5, Ke.refl k1.ht k1.se, rx⟩
              | bad => exact True.intro
            cases kp with
            | true =>
              by_cases hf : vFr as = true
              · have : (true && !vFr as) = false := by rw [hf]; rfl
                rw [this]
                cases e4 : derefA π1 as with
                | none => exact True.intro
                | some vs => exact fin _ _ (hq.1 rfl T1 h1 n o c xs vs k1.ht w1.un g1 b1 (frz_rel r1 hf e4))
              · have : (true && !vFr as) = true := by rw [Bool.not_eq_true] at hf; rw [hf]; rfl
                rw [this]
                exact True.intro
            | false =>
              show Sim O relV T1 h1 ρ π1 _ (match derefA π1 as with
                | some vs => (match q c vs with
                  | .ok v c' => .ok v (π1.set i (some c'))
                  | .sm v => .ok v π1
                  | .exc ci v => .exc ci v π1
                  | .bad => .bad)
                | none => .bad)
              cases e4 : derefA π1 as with
              | none => exact True.intro
              | some vs => exact fin _ _ (hq.2 rfl T1 h1 n o c xs vs k1.ht w1.un g1 b1 (deref_rel k1.se r1 e4))
      · rw [if_neg hcv]; exact True.intro
theorem re_mk {i : Nat} (oi : O i ≠ .fz) (hc : CkV ck cv) (hq : PMk g q) (a : RA O ra ga) : RE O (eBm ck g (eVar i) ra) (vMt true cv q i ga) := mt_sim oi hc a true ⟨fun _ => hq, fun z => (nomatch z)⟩
theorem re_mt {i : Nat} (oi : O i ≠ .fz) (hc : CkV ck cv) (hq : PMt g q) (a : RA O ra ga) : RE O (eBm ck g (eVar i) ra) (vMt false cv q i ga) := mt_sim oi hc a false ⟨fun z => (nomatch z), fun _ => hq⟩
def isLstV : VV → Bool
  | .lst _ => true
  | _ => false
theorem ck_lst : CkV ckLst isLstV := fun T h x v t r e => by
  cases v with
  | lst us =>
    obtain ⟨ys, _, q⟩ := lst_rel (k := fun _ => M.ret ()) t r (show lstV (.lst us) = some us from rfl)
    exact q
  | _ => cases e
def qmApp : VV → List VV → PM := fun c vs => match c, vs with
  | .lst us, [v] => if us.length < lim then .ok .non (.lst (us ++ [v])) else .bad
  | _, _ => .bad
theorem mMut_at {α : Type} {n : Nat} {xs : List PV} {k : Nat → List PV → M α} (g : h.get n = some (.lst xs)) : mMut (.ref n) k h = k n xs h := by
  show mAt n _ h = _
  rw [mAt_ok g]
theorem mk_app : PMk mApp qmApp := fun T h n o c xs vs t u g b r => by
  unfold qmApp
  split
  · rename_i us v
    cases b with
    | @lst ys _ rl =>
      cases r with
      | @cons x _ _ _ r s =>
        cases s
        split
        · rename_i hl
          refine ⟨.non, .lst (ys ++ [x]), ?_, .non, .lst (rl.append (.cons r .nil))⟩
          have z2 : mApp [.ref n, x] h = (if ys.length < lim then (mPut n (.lst (ys ++ [x]))).bind fun _ => M.ret .non else M.bad : M PV) h := mMut_at (k := fun n ys => if ys.length < lim then (mPut n (.lst (ys ++ [x]))).bind fun _ => M.ret PV.non else M.bad) g
          rw [z2, if_pos (by rw [rl.length]; exact hl)]
          rfl
        · exact True.intro
  · exact True.intro
def qmExt : VV → List VV → PM := fun c vs => match c, vs with
  | .lst us, [.lst ws] => if us.length + ws.length ≤ lim then .ok .non (.lst (us ++ ws)) else .bad
  | _, _ => .bad
theorem mt_ext : PMt mExt qmExt := fun T h n o c xs vs t u g b r => by
  unfold qmExt
  split
  · rename_i us ws
    obtain ⟨x, rfl, r1⟩ := rb1 r
    cases b with
    | @lst ys _ rl =>
      obtain ⟨zs, m, rz, rfl, gm⟩ := rb_lst t r1
      split
      · rename_i hl
        refine ⟨.non, .lst (ys ++ zs), ?_, .non, .lst (rl.append rz)⟩
        have z2 : mExt [.ref n, .ref m] h = (mMut (.ref m) fun _ zs => if ys.length + zs.length ≤ lim then (mPut n (.lst (ys ++ zs))).bind fun _ => M.ret .non else M.bad : M PV) h := mMut_at (k := fun n ys => mMut (.ref m) fun _ zs => if ys.length + zs.length ≤ lim then (mPut n (.lst (ys ++ zs))).bind fun _ => M.ret PV.non else M.bad) g
        rw [z2, mMut_at gm, if_pos (by rw [rl.length, rz.length]; exact hl)]
        rfl
      · exact True.intro
  · exact True.intro
def StV (st : PV → PV → PV → M Unit) (q : VV → VV → VV → Option VV) : Prop := ∀ T h n o c y z u v c', HT T h → T n = none → h.get n = some o → ObT T o c → RepT T y u → RepT T z v → q c u v = some c' → ∃ o', st (.ref n) y z h = .ok () (h.put n o') ∧ ObT T o' c'
/-- the slot i's object, at a place -/
def vSub (q : VV → VV → VV → Option VV) (i : Nat) (gi gv : VE) : VS := fun π => vThen (gv π) fun v π1 => (match π1[i]? with
  | some (some _) => vThen (gi π1) fun u π2 => (match π2[i]? with
    | some (some c) => (match q c u v with
      | some c' => .ok .nx (π2.set i (some c'))
      | none => .bad)
    | _ => .bad)
  | _ => .bad)
theorem rs_sub {st : PV → PV → PV → M Unit} {q : VV → VV → VV → Option VV} {i : Nat} {fi fv : EF} {gi gv : VE} (oi : O i ≠ .fz) (hs : StV st q) (av : RE O fv gv) (ai : RE O fi gi) : RS O fr (sSub (eVar i) fi fv st) (vSub q i gi gv) := fun T h ρ π t s => (av T h ρ π t s).thenS fun z h1 T1 v π1 k1 q1 => by
  cases e : π1[i]? with
  | none => exact True.intro
  | some w =>
    cases w with
    | none => exact True.intro
    | some c0 =>
      obtain ⟨n, q2, w⟩ := k1.se.ow i c0 oi e
      have e1 : eVar i ρ h1 = .ok (.ref n) h1 := by unfold eVar; rw [q2]
      have un : ∀ (k : PV → M Out), sThen (eVar i ρ) ρ k h1 = k (.ref n) h1 := fun k => by
        unfold sThen
        rw [e1]
      rw [un]
      dsimp only
      refine (ai T1 h1 ρ π1 k1.ht k1.se).thenS fun y h2 T2 u π2 k2 q3 => ?_
      cases e2 : π2[i]? with
      | none => exact True.intro
      | some w2 =>
        cases w2 with
        | none => exact True.intro
        | some c =>
          dsimp only
          obtain ⟨m, q4, w3⟩ := k2.se.ow i c oi e2
          rw [q2] at q4
          cases q4
          obtain ⟨o, g1, b1⟩ := w3.ob
          cases e3 : q c u v with
          | none => exact True.intro
          | some c' =>
            obtain ⟨o', e4, b2⟩ := hs T2 h2 n o c y z u v c' k2.ht w3.un g1 b1 q3 (RepT.mono k2.ty q1) e3
            refine ⟨.nx ρ, h2.put n o', T2, ?_, Ke.put k2.ht k2.se oi e2 q2 b2⟩
            unfold sThen
            rw [e4]; rfl
def qsIx : VV → VV → VV → Option VV := fun c u v => match c, u with
  | .lst us, .int i => (ixN us.length i).map fun j => .lst (us.set j v)
  | _, _ => none
theorem st_ix : StV stIx qsIx := fun T h n o c y z u v c' t un g b ry rz e => by
  unfold qsIx at e
  split at e
  · rename_i us i
    obtain rfl := rb_int t (.inl ry)
    cases b with
    | @lst ys _ rl =>
      cases e2 : ixN us.length i with
      | none => rw [e2] at e; cases e
      | some j =>
        rw [e2] at e
        cases e
        refine ⟨.lst (ys.set j z), ?_, .lst (RepL.set rz j rl)⟩
        have z2 : stIx (.ref n) (.int i) z h = (match ixN ys.length i with
          | some j => mPut n (.lst (ys.set j z))
          | none => M.bad : M Unit) h := mMut_at (k := fun n xs => match ixN xs.length i with
          | some j => mPut n (.lst (xs.set j z))
          | none => M.bad) g
        rw [z2, rl.length, e2]; rfl
  · cases e
end
end VX

set_option Elab.async false
set_option linter.all false
set_option maxRecDepth 100000
set_option maxHeartbeats 1000000
namespace VX
open FX
open L2 (atI ixN)
section
variable {O : Ow} {fr : Bool} {T T1 : Ty} {h h1 : MH} {ρ : Env} {π π1 : VEnv} {c : Nat}
theorem mIns_at {α : Type} {n : Nat} {os : List (Option PV)} {k : Nat → List (Option PV) → M α} (g : h.get n = some (.ins c os)) : mIns c (.ref n) k h = k n os h := by
  show mAt n _ h = _
  rw [mAt_ok g]
  show (if c = c then k n os else M.bad) h = _
  rw [if_pos rfl]
def isO (c : Nat) : VV → Bool
  | .obj c' _ => Nat.beq c' c
  | _ => false
theorem isO_at {x : PV} {v : VV} (t : HT T h) (r : RepB T h x v) (e : isO c v = true) : ∃ n os fs, x = .ref n ∧ v = .obj c fs ∧ h.get n = some (.ins c os) ∧ RepS T os fs := by
  cases v with
  | obj c' fs =>
    obtain rfl : c' = c := Nat.eq_of_beq_eq_true e
    obtain ⟨n, os, rfl, g, rs⟩ := rb_obj t r
    exact ⟨n, os, fs, rfl, rfl, g, rs⟩
  | _ => cases e
def vMet (c : Nat) (ms : List Bool) (G : GV) (go : VE) (ga : VA) : VE := fun π => (go π).bind fun v π1 => if isO c v then (ga π1).bind fun as π2 => vFin G (.v v :: as) ms π2 else .bad
def vMetS (c : Nat) (ms : List Bool) (G : GV) (i : Nat) (ga : VA) : VE := fun π => match π[i]? with
  | some (some v) => if isO c v then (ga π).bind fun as π2 => vFin G (.s i :: as) ms π2 else .bad
  | _ => .bad
variable {F : FF} {G : GV} {ms : List Bool} {fo : EF} {go : VE} {ra : AF} {ga : VA}
theorem met_un {x : PV} {n : Nat} {os : List (Option PV)} (e : fo ρ h = .ok (.ref n) h1) (g : h1.get n = some (.ins c os)) : eMet c F fo ra ρ h = ((ra ρ).bind fun xs => F (.ref n :: xs)) h1 := by
  show ((fo ρ).bind _) h = _
  rw [M.bind_ok e]
  have : (mIns c (.ref n) fun _ _ => (M.ret () : M Unit)) h1 = .ok () h1 := mIns_at g
  rw [M.bind_ok this]
theorem met_bind {n : Nat} {os : List (Option PV)} (g : h.get n = some (.ins c os)) : (((mIns c (.ref n) fun _ _ => M.ret ()).bind fun _ => (ra ρ).bind fun xs => F (.ref n :: xs)) h) = ((ra ρ).bind fun xs => F (.ref n :: xs)) h := by
  have : (mIns c (.ref n) fun _ _ => (M.ret () : M Unit)) h = .ok () h := mIns_at g
  rw [M.bind_ok this]
theorem re_met (f : RF ms false F G) (ao : RE O fo go) (a : RA O ra ga) : RE O (eMet c F fo ra) (vMet c ms G go ga) := fun T h ρ π t s => (ao T h ρ π t s).bind fun x h1 T1 v π1 k1 q1 => by
  by_cases e : isO c v = true
  · obtain ⟨n, os, fs, rfl, rfl, g, rs⟩ := isO_at k1.ht (.inl q1) e
    rw [if_pos e, met_bind g]
    exact (a T1 h1 ρ π1 k1.ht k1.se).bind fun xs h2 T2 as π2 k2 q2 => fin_sim f k2.ht k2.se (.v (RepT.mono k2.ty q1) q2)
  · rw [if_neg e]; exact True.intro
theorem ro_met (f : RF ms true F G) (ao : RE O fo go) (a : RA O ra ga) : RO O (eMet c F fo ra) (vMet c ms G go ga) := fun T h ρ π t s => (ao T h ρ π t s).bind fun x h1 T1 v π1 k1 q1 => by
  by_cases e : isO c v = true
  · obtain ⟨n, os, fs, rfl, rfl, g, rs⟩ := isO_at k1.ht (.inl q1) e
    rw [if_pos e, met_bind g]
    exact (a T1 h1 ρ π1 k1.ht k1.se).bind fun xs h2 T2 as π2 k2 q2 => (fin_simO f k2.ht k2.se (.v (RepT.mono k2.ty q1) q2)).imp fun _ _ _ _ _ q => relF.at (k1.trans k2) q
  · rw [if_neg e]; exact True.intro
theorem re_metS {i : Nat} (oi : O i ≠ .fz) (f : RF ms false F G) (a : RA O ra ga) : RE O (eMet c F (eVar i) ra) (vMetS c ms G i ga) := fun T h ρ π t s => by
  unfold vMetS
  cases e : π[i]? with
  | none => exact True.intro
  | some w =>
    cases w with
    | none => exact True.intro
    | some v =>
      dsimp only
      by_cases ev : isO c v = true
      · rw [if_pos ev]
        obtain ⟨n, q, w⟩ := s.ow i v oi e
        obtain ⟨m, os, fs, e2, rfl, g, rs⟩ := isO_at t (.inr ⟨n, rfl, w⟩) ev
        cases e2
        have e1 : eVar i ρ h = .ok (.ref n) h := by unfold eVar; rw [q]
        rw [met_un (x := .ref n) e1 g]
        exact (a T h ρ π t s).bind fun xs h2 T2 as π2 k2 q2 => fin_sim f k2.ht k2.se (.s oi q q2)
      · rw [if_neg ev]; exact True.intro
def gPr (c : Nat) (G : GV) : GV := fun vs => match vs with
  | [v] => if isO c v then (match G [v] with
    | .ok u o => .ok u o
    | _ => .bad) else .bad
  | _ => .bad
theorem arg_b {m : Bool} {ms : List Bool} {x : PV} {xs : List PV} {v : VV} {vs : List VV} (r : ArgR T h (m :: ms) (x :: xs) (v :: vs)) : RepB T h x v ∧ ArgR T h ms xs vs := by
  cases r with
  | v r t => exact ⟨.inl r, t⟩
  | s r t => exact ⟨.inr ⟨_, rfl, r⟩, t⟩
theorem arg_len : ∀ {ms : List Bool} {xs : List PV} {vs : List VV}, ArgR T h ms xs vs → ms.length = vs.length ∧ xs.length = vs.length
  | _, _, _, .nil => ⟨rfl, rfl⟩
  | _, _, _, .v _ t => ⟨congrArg Nat.succ (arg_len t).1, congrArg Nat.succ (arg_len t).2⟩
  | _, _, _, .s _ t => ⟨congrArg Nat.succ (arg_len t).1, congrArg Nat.succ (arg_len t).2⟩
theorem arg1 {m : List Bool} {xs : List PV} {v : VV} (r : ArgR T h m xs [v]) : ∃ b x, m = [b] ∧ xs = [x] ∧ RepB T h x v := by
  cases r with
  | v r t => cases t; exact ⟨_, _, rfl, rfl, .inl r⟩
  | s r t => cases t; exact ⟨_, _, rfl, rfl, .inr ⟨_, rfl, r⟩⟩
theorem arg2 {m : List Bool} {xs : List PV} {v u : VV} (r : ArgR T h m xs [v, u]) : ∃ b d x y, m = [b, d] ∧ xs = [x, y] ∧ RepB T h x v ∧ RepB T h y u := by
  cases r with
  | v r t =>
    obtain ⟨d, y, rfl, rfl, q⟩ := arg1 t
    exact ⟨_, _, _, _, rfl, rfl, .inl r, q⟩
  | s r t =>
    obtain ⟨d, y, rfl, rfl, q⟩ := arg1 t
    exact ⟨_, _, _, _, rfl, rfl, .inr ⟨_, rfl, r⟩, q⟩
theorem rf_pr {m : List Bool} {fr : Bool} (f : RF m fr F G) : RF m fr (one (atPr c F)) (gPr c G) := fun T h xs vs t r nd => by
  unfold gPr
  split
  · rename_i v
    by_cases e : isO c v = true
    · rw [if_pos e]
      obtain ⟨b, x, rfl, rfl, rb⟩ := arg1 r
      obtain ⟨n, os, fs, rfl, rfl, g, rs⟩ := isO_at t rb e
      have z := f T h _ _ t r nd
      revert z
      cases G [.obj c fs] with
      | ok u o =>
        rintro ⟨x, h', T', e2, k, rr⟩
        refine ⟨x, h', T', ?_, k, rr⟩
        show mIns c (.ref n) (fun _ _ => noX (F [.ref n])) h = _
        rw [mIns_at g]
        unfold noX
        rw [e2]
      | exc _ _ _ => exact fun _ => True.intro
      | bad => exact fun _ => True.intro
    · rw [if_neg e]; exact True.intro
  · exact True.intro
def gTwo (c : Nat) (G : GV) : GV := fun vs => match vs with
  | [v, u] => if isO c v && isO c u then G [v, u] else .bad
  | _ => .bad
theorem rf_two {m : List Bool} {fr : Bool} (f : RF m fr F G) : RF m fr (two (mTwo c F)) (gTwo c G) := fun T h xs vs t r nd => by
  unfold gTwo
  split
  · rename_i v u
    by_cases e : (isO c v && isO c u) = true
    · rw [if_pos e]
      rw [Bool.and_eq_true] at e
      obtain ⟨b, d, x, y, rfl, rfl, rx, ry⟩ := arg2 r
      obtain ⟨n, os, fs, rfl, rfl, g, rs⟩ := isO_at t rx e.1
      obtain ⟨n2, os2, fs2, rfl, rfl, g2, rs2⟩ := isO_at t ry e.2
      have un : two (mTwo c F) [.ref n, .ref n2] h = F [.ref n, .ref n2] h := by
        show mIns c (.ref n) (fun _ _ => mIns c (.ref n2) fun _ _ => F [.ref n, .ref n2]) h = _
        rw [mIns_at g, mIns_at g2]
      rw [un]
      exact f T h _ _ t r nd
    · rw [if_neg e]; exact True.intro
  · exact True.intro
def gNeO (c : Nat) (G : GV) : GV := fun vs => match vs with
  | [v, u] => if isO c v && isO c u then (match G [v, u] with
    | .ok (.bl b) o => .ok (.bl (!b)) o
    | _ => .bad) else .bad
  | _ => .bad
theorem rf_neO {m : List Bool} (f : RF m false F G) : RF m false (two (mNeO c F)) (gNeO c G) := fun T h xs vs t r nd => by
  unfold gNeO
  split
  · rename_i v u
    by_cases e : (isO c v && isO c u) = true
    · rw [if_pos e]
      rw [Bool.and_eq_true] at e
      obtain ⟨b, d, x, y, rfl, rfl, rx, ry⟩ := arg2 r
      obtain ⟨n, os, fs, rfl, rfl, g, rs⟩ := isO_at t rx e.1
      obtain ⟨n2, os2, fs2, rfl, rfl, g2, rs2⟩ := isO_at t ry e.2
      have z := f T h _ _ t r nd
      have un : two (mNeO c F) [.ref n, .ref n2] h = ((F [.ref n, .ref n2]).bind fun r => match r with
          | .bl b => M.ret (.bl (!b))
          | _ => M.bad) h := by
        show mIns c (.ref n) (fun _ _ => mIns c (.ref n2) fun _ _ => (F [.ref n, .ref n2]).bind _) h = _
        (rw [mIns_at g, mIns_at g2]) <;> rfl
      rw [un]
      revert z
      cases G [.obj c fs, .obj c fs2] with
      | ok w o =>
        cases w with
        | bl bb =>
          rintro ⟨x, h', T', e2, k, rr⟩
          obtain rfl := rb_bl k.ht (.inl rr)
          exact ⟨.bl (!bb), h', T', by rw [M.bind_ok e2]; rfl, k, .bl⟩
        | _ => exact fun _ => True.intro
      | exc _ _ _ => exact fun _ => True.intro
      | bad => exact fun _ => True.intro
    · rw [if_neg e]; exact True.intro
  · exact True.intro
/-- v in u -/
def gIn (c : Nat) (G : GV) : GV := fun vs => match vs with
  | [v, u] => if isO c u then (match G [u, v] with
    | .ok (.bl b) o => .ok (.bl b) o
    | _ => .bad) else .bad
  | _ => .bad
theorem rf_in (f : RF [false, false] false F G) : RF [false, false] false (two (mIn c F)) (gIn c G) := fun T h xs vs t r nd => by
  unfold gIn
  split
  · rename_i v u
    by_cases e : isO c u = true
    · rw [if_pos e]
      cases r with
      | v rx r =>
      cases r with
      | v ry r =>
      cases r
      obtain ⟨n2, os2, fs2, rfl, rfl, g2, rs2⟩ := isO_at t (.inl ry) e
      rename_i x
      have z := f T h [.ref n2, x] _ t (.v ry (.v rx .nil)) (by cases x <;> exact .nil)
      have un : two (mIn c F) [x, .ref n2] h = ((F [.ref n2, x]).bind fun r => match r with
          | .bl b => M.ret (.bl b)
          | _ => M.bad) h := by
        show mIns c (.ref n2) (fun _ _ => (F [.ref n2, x]).bind _) h = _
        (rw [mIns_at g2]) <;> rfl
      rw [un]
      revert z
      cases G [.obj c fs2, v] with
      | ok w o =>
        cases w with
        | bl bb =>
          rintro ⟨x2, h', T', e2, k, rr⟩
          obtain rfl := rb_bl k.ht (.inl rr)
          have e5 : hdl [false, false] [.ref n2, x] = [] := by cases x <;> rfl
          have e6 : hdl [false, false] [x, .ref n2] = [] := by cases x <;> rfl
          have ou := k.ou
          rw [e5] at ou
          cases ou
          exact ⟨.bl bb, h', T', by rw [M.bind_ok e2]; rfl, ⟨k.ty, k.ht, k.nx, fun n l u m => k.fr n l u (by rw [e5]; exact fun z => nomatch z), by rw [e6]; exact .nil⟩, .bl⟩
        | _ => exact fun _ => True.intro
      | exc _ _ _ => exact fun _ => True.intro
      | bad => exact fun _ => True.intro
    · rw [if_neg e]; exact True.intro
  · exact True.intro
def gMk (c : Nat) (G : GV) : GV := fun vs => match G (.obj c [] :: vs) with
  | .ok .non (o :: outs) => .ok o outs
  | .exc ci v (_ :: outs) => .exc ci v outs
  | _ => .bad
theorem OwnAt.new {n : Nat} {v : VV} {o : MO} (w : OwnAt T h n v) : OwnAt T (h.new o) n v := ⟨w.un, let ⟨o', g, b⟩ := w.ob; ⟨o', MH.get_new_old g, b⟩⟩
theorem ArgR.new {o : MO} {ms : List Bool} {xs : List PV} {vs : List VV} (r : ArgR T h ms xs vs) : ArgR T (h.new o) ms xs vs := by
  induction r with
  | nil => exact .nil
  | v r t ih => exact .v r ih
  | s r t ih => exact .s r.new ih
theorem hdl_lt {ms : List Bool} {xs : List PV} {vs : List VV} (r : ArgR T h ms xs vs) : ∀ n ∈ hdl ms xs, n < h.nx := by
  induction r with
  | nil => intro n hn; cases hn
  | @v m x v xs vs r t ih =>
    have eh : hdl (false :: m) (x :: xs) = hdl m xs := by cases x <;> rfl
    rw [eh]; exact ih
  | s r t ih =>
    intro n hn
    rcases List.mem_cons.mp hn with rfl | hn
    · obtain ⟨o, g, _⟩ := r.ob
      exact MH.get_lt g
    · exact ih n hn
theorem rf_mk (f : RF (true :: ms) false F G) : RF ms true (mMake c F) (gMk c G) := fun T h xs vs t r nd => by
  unfold gMk
  have lt := hdl_lt r
  have n0 : h.nx ∉ hdl ms xs := fun z => Nat.lt_irrefl _ (lt _ z)
  have z := f T (h.new (.ins c [])) (.ref h.nx :: xs) (.obj c [] :: vs) t.new (.s ⟨t.nx, _, MH.get_new, .ins .nil⟩ r.new) (List.nodup_cons.mpr ⟨n0, nd⟩)
  have un : mMake c F xs h = ((F (.ref h.nx :: xs)).bind fun r => match r with
      | .non => M.ret (.ref h.nx)
      | _ => M.bad) (h.new (.ins c [])) := rfl
  rw [un]
  have kf : ∀ {T' : Ty} {h' : MH} {o : VV} {outs : List VV}, Kf (true :: ms) T (h.new (.ins c [])) (.ref h.nx :: xs) T' h' (o :: outs) → Kf ms T h xs T' h' outs ∧ OwnAt T' h' h.nx o := fun {T' h' o outs} k => by
    have ou := k.ou
    cases ou with
    | cons r1 r2 =>
      refine ⟨⟨k.ty, k.ht, Nat.le_trans (Nat.le_succ _) k.nx, fun n l u m => ?_, r2⟩, r1⟩
      have hn : n ∉ hdl (true :: ms) (.ref h.nx :: xs) := fun z => by
        rcases List.mem_cons.mp z with rfl | z
        · exact Nat.lt_irrefl _ l
        · exact m z
      obtain ⟨u2, g2⟩ := k.fr n (Nat.lt_succ_of_lt l) u hn
      exact ⟨u2, g2.trans (MH.get_new_ne (Nat.ne_of_lt l))⟩
  revert z
  cases G (.obj c [] :: vs) with
  | ok v outs =>
    cases v with
    | non =>
      cases outs with
      | nil => exact fun _ => True.intro
      | cons o outs =>
        rintro ⟨x, h', T', e2, k, rr⟩
        obtain rfl := rb_non k.ht (.inl rr)
        obtain ⟨k2, w⟩ := kf k
        exact ⟨.ref h.nx, h', T', by rw [M.bind_ok e2]; rfl, k2, h.nx, rfl, Nat.le_refl _, n0, w⟩
    | _ => exact fun _ => True.intro
  | exc ci v outs =>
    cases outs with
    | nil => exact fun _ => True.intro
    | cons o outs =>
      rintro ⟨x, h', T', e2, k, rr⟩
      exact ⟨x, h', T', by unfold M.bind; rw [e2], (kf k).1, rr⟩
  | bad => exact fun _ => True.intro
def putV (i : Nat) (y : VV) (fs : List VV) : List VV := (fs ++ List.replicate (i + 1 - fs.length) VV.und).set i y
theorem RepS.length {os : List (Option PV)} {fs : List VV} (r : RepS T os fs) : os.length = fs.length := by
  induction r with
  | nil => rfl
  | und t ih => exact congrArg Nat.succ ih
  | cons r t ih => exact congrArg Nat.succ ih
theorem RepS.pad {os : List (Option PV)} {fs : List VV} (r : RepS T os fs) (n : Nat) : RepS T (os ++ List.replicate n none) (fs ++ List.replicate n VV.und) := by
  induction r with
  | nil =>
    induction n with
    | zero => exact .nil
    | succ n ih => exact .und ih
  | und t ih => exact .und ih
  | cons r t ih => exact .cons r ih
theorem RepS.set {x : PV} {v : VV} (rx : RepT T x v) {os : List (Option PV)} {fs : List VV} (r : RepS T os fs) : ∀ i : Nat, RepS T (os.set i (some x)) (fs.set i v) := by
  induction r with
  | nil => intro i; exact .nil
  | und t ih =>
    intro i
    cases i with
    | zero => exact .cons rx t
    | succ i => exact .und (ih i)
  | cons r t ih =>
    intro i
    cases i with
    | zero => exact .cons rx t
    | succ i => exact .cons r (ih i)
def vFld (c k i : Nat) (gv : VE) : VS := fun π => vThen (gv π) fun v π1 => (match π1[i]? with
  | some (some (.obj c' fs)) => if Nat.beq c' c then .ok .nx (π1.set i (some (.obj c (putV k v fs)))) else .bad
  | _ => .bad)
theorem rs_fld {k i : Nat} {fv : EF} {gv : VE} (oi : O i ≠ .fz) (av : RE O fv gv) : RS O fr (sFld c k (eVar i) fv) (vFld c k i gv) := fun T h ρ π t s => (av T h ρ π t s).thenS fun y h1 T1 v π1 k1 q1 => by
  split
  · rename_i c' fs e
    by_cases ec : Nat.beq c' c = true
    · rw [if_pos ec]
      obtain rfl : c' = c := Nat.eq_of_beq_eq_true ec
      obtain ⟨n, q2, w⟩ := k1.se.ow i _ oi e
      obtain ⟨m, os, fs', e2, e3, g, rs⟩ := isO_at (c := c') k1.ht (.inr ⟨n, rfl, w⟩) ec
      cases e2
      cases e3
      have e1 : eVar i ρ h1 = .ok (.ref n) h1 := by unfold eVar; rw [q2]
      have e4 : slPut c' k (.ref n) y h1 = .ok () (h1.put n (.ins c' (putE k y os))) := mIns_at g
      refine ⟨.nx ρ, h1.put n (.ins c' (putE k y os)), T1, ?_, Ke.put k1.ht k1.se oi e q2 (.ins ?_)⟩
      · unfold sThen
        rw [e1]
        dsimp only
        rw [e4]; rfl
      · unfold putE putV
        rw [rs.length]
        exact (rs.pad _).set q1 k
    · rw [if_neg ec]; exact True.intro
  · exact True.intro
end
end VX

set_option Elab.async false
set_option linter.all false
set_option maxRecDepth 100000
set_option maxHeartbeats 1000000
namespace VX
open FX
open L2 (atI ixN)
def enumV : Nat → List VV → List VV
  | _, [] => []
  | i, v :: vs => .tup [.int i, v] :: enumV (i + 1) vs
def zipV : List VV → List VV → List VV
  | v :: vs, u :: us => .tup [v, u] :: zipV vs us
  | _, _ => []
theorem enumV_get : ∀ (vs : List VV) (k i : Nat), (enumV k vs)[i]? = vs[i]?.map fun v => VV.tup [.int ((k + i : Nat) : Int), v]
  | [], _, _ => rfl
  | v :: vs, k, 0 => rfl
  | v :: vs, k, i + 1 => by
    show (enumV (k + 1) vs)[i]? = vs[i]?.map _
    rw [enumV_get vs (k + 1) i, show k + 1 + i = k + (i + 1) by omega]
theorem enumV_len : ∀ (vs : List VV) (k : Nat), (enumV k vs).length = vs.length
  | [], _ => rfl
  | v :: vs, k => congrArg Nat.succ (enumV_len vs (k + 1))
theorem zipV_get : ∀ (vs us : List VV) (i : Nat), (zipV vs us)[i]? = match vs[i]?, us[i]? with
    | some v, some u => some (.tup [v, u])
    | _, _ => none
  | [], us, i => by simp [zipV]
  | v :: vs, [], i => by
    simp [zipV]
  | v :: vs, u :: us, 0 => rfl
  | v :: vs, u :: us, i + 1 => by
    show (zipV vs us)[i]? = _
    rw [zipV_get vs us i]
    rfl
theorem zipV_len : ∀ (vs us : List VV), (zipV vs us).length ≤ vs.length
  | [], us => Nat.le_refl _
  | v :: vs, [] => Nat.zero_le _
  | v :: vs, u :: us => Nat.succ_le_succ (zipV_len vs us)
def ckFu (vs : List VV) (π : VEnv) : VR (List VV) := if vs.length < fuel then .ok vs π else .bad
def vSeqI (a : VE) : VI := fun π => (a π).bind fun v π1 => match seqV v with
  | some us => ckFu us π1
  | none => .bad
def vEnu (a : VE) : VI := fun π => (a π).bind fun v π1 => match seqV v with
  | some us => ckFu (enumV 0 us) π1
  | none => .bad
def vRg1 (a : VE) : VI := fun π => (a π).bind fun v π1 => match v with
  | .int j => if rngOk j then ckFu ((List.range j.toNat).map fun i => VV.int (i : Nat)) π1 else .bad
  | _ => .bad
def vRg2 (a b : VE) : VI := fun π => (a π).bind fun v π1 => (b π1).bind fun u π2 => match v, u with
  | .int i, .int j => if rngOk i && rngOk j then ckFu ((List.range (j - i).toNat).map fun k => VV.int (i + (k : Nat))) π2 else .bad
  | _, _ => .bad
def vZip (a b : VE) : VI := fun π => (a π).bind fun v π1 => (b π1).bind fun u π2 => match v, u with
  | .tup vs, .tup us => ckFu (zipV vs us) π2
  | .lst vs, .lst us => ckFu (zipV vs us) π2
  | _, _ => .bad
section
variable {O : Ow} {T : Ty} {h : MH} {ρ : Env} {π : VEnv} {f f2 : EF} {g g2 : VE}
/-- these items, at any later time -/
def Its (T : Ty) (s : Src) (vs : List VV) : Prop := ∀ T' h', TLe T T' → HT T' h' → ∀ i, match vs[i]? with
  | none => s i h' = some none
  | some v => ∃ x, s i h' = some (some x) ∧ RepT T' x v
theorem its_L {xs : List PV} {vs : List VV} (r : RepL T xs vs) : Its T (srcL xs) vs := fun T' h' l t i => by
  cases e : vs[i]? with
  | none =>
    show some xs[i]? = some none
    rw [List.getElem?_eq_none_iff.mpr (by rw [r.length]; exact List.getElem?_eq_none_iff.mp e)]
  | some v =>
    obtain ⟨x, h1, h2⟩ := r.get e
    exact ⟨x, congrArg some h1, h2.mono l⟩
theorem its_H {n : Nat} {vs : List VV} (e : T n = some (.lst vs)) : Its T (srcH n) vs := fun T' h' l t i => by
  obtain ⟨o, g, b⟩ := t n _ (l n _ e)
  cases b with
  | @lst xs _ r =>
    have e2 : srcH n i h' = some xs[i]? := by unfold srcH; rw [g]
    cases e : vs[i]? with
    | none =>
      show srcH n i h' = some none
      rw [e2, List.getElem?_eq_none_iff.mpr (by rw [r.length]; exact List.getElem?_eq_none_iff.mp e)]
    | some v =>
      obtain ⟨x, h1, h2⟩ := r.get e
      exact ⟨x, e2.trans (congrArg some h1), h2⟩
theorem Its.en {s : Src} {vs : List VV} (q : Its T s vs) : Its T (enumS s) (enumV 0 vs) := fun T' h' l t i => by
  have z := q T' h' l t i
  rw [enumV_get]
  revert z
  cases e : vs[i]? with
  | none => intro z; show enumS s i h' = _; unfold enumS; rw [z]
  | some v =>
    rintro ⟨x, h1, h2⟩
    refine ⟨.tup [.int i, x], ?_, ?_⟩
    · unfold enumS; rw [h1]
    · rw [Nat.zero_add]; exact .tup (.cons .int (.cons h2 .nil))
theorem Its.zp {s s2 : Src} {vs us : List VV} (q : Its T s vs) (q2 : Its T s2 us) : Its T (zipS s s2) (zipV vs us) := fun T' h' l t i => by
  have z := q T' h' l t i
  have z2 := q2 T' h' l t i
  rw [zipV_get]
  revert z z2
  cases e : vs[i]? with
  | none => intro z _; show zipS s s2 i h' = _; unfold zipS; rw [z]
  | some v =>
    cases e2 : us[i]? with
    | none => rintro ⟨x, h1, h2⟩ z2; show zipS s s2 i h' = _; unfold zipS; rw [h1]; dsimp only; rw [show s2 i h' = some none from z2]
    | some u =>
      rintro ⟨x, h1, h2⟩ ⟨y, h3, h4⟩
      exact ⟨.tup [x, y], by unfold zipS; rw [h1, h3], .tup (.cons h2 (.cons h4 .nil))⟩
theorem its_R {i : Int} {n : Nat} : Its T (srcR i n) ((List.range n).map fun k => VV.int (i + (k : Nat))) := fun T' h' l t j => by
  by_cases hj : j < n
  · have : ((List.range n).map fun k => VV.int (i + (k : Nat)))[j]? = some (.int (i + (j : Nat))) := by
      rw [List.getElem?_map, List.getElem?_range hj]; rfl
    rw [this]
    exact ⟨.int (i + j), by unfold srcR; rw [if_pos hj], .int⟩
  · have : ((List.range n).map fun k => VV.int (i + (k : Nat)))[j]? = none := by
      rw [List.getElem?_eq_none_iff, List.length_map, List.length_range]; omega
    rw [this]
    show srcR i n j h' = _
    unfold srcR
    rw [if_neg hj]
theorem srcOf_rel {x : PV} {v : VV} {us : List VV} (t : HT T h) (r : RepT T x v) (e : seqV v = some us) : ∃ s, srcOf x h = .ok s h ∧ Its T s us := by
  cases v with
  | tup vs =>
    cases e
    obtain ⟨xs, rfl, rl⟩ := rb_tup t (.inl r)
    exact ⟨_, rfl, its_L rl⟩
  | kl vs =>
    cases e
    obtain ⟨a, xs, rfl, rl⟩ := rb_kl t (.inl r)
    exact ⟨_, rfl, its_L rl⟩
  | lst vs =>
    cases e
    cases r with
    | ref q =>
      obtain ⟨o, g, b⟩ := t _ _ q
      cases b with
      | lst r =>
        refine ⟨srcH _, ?_, its_H q⟩
        show mAt _ _ h = _
        rw [mAt_ok g]; rfl
  | _ => cases e
theorem ck_sim {s : Src} {vs : List VV} (t : HT T h) (se : SimE O T h ρ π) (q : Its T s vs) : Sim O relI T h ρ π (.ok s h) (ckFu vs π) := by
  unfold ckFu
  split
  · rename_i l
    exact Sim.ret t se ⟨l, q⟩
  · exact True.intro
theorem ri_seq (a : RE O f g) : RI O (iSeq f) (vSeqI g) := fun T h ρ π t s => (a T h ρ π t s).bind fun x h1 T1 v π1 k q => by
  cases e : seqV v with
  | none => exact True.intro
  | some us =>
    obtain ⟨s, e2, i⟩ := srcOf_rel k.ht q e
    rw [e2]
    exact ck_sim k.ht k.se i
theorem ri_enu (a : RE O f g) : RI O (iEnu f) (vEnu g) := fun T h ρ π t s => (a T h ρ π t s).bind fun x h1 T1 v π1 k q => by
  cases e : seqV v with
  | none => exact True.intro
  | some us =>
    obtain ⟨s, e2, i⟩ := srcOf_rel k.ht q e
    rw [M.bind_ok e2]
    exact ck_sim k.ht k.se i.en
theorem ri_rg1 (a : RE O f g) : RI O (iRg1 f) (vRg1 g) := fun T h ρ π t s => (a T h ρ π t s).bind fun x h1 T1 v π1 k q => by
  cases v with
  | int j =>
    obtain rfl := rb_int k.ht (.inl q)
    dsimp only
    by_cases e : rngOk j = true
    · rw [if_pos e, if_pos e]
      have i := its_R (T := T1) (i := 0) (n := j.toNat)
      have : ((List.range j.toNat).map fun k => VV.int (0 + (k : Nat))) = (List.range j.toNat).map fun i => VV.int (i : Nat) := by
        congr 1
        funext k
        rw [Int.zero_add]
      rw [this] at i
      exact ck_sim k.ht k.se i
    · rw [if_neg e, if_neg e]; exact True.intro
  | _ => exact True.intro
theorem ri_rg2 (a : RE O f g) (b : RE O f2 g2) : RI O (iRg2 f f2) (vRg2 g g2) := fun T h ρ π t s => (a T h ρ π t s).bind fun x h1 T1 v π1 k q => (b T1 h1 ρ π1 k.ht k.se).bind fun y h2 T2 u π2 k2 q2 => by
  cases v with
  | int i =>
    cases u with
    | int j =>
      obtain rfl := rb_int k.ht (.inl q)
      obtain rfl := rb_int k2.ht (.inl q2)
      dsimp only
      by_cases e : (rngOk i && rngOk j) = true
      · rw [if_pos e, if_pos e]
        exact ck_sim k2.ht k2.se its_R
      · rw [if_neg e, if_neg e]; exact True.intro
    | _ => exact True.intro
  | _ => exact True.intro
theorem ri_zip (a : RE O f g) (b : RE O f2 g2) : RI O (iZip f f2) (vZip g g2) := fun T h ρ π t s => (a T h ρ π t s).bind fun x h1 T1 v π1 k q => (b T1 h1 ρ π1 k.ht k.se).bind fun y h2 T2 u π2 k2 q2 => by
  have q1 : RepT T2 x v := RepT.mono k2.ty q
  have q2' : RepT T2 y u := q2
  cases v with
  | tup vs =>
    cases u with
    | tup us =>
      obtain ⟨xs, rfl, r1⟩ := rb_tup k2.ht (.inl q1)
      obtain ⟨ys, rfl, r2⟩ := rb_tup k2.ht (.inl q2')
      exact ck_sim k2.ht k2.se ((its_L r1).zp (its_L r2))
    | _ => exact True.intro
  | lst vs =>
    cases u with
    | lst us =>
      cases q1 with
      | @ref n _ e1 =>
        cases q2' with
        | @ref m _ e2 =>
          obtain ⟨o, g1, b1⟩ := k2.ht _ _ e1
          obtain ⟨o2, g2, b2⟩ := k2.ht _ _ e2
          cases b1
          cases b2
          have : zipOf (.ref n) (.ref m) h2 = .ok (zipS (srcH n) (srcH m)) h2 := by
            show mAt n _ h2 = _
            rw [mAt_ok g1]
            show mAt m _ h2 = _
            rw [mAt_ok g2]; rfl
          rw [this]
          exact ck_sim k2.ht k2.se ((its_H e1).zp (its_H e2))
    | _ => exact True.intro
  | _ => exact True.intro
def vStar (a : VE) (r : VA) : VA := fun π => (a π).bind fun v π1 => match seqV v with
  | some us => (r π1).bind fun as π2 => .ok (us.map .v ++ as) π2
  | none => .bad
theorem mSeq_frz {α : Type} {x : PV} {v : VV} {us : List VV} {k : List PV → M α} (t : HT T h) (r : RepT T x v) (e : seqV v = some us) : ∃ xs, RepL T xs us ∧ mSeq x k h = k xs h := seq_rel t (.inl r) e
theorem ra_star {r : AF} {gr : VA} (a : RE O f g) (b : RA O r gr) : RA O (aStar f r) (vStar g gr) := fun T h ρ π t s => (a T h ρ π t s).bind fun x h1 T1 v π1 k q => by
  cases e : seqV v with
  | none => exact True.intro
  | some us =>
    obtain ⟨xs, rl, e2⟩ := seq_rel (k := fun xs => (r ρ).bind fun ys => M.ret (xs ++ ys)) k.ht (.inl q) e
    rw [e2]
    exact (b T1 h1 ρ π1 k.ht k.se).bind fun ys h2 T2 as π2 k2 q2 => Sim.ret k2.ht k2.se ((RelAs.vals (rl.mono k2.ty)).append q2)
def vStarS (i : Nat) (r : VA) : VA := fun π => match π[i]? with
  | some (some v) => (match seqV v with
    | some us => (r π).bind fun as π2 => .ok (us.map .v ++ as) π2
    | none => .bad)
  | _ => .bad
theorem ra_starS {r : AF} {gr : VA} {i : Nat} (oi : O i ≠ .fz) (b : RA O r gr) : RA O (aStar (eVar i) r) (vStarS i gr) := fun T h ρ π t s => by
  unfold vStarS
  cases e : π[i]? with
  | none => exact True.intro
  | some w =>
    cases w with
    | none => exact True.intro
    | some v =>
      dsimp only
      cases e2 : seqV v with
      | none => exact True.intro
      | some us =>
        obtain ⟨n, q, w⟩ := s.ow i v oi e
        have e1 : eVar i ρ h = .ok (.ref n) h := by unfold eVar; rw [q]
        obtain ⟨xs, rl, e3⟩ := seq_rel (k := fun xs => (r ρ).bind fun ys => M.ret (xs ++ ys)) t (.inr ⟨n, rfl, w⟩) e2
        show Sim O _ T h ρ π (((eVar i ρ).bind _) h) _
        rw [M.bind_ok e1, e3]
        exact (b T h ρ π t s).bind fun ys h2 T2 as π2 k2 q2 => Sim.ret k2.ht k2.se ((RelAs.vals (rl.mono k2.ty)).append q2)
def vChn (q q2 : QF) (a b d : VE) : VE := fun π => (a π).bind fun v π1 => (b π1).bind fun u π2 => (prE π2 (q [v, u])).bind fun z π3 => (vAsB z π3).bind fun k π4 => if k then (d π4).bind fun w π5 => prE π5 (q2 [u, w]) else .ok (.bl false) π4
theorem re_chn {p p2 : PV → PV → M PV} {q q2 : QF} {f3 : EF} {g3 : VE} (hp : POp (two p) q) (hp2 : POp (two p2) q2) (a : RE O f g) (b : RE O f2 g2) (d : RE O f3 g3) : RE O (eChn p p2 f f2 f3) (vChn q q2 g g2 g3) := fun T h ρ π t s =>
  (a T h ρ π t s).bind fun x h1 T1 v π1 k1 q1 => (b T1 h1 ρ π1 k1.ht k1.se).bind fun y h2 T2 u π2 k2 q2' => by
    have r1 : RepT T2 x v := RepT.mono k2.ty q1
    have r2 : RepT T2 y u := q2'
    refine (prE_sim k2.ht k2.se (hp T2 h2 [x, y] [v, u] k2.ht (.cons (.inl r1) (.cons (.inl r2) .nil)))).bind fun z h3 T3 zz π3 k3 q3 => ?_
    refine (vAsB_sim k3.ht k3.se q3).bind fun kb h4 T4 kk π4 k4 q4 => ?_
    rw [show kb = kk from q4]
    cases kk with
    | true => exact (d T4 h4 ρ π4 k4.ht k4.se).bind fun w h5 T5 ww π5 k5 q5 => prE_sim k5.ht k5.se (hp2 T5 h5 [y, w] [u, ww] k5.ht (.cons (.inl (RepT.mono ((k3.ty.trans k4.ty).trans k5.ty) r2)) (.cons (.inl q5) .nil)))
    | false => exact Sim.ret k4.ht k4.se .bl
theorem rt_chn {p p2 : PV → PV → M PV} {f3 : EF} {w : VE} (r : RE O (eChn p p2 f f2 f3) w) : RT O (tChn p p2 f f2 f3) (vCm w) := fun T h ρ π t s => (r T h ρ π t s).bind fun x h1 T1 v π1 k q => vAsB_sim k.ht k.se q
end
mutual
def keyEV : VV → VV → Bool
  | .int i, .int j => decide (i = j)
  | .str x, .str y => eqL x y
  | .tup xs, .tup ys => keyEVs xs ys
  | _, _ => false
def keyEVs : List VV → List VV → Bool
  | [], [] => true
  | x :: xs, y :: ys => keyEV x y && keyEVs xs ys
  | _, _ => false
end
def asKV : VV → Bool
  | .int _ => true
  | .str _ => true
  | _ => false
def asTV : VV → Bool
  | .tup xs => xs.all asKV
  | _ => false
def dGetV (kws : List (VV × VV)) (u : VV) : Option VV := (kws.find? fun q => keyEV q.1 u).map (·.2)
def dPutV (kws : List (VV × VV)) (u v : VV) : List (VV × VV) := if (kws.any fun q => keyEV q.1 u) = true then kws.map (fun q => if keyEV q.1 u = true then (q.1, v) else q) else kws ++ [(u, v)]
section
variable {T : Ty} {h : MH}
theorem asK_rel (t : HT T h) {x : PV} {v : VV} (r : RepB T h x v) (e : asKV v = true) : ∃ k, asK x = some k := by
  cases v with
  | int i => obtain rfl := rb_int t r; exact ⟨_, rfl⟩
  | str i => obtain rfl := rb_str t r; exact ⟨_, rfl⟩
  | _ => cases e
theorem asKs_rel (t : HT T h) : ∀ {xs : List PV} {vs : List VV}, RepL T xs vs → vs.all asKV = true → ∃ k, asKs xs = some k
  | _, _, .nil, _ => ⟨_, rfl⟩
  | _, _, .cons (x := x) (v := v) (vs := vs) r s, e => by
    have e' : (asKV v && vs.all asKV) = true := e
    rw [Bool.and_eq_true] at e'
    obtain ⟨k, h1⟩ := asK_rel t (.inl r) e'.1
    obtain ⟨ks, h2⟩ := asKs_rel t s e'.2
    exact ⟨k :: ks, by show (asK _).bind _ = _; rw [h1]; show (asKs _).map _ = _; rw [h2]; rfl⟩
theorem asT_rel (t : HT T h) {x : PV} {v : VV} (r : RepB T h x v) (e : asTV v = true) : ∃ k, asT x = some k := by
  cases v with
  | tup vs => obtain ⟨xs, rfl, rl⟩ := rb_tup t r; exact asKs_rel t rl e
  | _ => cases e
mutual
theorem keyE_rel (t : HT T h) : ∀ (x y : PV) (v u : VV), RepT T x v → RepT T y u → keyE x y = keyEV v u
  | .tup xs, .tup ys, _, _, .tup r1, .tup r2 => keyEs_rel t xs ys _ _ r1 r2
  | .ref m, y, v, u, .ref q, r => by
    obtain ⟨o, _, b⟩ := t _ _ q
    cases b <;> cases y <;> cases u <;> rfl
  | x, .ref m, v, u, r, .ref q => by
    obtain ⟨o, _, b⟩ := t _ _ q
    cases b <;> cases x <;> cases v <;> rfl
  | .kl _ _, y, _, u, .kl _, _ => by cases y <;> cases u <;> rfl
  | x, .kl _ _, v, _, _, .kl _ => by cases x <;> cases v <;> rfl
  | .ty _, y, _, u, .ty, _ => by cases y <;> cases u <;> rfl
  | x, .ty _, v, _, _, .ty => by cases x <;> cases v <;> rfl
  | .non, y, _, u, .non, _ => by cases y <;> cases u <;> rfl
  | x, .non, v, _, _, .non => by cases x <;> cases v <;> rfl
  | .bl _, y, _, u, .bl, _ => by cases y <;> cases u <;> rfl
  | x, .bl _, v, _, _, .bl => by cases x <;> cases v <;> rfl
  | .int _, .int _, _, _, .int, .int => rfl
  | .int _, .str _, _, _, .int, .str => rfl
  | .int _, .tup _, _, _, .int, .tup _ => rfl
  | .str _, .int _, _, _, .str, .int => rfl
  | .str _, .str _, _, _, .str, .str => rfl
  | .str _, .tup _, _, _, .str, .tup _ => rfl
  | .tup _, .int _, _, _, .tup _, .int => rfl
  | .tup _, .str _, _, _, .tup _, .str => rfl
theorem keyEs_rel (t : HT T h) : ∀ (xs ys : List PV) (vs us : List VV), RepL T xs vs → RepL T ys us → keyEs xs ys = keyEVs vs us
  | [], [], _, _, .nil, .nil => rfl
  | [], _ :: _, _, _, .nil, .cons _ _ => rfl
  | _ :: _, [], _, _, .cons _ _, .nil => rfl
  | x :: xs, y :: ys, _, _, .cons (v := v) (vs := vs) r1 s1, .cons (v := u) (vs := us) r2 s2 => by
    show (keyE x y && keyEs xs ys) = (keyEV v u && keyEVs vs us)
    rw [keyE_rel t x y v u r1 r2, keyEs_rel t xs ys vs us s1 s2]
end
theorem kv_cons {k x : PV} {kv vv : VV} {kvs : List (PV × PV)} {kws : List (VV × VV)} (r : RepKV T ((k, x) :: kvs) ((kv, vv) :: kws)) : RepT T k kv ∧ RepT T x vv ∧ RepKV T kvs kws := by
  obtain ⟨r1, r2⟩ := r
  cases r1 with
  | cons a b =>
    cases r2 with
    | cons c d => exact ⟨a, c, b, d⟩
theorem RepKV.cons {k x : PV} {kv vv : VV} {kvs : List (PV × PV)} {kws : List (VV × VV)} (a : RepT T k kv) (b : RepT T x vv) (r : RepKV T kvs kws) : RepKV T ((k, x) :: kvs) ((kv, vv) :: kws) := ⟨.cons a r.1, .cons b r.2⟩
theorem RepKV.append {a c : List (PV × PV)} {b d : List (VV × VV)} (r : RepKV T a b) (s : RepKV T c d) : RepKV T (a ++ c) (b ++ d) := ⟨by rw [List.map_append, List.map_append]; exact r.1.append s.1, by rw [List.map_append, List.map_append]; exact r.2.append s.2⟩
theorem RepKV.length {a : List (PV × PV)} {b : List (VV × VV)} (r : RepKV T a b) : a.length = b.length := by
  have := r.1.length
  simpa using this
theorem dGet_rel (t : HT T h) {y : PV} {u : VV} (ry : RepT T y u) : ∀ {kvs : List (PV × PV)} {kws : List (VV × VV)}, RepKV T kvs kws → (dGetV kws u = none → dGet kvs y = none) ∧ ∀ v, dGetV kws u = some v → ∃ x, dGet kvs y = some x ∧ RepT T x v
  | [], [], _ => ⟨fun _ => rfl, fun v e => by cases e⟩
  | [], _ :: _, r => by have := r.length; simp at this
  | _ :: _, [], r => by have := r.length; simp at this
  | (k, x) :: kvs, (kv, vv) :: kws, r => by
    obtain ⟨a, b, c⟩ := kv_cons r
    have ke := keyE_rel t k y kv u a ry
    obtain ⟨i1, i2⟩ := dGet_rel t ry c
    unfold dGetV dGet at *
    rw [List.find?_cons, List.find?_cons, ke]
    cases keyEV kv u with
    | true => exact ⟨fun e => (by cases e), fun v e => (by cases e; exact ⟨x, rfl, b⟩)⟩
    | false => exact ⟨i1, i2⟩
theorem dAny_rel (t : HT T h) {y : PV} {u : VV} (ry : RepT T y u) : ∀ {kvs : List (PV × PV)} {kws : List (VV × VV)}, RepKV T kvs kws → (kvs.any fun q => keyE q.1 y) = kws.any fun q => keyEV q.1 u
  | [], [], _ => rfl
  | [], _ :: _, r => by have := r.length; simp at this
  | _ :: _, [], r => by have := r.length; simp at this
  | (k, x) :: kvs, (kv, vv) :: kws, r => by
    obtain ⟨a, b, c⟩ := kv_cons r
    show (keyE k y || _) = (keyEV kv u || _)
    rw [keyE_rel t k y kv u a ry, dAny_rel t ry c]
theorem dRepl_rel (t : HT T h) {y z : PV} {u w : VV} (ry : RepT T y u) (rz : RepT T z w) : ∀ {kvs : List (PV × PV)} {kws : List (VV × VV)}, RepKV T kvs kws → RepKV T (kvs.map fun q => if keyE q.1 y = true then (q.1, z) else q) (kws.map fun q => if keyEV q.1 u = true then (q.1, w) else q)
  | [], [], _ => ⟨.nil, .nil⟩
  | [], _ :: _, r => by have := r.length; simp at this
  | _ :: _, [], r => by have := r.length; simp at this
  | (k, x) :: kvs, (kv, vv) :: kws, r => by
    obtain ⟨a, b, c⟩ := kv_cons r
    have ke := keyE_rel t k y kv u a ry
    have ih := dRepl_rel t ry rz c
    rw [List.map_cons, List.map_cons]
    dsimp only
    rw [ke]
    cases keyEV kv u with
    | true => exact RepKV.cons a rz ih
    | false => exact RepKV.cons a b ih
theorem dPut_rel (t : HT T h) {y z : PV} {u w : VV} (ry : RepT T y u) (rz : RepT T z w) {kvs : List (PV × PV)} {kws : List (VV × VV)} (r : RepKV T kvs kws) : RepKV T (dPut kvs y z) (dPutV kws u w) := by
  unfold dPut dPutV
  rw [dAny_rel t ry r]
  split
  · exact dRepl_rel t ry rz r
  · exact r.append (RepKV.cons ry rz ⟨.nil, .nil⟩)
/-- a dict and a key of its kind -/
def dctV (c u : VV) : Option (List (VV × VV)) := match c with
  | .dct kws => if asKV u then some kws else none
  | .dtt kws => if asTV u then some kws else none
  | _ => none
theorem key_frz (t : HT T h) {y : PV} {u : VV} (r : RepB T h y u) (e : asKV u = true ∨ asTV u = true) : RepT T y u := by
  rcases r with r | ⟨n, e2, w⟩
  · exact r
  · obtain ⟨o, _, b⟩ := w.ob
    cases b <;> rcases e with e | e <;> cases e
theorem mDct_rel {α : Type} (t : HT T h) {x y : PV} {c u : VV} {kws : List (VV × VV)} (rx : RepB T h x c) (ry : RepB T h y u) (e : dctV c u = some kws) : ∃ n tb kvs, x = .ref n ∧ RepT T y u ∧ RepKV T kvs kws ∧ h.get n = some (mkD tb kvs) ∧ (c = if tb then .dtt kws else .dct kws) ∧ ∀ k : Nat → Bool → List (PV × PV) → M α, mDct x y k h = k n tb kvs h := by
  cases c with
  | dct kws' =>
    unfold dctV at e
    dsimp only at e
    split at e
    · rename_i ek
      cases e
      obtain ⟨n, kvs, rfl, r, g⟩ := rb_dct t rx
      obtain ⟨kk, hk⟩ := asK_rel t ry ek
      refine ⟨n, false, kvs, rfl, key_frz t ry (.inl ek), r, g, rfl, fun k => ?_⟩
      show mAt n _ h = _
      rw [mAt_ok g]
      dsimp only
      rw [hk]
    · cases e
  | dtt kws' =>
    unfold dctV at e
    dsimp only at e
    split at e
    · rename_i ek
      cases e
      obtain ⟨n, kvs, rfl, r, g⟩ := rb_dtt t rx
      obtain ⟨kk, hk⟩ := asT_rel t ry ek
      refine ⟨n, true, kvs, rfl, key_frz t ry (.inr ek), r, g, rfl, fun k => ?_⟩
      show mAt n _ h = _
      rw [mAt_ok g]
      dsimp only
      rw [hk]
    · cases e
  | _ => cases e
end
def qDGet : QF := fun vs => match vs with
  | [c, u] => (match dctV c u with
    | some kws => (match dGetV kws u with
      | some v => .ok v
      | none => .bad)
    | none => .bad)
  | _ => .bad
theorem op_dget : POp (two pDGet) qDGet := fun T h xs vs t r => by
  unfold qDGet
  split
  · rename_i c u
    obtain ⟨x, y, rfl, r1, r2⟩ := rb2 r
    cases e : dctV c u with
    | none => exact True.intro
    | some kws =>
      dsimp only
      cases e2 : dGetV kws u with
      | none => exact True.intro
      | some v =>
        obtain ⟨n, tb, kvs, rfl, ry, rk, g, _, un⟩ := mDct_rel (α := PV) t r1 r2 e
        obtain ⟨x, e3, rx⟩ := (dGet_rel t ry rk).2 v e2
        refine ⟨x, ?_, rx⟩
        show pDGet _ _ h = _
        unfold pDGet
        rw [un, e3]; rfl
  · exact True.intro
def qDIn (b : Bool) : QF := fun vs => match vs with
  | [u, c] => (match dctV c u with
    | some kws => .ok (.bl (xor b (dGetV kws u).isSome))
    | none => .bad)
  | _ => .bad
theorem dIs_rel {T : Ty} {h : MH} (t : HT T h) {y : PV} {u : VV} (ry : RepT T y u) {kvs : List (PV × PV)} {kws : List (VV × VV)} (r : RepKV T kvs kws) : (dGet kvs y).isSome = (dGetV kws u).isSome := by
  obtain ⟨i1, i2⟩ := dGet_rel t ry r
  cases e : dGetV kws u with
  | none => rw [i1 e]; rfl
  | some v => obtain ⟨x, h1, _⟩ := i2 v e; rw [h1]; rfl
theorem op_din : POp (two pDIn) (qDIn false) := fun T h xs vs t r => by
  unfold qDIn
  split
  · rename_i u c
    obtain ⟨y, x, rfl, r2, r1⟩ := rb2 r
    cases e : dctV c u with
    | none => exact True.intro
    | some kws =>
      obtain ⟨n, tb, kvs, rfl, ry, rk, g, _, un⟩ := mDct_rel (α := PV) t r1 r2 e
      refine ⟨.bl (dGet kvs y).isSome, ?_, ?_⟩
      · show pDIn _ _ h = _
        unfold pDIn
        rw [un]; rfl
      · rw [dIs_rel t ry rk, Bool.false_xor]; exact .bl
  · exact True.intro
theorem op_dnin : POp (two pDNotIn) (qDIn true) := fun T h xs vs t r => by
  unfold qDIn
  split
  · rename_i u c
    obtain ⟨y, x, rfl, r2, r1⟩ := rb2 r
    cases e : dctV c u with
    | none => exact True.intro
    | some kws =>
      obtain ⟨n, tb, kvs, rfl, ry, rk, g, _, un⟩ := mDct_rel (α := PV) t r1 r2 e
      refine ⟨.bl (!(dGet kvs y).isSome), ?_, ?_⟩
      · show pDNotIn _ _ h = _
        unfold pDNotIn
        rw [un]; rfl
      · rw [dIs_rel t ry rk, Bool.true_xor]; exact .bl
  · exact True.intro
def mkDV (tb : Bool) (kws : List (VV × VV)) : VV := if tb then .dtt kws else .dct kws
def isTb : VV → Bool
  | .dtt _ => true
  | _ => false
def qsD : VV → VV → VV → Option VV := fun c u v => match dctV c u with
  | some kws => if kws.length < 10000000 then some (mkDV (isTb c) (dPutV kws u v)) else none
  | none => none
theorem mkD_ob {T : Ty} {tb : Bool} {kvs : List (PV × PV)} {kws : List (VV × VV)} (r : RepKV T kvs kws) : ObT T (mkD tb kvs) (mkDV tb kws) := by
  cases tb with
  | true => exact .dtt r
  | false => exact .dct r
theorem st_d : StV stD qsD := fun T h n o c y z u v c' t un g b ry rz e => by
  unfold qsD at e
  cases e1 : dctV c u with
  | none => rw [e1] at e; cases e
  | some kws =>
    rw [e1] at e
    dsimp only at e
    split at e
    · rename_i hl
      obtain ⟨m, tb, kvs, e2, _, rk, gm, ec, um⟩ := mDct_rel (α := Unit) t (.inr ⟨n, rfl, un, o, g, b⟩) (.inl ry) e1
      cases e2
      have et : isTb c = tb := by rw [ec]; cases tb <;> rfl
      rw [et] at e
      cases e
      refine ⟨mkD tb (dPut kvs y z), ?_, mkD_ob (dPut_rel t ry rz rk)⟩
      unfold stD
      rw [um, if_pos (by rw [rk.length]; exact hl)]; rfl
    · cases e
def isDctV : VV → Bool
  | .dct _ => true
  | .dtt _ => true
  | _ => false
theorem ck_dct : CkV ckDct isDctV := fun T h x v t r e => by
  cases v with
  | dct us =>
    obtain ⟨n, kvs, rfl, _, g⟩ := rb_dct t r
    show mAt n _ h = _
    rw [mAt_ok g]; rfl
  | dtt us =>
    obtain ⟨n, kvs, rfl, _, g⟩ := rb_dtt t r
    show mAt n _ h = _
    rw [mAt_ok g]; rfl
  | _ => cases e
end VX

set_option Elab.async false
set_option linter.all false
set_option maxRecDepth 100000
set_option maxHeartbeats 1000000
namespace VX
open FX
open L2 (atI ixN)
def qmSetd : VV → List VV → PM := fun c vs => match vs with
  | [u, v] => (match dctV c u with
    | some kws => if kws.length < 10000000 then (match dGetV kws u with
      | some w => .sm w
      | none => .ok v (mkDV (isTb c) (dPutV kws u v))) else .bad
    | none => .bad)
  | _ => .bad
theorem mk_setd : PMk pDSetd qmSetd := fun T h n o c xs vs t un g b r => by
  unfold qmSetd
  split
  · rename_i u v
    cases r with
    | @cons y _ _ _ ry r =>
    cases r with
    | @cons z _ _ _ rz r =>
    cases r
    cases e1 : dctV c u with
    | none => exact True.intro
    | some kws =>
      dsimp only
      split
      · rename_i hl
        obtain ⟨m, tb, kvs, e2, _, rk, gm, ec, um⟩ := mDct_rel (α := PV) t (.inr ⟨n, rfl, un, o, g, b⟩) (.inl ry) e1
        cases e2
        have et : isTb c = tb := by rw [ec]; cases tb <;> rfl
        rw [et]
        obtain ⟨i1, i2⟩ := dGet_rel t ry rk
        have e3 : pDSetd [.ref n, y, z] h = (if kvs.length < 10000000 then (match dGet kvs y with
            | some v => M.ret v
            | none => (mPut n (mkD tb (dPut kvs y z))).bind fun _ => M.ret z) else M.bad : M PV) h := um _
        rw [if_pos (by rw [rk.length]; exact hl)] at e3
        cases e4 : dGetV kws u with
        | none =>
          rw [i1 e4] at e3
          exact ⟨z, mkD tb (dPut kvs y z), e3, rz, mkD_ob (dPut_rel t ry rz rk)⟩
        | some w =>
          obtain ⟨x, h1, h2⟩ := i2 w e4
          rw [h1] at e3
          exact (⟨x, e3, h2⟩ : PMR T h n _ (.sm w))
      · exact True.intro
  · exact True.intro
def vDNew (tb : Bool) : VE := fun π => .ok (if tb then .dtt [] else .dct []) π
theorem ro_dnew {O : Ow} {tb : Bool} : RO O (eDNew tb) (vDNew tb) := fun T h ρ π t s => ⟨_, _, T, rfl, Ke.new t s, new_rel t s (by cases tb <;> first | exact .dct ⟨.nil, .nil⟩ | exact .dtt ⟨.nil, .nil⟩)⟩
def prsV : List VV → Option (List (VV × VV))
  | [] => some []
  | .tup [k, v] :: r => if asKV k then (prsV r).map ((k, v) :: ·) else none
  | _ :: _ => none
def mrgV (d : List (VV × VV)) (kws : List (VV × VV)) : List (VV × VV) := kws.foldl (fun d q => dPutV d q.1 q.2) d
theorem prs_rel {T : Ty} {h : MH} (t : HT T h) : ∀ {xs : List PV} {vs : List VV} {kws : List (VV × VV)}, RepL T xs vs → prsV vs = some kws → ∃ kvs, prsOf xs = some kvs ∧ RepKV T kvs kws
  | _, _, kws, .nil, e => by cases e; exact ⟨[], rfl, .nil, .nil⟩
  | _, _, kws, .cons (x := x) (v := v) (xs := xs) (vs := vs) r s, e => by
    unfold prsV at e
    split at e
    · rename_i eq; cases eq
    · rename_i k w rr eq
      cases eq
      split at e
      · rename_i ek
        cases q : prsV vs with
        | none => rw [q] at e; cases e
        | some kws' =>
          rw [q] at e
          cases e
          obtain ⟨ys, rfl, rl⟩ := rb_tup t (.inl r)
          cases rl with
          | @cons y _ _ _ ry rl =>
          cases rl with
          | @cons z _ _ _ rz rl =>
          cases rl
          obtain ⟨kvs, h1, h2⟩ := prs_rel t s q
          obtain ⟨kk, hk⟩ := asK_rel t (.inl ry) ek
          refine ⟨(y, z) :: kvs, ?_, RepKV.cons ry rz h2⟩
          show (asK y).bind _ = _
          rw [hk]
          show (prsOf xs).map _ = _
          rw [h1]; rfl
      · cases e
    · cases e
theorem mrg_rel {T : Ty} {h : MH} (t : HT T h) : ∀ {kvs : List (PV × PV)} {kws : List (VV × VV)} {d : List (PV × PV)} {e : List (VV × VV)}, RepKV T kvs kws → RepKV T d e → RepKV T (mrg d kvs) (mrgV e kws)
  | [], [], _, _, _, r => r
  | [], _ :: _, _, _, r, _ => by have := r.length; simp at this
  | _ :: _, [], _, _, r, _ => by have := r.length; simp at this
  | (k, x) :: kvs, (kv, vv) :: kws, d, e, r, r2 => by
    obtain ⟨a, b, c⟩ := kv_cons r
    exact mrg_rel (kvs := kvs) (kws := kws) t c (dPut_rel t a b r2)
def qDictP : QF := fun vs => match vs with
  | [v] => (match lstV v with
    | some us => (match prsV us with
      | some kws => .nw (.dct (mrgV [] kws))
      | none => .bad)
    | none => .bad)
  | _ => .bad
theorem op_dictP : POp pDictP qDictP := fun T h xs vs t r => by
  unfold qDictP
  split
  · obtain ⟨x, rfl, r1⟩ := rb1 r
    rename_i v
    cases e : lstV v with
    | none => exact True.intro
    | some us =>
      dsimp only
      cases e2 : prsV us with
      | none => exact True.intro
      | some kws =>
        obtain ⟨ys, rl, q⟩ := lst_rel (k := fun ps => match prsOf ps with
          | some kvs => mNew (.dct (mrg [] kvs))
          | none => M.bad) t r1 e
        obtain ⟨kvs, h1, h2⟩ := prs_rel t rl e2
        refine ⟨.dct (mrg [] kvs), ?_, .dct (mrg_rel t h2 ⟨.nil, .nil⟩)⟩
        show mLst x _ h = _
        refine Eq.trans q ?_
        rw [h1]; rfl
  · exact True.intro
theorem zipP_rel {T : Ty} : ∀ {xs ys : List PV} {vs us : List VV}, RepL T xs vs → RepL T ys us → RepL T (zipP xs ys) (zipV vs us)
  | _, _, _, _, .nil, _ => by cases ‹RepL T _ _› <;> exact .nil
  | _, _, _, _, .cons _ _, .nil => .nil
  | _, _, _, _, .cons r s, .cons r2 s2 => .cons (.tup (.cons r (.cons r2 .nil))) (zipP_rel s s2)
def qLz : QF := fun vs => match vs with
  | [.tup a, .tup b] => if a.length = b.length ∧ a.length ≤ 10000000 then .nw (.lst (zipV a b)) else .bad
  | _ => .bad
theorem op_lz : POp (two pLz) qLz := fun T h xs vs t r => by
  unfold qLz
  split
  · rename_i a b
    obtain ⟨x, y, rfl, r1, r2⟩ := rb2 r
    obtain ⟨xs, rfl, q1⟩ := rb_tup t r1
    obtain ⟨ys, rfl, q2⟩ := rb_tup t r2
    show PRes T h ((if xs.length = ys.length ∧ xs.length ≤ 10000000 then mNew (.lst (zipP xs ys)) else M.bad : M PV) h) _
    rw [q1.length, q2.length]
    split
    · exact ⟨_, rfl, .lst (zipP_rel q1 q2)⟩
    · exact True.intro
  · exact True.intro
section
variable {O : Ow} {fr : Bool} {T T1 : Ty} {h h1 : MH} {ρ ρ1 ρ2 : Env} {π π1 : VEnv} {is : List Nat} {gt : GF} {vg : VG} {tf : TF} {vt : VT} {ek ev : EF} {vk vv : VE}
def vDcompN (is : List Nat) (vg : VG) (t : VT) (k e : VE) : List VV → List (VV × VV) → VM (List (VV × VV))
  | [], acc, π => .ok acc π
  | v :: vs, acc, π => match vg v π with
    | none => .bad
    | some π1 => (t π1).bind fun b π2 => if b then (k π2).bind fun y π3 => (e π3).bind fun z π4 => if asKV y then (if acc.length < 10000000 then vDcompN is vg t k e vs (dPutV acc y z) (wipeV π4 is) else .bad) else .bad else vDcompN is vg t k e vs acc (wipeV π2 is)
theorem dcomp_sim {nx : Src} {all : List VV} (o : ∀ i ∈ is, O i = .fz) (b : RGt O is gt vg) (c : RT O tf vt) (ak : RE O ek vk) (av : RE O ev vv) : ∀ (vs : List VV) (f i : Nat) (acc : List (PV × PV)) (vacc : List (VV × VV)) (T : Ty) (h : MH) (ρ : Env) (π : VEnv), SrcT T nx all → vs = all.drop i → vs.length < f → HT T h → SimE O T h ρ π → RepKV T acc vacc →
    ∀ ys π', vDcompN is vg vt vk vv vs vacc π = .ok ys π' → ∃ xs h' T', dcompN nx gt tf ek ev f i acc ρ h = .ok xs h' ∧ Ke O T h ρ π T' h' ρ π' ∧ RepKV T' xs ys
  | vs, 0, i, acc, vacc, T, h, ρ, π, _, _, hf, _, _, _, _, _, _ => absurd hf (Nat.not_lt_zero _)
  | [], f + 1, i, acc, vacc, T, h, ρ, π, sr, hv, hf, t, s, ra, ys, π', ev' => by
    have hi : all[i]? = none := by
      rw [List.getElem?_eq_none_iff]
      have := congrArg List.length hv
      rw [List.length_drop] at this
      simp at this
      omega
    have z := sr.2 T h (TLe.refl T) t i
    rw [hi] at z
    cases ev'
    refine ⟨acc, h, T, ?_, Ke.refl t s, ra⟩
    unfold dcompN
    rw [z]
  | v :: vs, f + 1, i, acc, vacc, T, h, ρ, π, sr, hv, hf, t, s, ra, ys, π', ev' => by
    have hi : all[i]? = some v := by
      have := congrArg (fun l => l[0]?) hv
      simpa using this.symm
    have hn : vs = all.drop (i + 1) := by
      have := congrArg List.tail hv
      simpa using this
    have z := sr.2 T h (TLe.refl T) t i
    rw [hi] at z
    obtain ⟨x, e0, r⟩ := z
    unfold vDcompN at ev'
    cases e1 : vg v π with
    | none => rw [e1] at ev'; cases ev'
    | some π1 =>
      rw [e1] at ev'
      dsimp only at ev'
      obtain ⟨ρ1, q1, k1, hlen, u1⟩ := b T h ρ π x v t s r π1 e1
      have q2 := c T h ρ1 π1 t k1.se
      have un : ∀ r, (((gt x ρ).bind fun ρ2 => (tf ρ2).bind fun b => if b then (ek ρ2).bind fun y => (ev ρ2).bind fun z => match asK y with
          | some _ => if acc.length < 10000000 then dcompN nx gt tf ek ev f (i + 1) (dPut acc y z) ρ else M.bad
          | none => M.bad
        else dcompN nx gt tf ek ev f (i + 1) acc ρ) h) = r → dcompN nx gt tf ek ev (f + 1) i acc ρ h = r := fun r z => by
        unfold dcompN
        rw [e0]; exact z
      cases e2 : vt π1 with
      | bad => rw [e2] at ev'; cases ev'
      | exc _ _ _ => rw [e2] at ev'; cases ev'
      | ok bb π2 =>
        rw [e2] at ev' q2
        obtain ⟨b', h2, T2, r2, k2, rb⟩ := q2
        rw [show b' = bb from rb] at r2
        cases bb with
        | false =>
          have kk : Ke O T h ρ π T2 h2 ρ (wipeV π2 is) := (k1.trans k2).wipe o hlen.symm fun i hi => (u1 i hi).symm
          obtain ⟨xs, h4, T4, r4, k4, rl⟩ := dcomp_sim o b c ak av vs f (i + 1) acc vacc T2 h2 ρ (wipeV π2 is) (sr.mono k2.ty) hn (by simp at hf; omega) kk.ht kk.se (ra.mono k2.ty) ys π' ev'
          refine ⟨xs, h4, T4, un _ ?_, kk.trans k4, rl⟩
          rw [M.bind_ok q1, M.bind_ok r2]; exact r4
        | true =>
          have ev1 : ((vk π2).bind fun y π3 => (vv π3).bind fun z π4 => if asKV y then (if vacc.length < 10000000 then vDcompN is vg vt vk vv vs (dPutV vacc y z) (wipeV π4 is) else .bad) else .bad) = .ok ys π' := ev'
          have q3 := ak T2 h2 ρ1 π2 k2.ht k2.se
          cases e3 : vk π2 with
          | bad => rw [e3] at ev1; cases ev1
          | exc _ _ _ => rw [e3] at ev1; cases ev1
          | ok y π3 =>
            rw [e3] at ev1 q3
            obtain ⟨y', h3, T3, r3, k3, ry⟩ := q3
            have ev2 : ((vv π3).bind fun z π4 => if asKV y then (if vacc.length < 10000000 then vDcompN is vg vt vk vv vs (dPutV vacc y z) (wipeV π4 is) else .bad) else .bad) = .ok ys π' := ev1
            have q4 := av T3 h3 ρ1 π3 k3.ht k3.se
            cases e4 : vv π3 with
            | bad => rw [e4] at ev2; cases ev2
            | exc _ _ _ => rw [e4] at ev2; cases ev2
            | ok z π4 =>
              rw [e4] at ev2 q4
              obtain ⟨z', h5, T5, r5, k5, rz⟩ := q4
              have ev3 : (if asKV y then (if vacc.length < 10000000 then vDcompN is vg vt vk vv vs (dPutV vacc y z) (wipeV π4 is) else .bad) else .bad) = .ok ys π' := ev2
              split at ev3
              · rename_i hk
                split at ev3
                · rename_i hl
                  have ry' : RepT T5 y' y := RepT.mono k5.ty ry
                  have rz' : RepT T5 z' z := rz
                  have ra5 : RepKV T5 acc vacc := ra.mono ((k2.ty.trans k3.ty).trans k5.ty)
                  have kk : Ke O T h ρ π T5 h5 ρ (wipeV π4 is) := (((k1.trans k2).trans k3).trans k5).wipe o hlen.symm fun i hi => (u1 i hi).symm
                  obtain ⟨kk', hk'⟩ := asK_rel k5.ht (.inl ry') hk
                  obtain ⟨xs, h4, T4, r4, k4, rl⟩ := dcomp_sim o b c ak av vs f (i + 1) (dPut acc y' z') (dPutV vacc y z) T5 h5 ρ (wipeV π4 is) (sr.mono ((k2.ty.trans k3.ty).trans k5.ty)) hn (by simp at hf; omega) kk.ht kk.se (dPut_rel k5.ht ry' rz' ra5) ys π' ev3
                  refine ⟨xs, h4, T4, un _ ?_, kk.trans k4, rl⟩
                  rw [M.bind_ok q1, M.bind_ok r2]
                  show ((ek ρ1).bind _) h2 = _
                  rw [M.bind_ok r3, M.bind_ok r5, hk']
                  show (if acc.length < 10000000 then _ else _ : M (List (PV × PV))) h5 = _
                  rw [if_pos (by rw [ra.length]; exact hl)]
                  exact r4
                · cases ev3
              · cases ev3
def vDc (it : VI) (is : List Nat) (vg : VG) (t : VT) (k e : VE) : VE := fun π => (it π).bind fun vs π1 => match vDcompN is vg t k e vs [] (wipeV π1 is) with
  | .ok ys π2 => .ok (.dct ys) (restV π1 is π2)
  | _ => .bad
theorem ro_dc {it : IF} {vi : VI} (o : ∀ i ∈ is, O i = .fz) (c0 : RI O it vi) (b : RGt O is gt vg) (c : RT O tf vt) (ak : RE O ek vk) (av : RE O ev vv) : RO O (eDc it is gt tf ek ev) (vDc vi is vg vt vk vv) := fun T h ρ π t s => by
  show Sim O (relF O h ρ π) T h ρ π (((it ρ).bind fun nxt => (noX (dcompN nxt gt tf ek ev fuel 0 [] (wipeE ρ is))).bind fun kvs => mNew (.dct kvs)) h) _
  refine (c0 T h ρ π t s).bind fun nx h1 T1 vs π1 k1 sr => ?_
  cases e : vDcompN is vg vt vk vv vs [] (wipeV π1 is) with
  | bad => exact True.intro
  | exc _ _ _ => exact True.intro
  | ok ys π2 =>
    dsimp only
    have kw : Ke O T1 h1 ρ π1 T1 h1 (wipeE ρ is) (wipeV π1 is) := (Ke.refl k1.ht k1.se).wipe o (wipeE_len ρ is) fun i hi => wipeE_ne hi
    obtain ⟨xs, h2, T2, r2, k2, rl⟩ := dcomp_sim o b c ak av vs fuel 0 [] [] T1 h1 (wipeE ρ is) (wipeV π1 is) sr rfl sr.1 k1.ht kw.se ⟨.nil, .nil⟩ ys π2 e
    have kr : Ke O T1 h1 ρ π1 T2 h2 ρ (restV π1 is π2) := (kw.trans k2).rest k1.se o (wipeE_len ρ is) fun i hi => wipeE_ne hi
    have e1 : (noX (dcompN nx gt tf ek ev fuel 0 [] (wipeE ρ is))) h1 = .ok xs h2 := by
      unfold noX
      rw [r2]
    rw [M.bind_ok e1]
    exact ⟨_, _, T2, rfl, kr.trans (Ke.new kr.ht kr.se), relF.at (k1.trans kr) (new_rel kr.ht kr.se (.dct rl))⟩
end
end VX

set_option Elab.async false
set_option linter.all false
set_option maxRecDepth 100000
set_option maxHeartbeats 1000000
namespace VX
open FX
def datV : Nat → VV → Option DV
  | _, .non => some .non
  | _, .bl b => some (.bl b)
  | _, .int i => some (.int i)
  | _, .str x => if (x.all fun c => Nat.blt c 0x110000) = true then some (.str x) else none
  | n + 1, .tup xs => (allS (datV n) xs).map .tup
  | n + 1, .kl xs => (allS (datV n) xs).map .lst
  | n + 1, .lst xs => (allS (datV n) xs).map .lst
  | _, _ => none
section
variable {T : Ty} {h : MH}
theorem allS_rel {f : PV → Option DV} {g : VV → Option DV} (ih : ∀ x v d, RepT T x v → g v = some d → f x = some d) : ∀ {xs : List PV} {vs : List VV} {ds : List DV}, RepL T xs vs → allS g vs = some ds → allS f xs = some ds
  | _, _, _, .nil, e => e
  | _, _, _, .cons (x := x) (v := v) r t, e => by
    obtain ⟨y, zs, h1, h2, rfl⟩ := allS_cons e
    unfold allS
    rw [ih _ _ _ r h1, allS_rel ih t h2]
    rfl
theorem datV_rel (t : HT T h) : ∀ (n : Nat) (x : PV) (v : VV) (d : DV), RepB T h x v → datV n v = some d → datF h n x = some d := by
  intro n
  induction n with
  | zero =>
    intro x v d r e
    cases v with
    | non => obtain rfl := rb_non t r; exact e
    | bl b => obtain rfl := rb_bl t r; exact e
    | int i => obtain rfl := rb_int t r; exact e
    | str s => obtain rfl := rb_str t r; exact e
    | _ => cases e
  | succ n ih =>
    intro x v d r e
    have all : ∀ {xs : List PV} {vs : List VV} {ds : List DV}, RepL T xs vs → allS (datV n) vs = some ds → allS (datF h n) xs = some ds := fun rl q => allS_rel (fun x v d r e => ih x v d (.inl r) e) rl q
    cases v with
    | non => obtain rfl := rb_non t r; exact e
    | bl b => obtain rfl := rb_bl t r; exact e
    | int i => obtain rfl := rb_int t r; exact e
    | str s => obtain rfl := rb_str t r; exact e
    | tup vs =>
      obtain ⟨xs, rfl, rl⟩ := rb_tup t r
      have e' : (allS (datV n) vs).map DV.tup = some d := e
      show (allS (datF h n) xs).map DV.tup = some d
      cases q : allS (datV n) vs with
      | none => rw [q] at e'; cases e'
      | some ds => rw [all rl q, ← e', q]
    | kl vs =>
      obtain ⟨a, xs, rfl, rl⟩ := rb_kl t r
      have e' : (allS (datV n) vs).map DV.lst = some d := e
      show (allS (datF h n) xs).map DV.lst = some d
      cases q : allS (datV n) vs with
      | none => rw [q] at e'; cases e'
      | some ds => rw [all rl q, ← e', q]
    | lst vs =>
      obtain ⟨xs, m, rl, rfl, g⟩ := rb_lst t r
      have e' : (allS (datV n) vs).map DV.lst = some d := e
      show (match h.get m with
        | some (.lst xs) => (allS (datF h n) xs).map DV.lst
        | _ => none) = some d
      rw [g]
      cases q : allS (datV n) vs with
      | none => rw [q] at e'; cases e'
      | some ds =>
        show (allS (datF h n) xs).map DV.lst = some d
        rw [all rl q, ← e', q]
    | _ => cases e
end
def txV : VV → VV → Option Bool
  | .str a, .str b => some (eqL a b)
  | _, _ => none
def qCmpD (f : Bool → Bool) : QF := fun vs => match vs with
  | [v, u] => (match txV v u with
    | some b => .ok (.bl (f b))
    | none => (match datV 40 v, datV 40 u with
      | some d, some e => .ok (.bl (f (eqd d e)))
      | _, _ => .bad))
  | _ => .bad
abbrev qEqD : QF := qCmpD fun b => b
abbrev qNeD : QF := qCmpD fun b => !b
theorem tx_rel {T : Ty} {h : MH} (t : HT T h) {x y : PV} {v u : VV} (r1 : RepB T h x v) (r2 : RepB T h y u) : txs2 x y = txV v u ∨ txV v u = none ∧ txs2 x y = none := by
  cases q : txV v u with
  | some b =>
    cases v <;> first | (cases q; done) | skip
    cases u <;> first | (cases q; done) | skip
    obtain rfl := rb_str t r1
    obtain rfl := rb_str t r2
    exact .inl q
  | none =>
    refine .inr ⟨rfl, ?_⟩
    have key : ∀ {z : PV} {w : VV} {a : List Nat}, RepB T h z w → z = .str a → w = .str a := fun {z w a} r e => by
      subst e
      rcases r with r | ⟨n, e, _⟩
      · cases r; rfl
      · cases e
    unfold txs2
    split
    · rename_i a b
      rw [key r1 rfl, key r2 rfl] at q
      cases q
    · rfl
theorem op_cmpD {f : Bool → Bool} : POp (two (cmpD f)) (qCmpD f) := fun T h xs vs t r => by
  unfold qCmpD
  split
  · obtain ⟨x, y, rfl, r1, r2⟩ := rb2 r
    rename_i v u
    have tx := tx_rel t r1 r2
    cases q0 : txV v u with
    | some b =>
      rw [q0] at tx
      have e := tx.resolve_right fun z => nomatch z.1
      refine ⟨.bl (f b), ?_, .bl⟩
      show cmpD f x y h = _
      unfold cmpD
      rw [e]
    | none =>
      have e : txs2 x y = none := by
        rw [q0] at tx
        exact tx.elim id fun z => z.2
      cases q1 : datV 40 v with
      | none => exact True.intro
      | some d =>
        cases q2 : datV 40 u with
        | none => exact True.intro
        | some e2 =>
          refine ⟨.bl (f (eqd d e2)), ?_, .bl⟩
          show cmpD f x y h = _
          unfold cmpD
          rw [e, datV_rel t 40 x v d r1 q1, datV_rel t 40 y u e2 r2 q2]
  · exact True.intro
theorem op_eqD : POp (two pEqD) qEqD := op_cmpD
theorem op_neD : POp (two pNeD) qNeD := op_cmpD
def flV : VV → Bool
  | .non => true
  | .bl _ => true
  | .int _ => true
  | .str _ => true
  | _ => false
def inV (neg : Bool) (y : VV) (isL : Bool) (xs : List VV) : PR := if isL || (flV y && xs.all flV) then (match datV 40 y, allS (datV 39) xs with
    | some d, some ds => .ok (.bl (xor neg (ds.any fun z => eqd z d)))
    | _, _ => .bad) else .bad
def qInS (neg : Bool) : QF := fun vs => match vs with
  | [y, .tup xs] => inV neg y false xs
  | [y, .kl xs] => inV neg y true xs
  | [y, .lst xs] => inV neg y true xs
  | [.str [c], .str s] => .ok (.bl (xor neg (s.any fun d => Nat.beq d c)))
  | [y, .dct kvs] => if asKV y then .ok (.bl (xor neg (dGetV kvs y).isSome)) else .bad
  | _ => .bad
section
variable {T : Ty} {h : MH}
theorem fl_rel (t : HT T h) {x : PV} {v : VV} (r : RepB T h x v) : flatP x = flV v := by
  cases v with
  | non => obtain rfl := rb_non t r; rfl
  | bl b => obtain rfl := rb_bl t r; rfl
  | int i => obtain rfl := rb_int t r; rfl
  | str s => obtain rfl := rb_str t r; rfl
  | ty s => obtain rfl := rb_ty t r; rfl
  | tup vs => obtain ⟨xs, rfl, rl⟩ := rb_tup t r; rfl
  | kl vs => obtain ⟨a, xs, rfl, rl⟩ := rb_kl t r; rfl
  | _ =>
    rcases r with r | ⟨n, e, w⟩
    · cases r; rfl
    · rw [e]; rfl
theorem fls_rel (t : HT T h) : ∀ {xs : List PV} {vs : List VV}, RepL T xs vs → xs.all flatP = vs.all flV
  | _, _, .nil => rfl
  | _, _, .cons r s => by rw [List.all_cons, List.all_cons, fl_rel t (.inl r), fls_rel t s]
theorem eqd_flat {n m : Nat} {x y : PV} {d e : DV} (hx : flatP x = true) (hy : flatP y = true) (ex : datF h n x = some d) (ey : datF h m y = some e) : eqd d e = eqv x y := by
  cases x <;> first | (cases hx; done) | skip
  all_goals (cases y <;> first | (cases hy; done) | skip)
  all_goals
    have e1 : ∀ {n : Nat} {s : List Nat} {d : DV}, datF h n (.str s) = some d → d = .str s := fun {n s d} q => by
      have q' : (if (s.all fun c => Nat.blt c 0x110000) = true then some (DV.str s) else none) = some d := by cases n <;> exact q
      split at q'
      · cases q'; rfl
      · cases q'
    have e2 : ∀ {n : Nat} {s : Int} {d : DV}, datF h n (.int s) = some d → d = .int s := fun {n s d} q => by cases n <;> (cases q; rfl)
    have e3 : ∀ {n : Nat} {s : Bool} {d : DV}, datF h n (.bl s) = some d → d = .bl s := fun {n s d} q => by cases n <;> (cases q; rfl)
    have e4 : ∀ {n : Nat} {d : DV}, datF h n .non = some d → d = .non := fun {n d} q => by cases n <;> (cases q; rfl)
    first | (obtain rfl := e1 ex) | (obtain rfl := e2 ex) | (obtain rfl := e3 ex) | (obtain rfl := e4 ex)
    first | (obtain rfl := e1 ey) | (obtain rfl := e2 ey) | (obtain rfl := e3 ey) | (obtain rfl := e4 ey)
    rfl
theorem any_flat {n m : Nat} {y : PV} {e : DV} (hy : flatP y = true) (ey : datF h m y = some e) : ∀ {xs : List PV} {ds : List DV}, xs.all flatP = true → allS (datF h n) xs = some ds → (ds.any fun z => eqd z e) = xs.any fun z => eqv z y
  | [], _, _, q => by cases q; rfl
  | x :: xs, ds, hx, q => by
    obtain ⟨d, zs, h1, h2, rfl⟩ := allS_cons q
    rw [List.all_cons, Bool.and_eq_true] at hx
    rw [List.any_cons, List.any_cons, eqd_flat hx.1 hy h1 ey, any_flat hy ey hx.2 h2]
theorem inV_rel (t : HT T h) {neg isL : Bool} {y : PV} {v : VV} (r : RepB T h y v) {xs : List PV} {vs : List VV} (rl : RepL T xs vs) : PRes T h (inSq neg y isL xs h) (inV neg v isL vs) := by
  unfold inV
  by_cases c : (isL || (flV v && vs.all flV)) = true
  · rw [if_pos c]
    cases q1 : datV 40 v with
    | none => exact True.intro
    | some d =>
      cases q2 : allS (datV 39) vs with
      | none => exact True.intro
      | some ds =>
        have p1 := datV_rel t 40 y v d r q1
        have p2 := allS_rel (fun x v d r e => datV_rel t 39 x v d (.inl r) e) rl q2
        refine ⟨.bl _, ?_, .bl⟩
        unfold inSq
        rw [fl_rel t r, fls_rel t rl]
        by_cases f : (flV v && vs.all flV) = true
        · rw [if_pos f]
          rw [Bool.and_eq_true] at f
          rw [any_flat (by rw [fl_rel t r]; exact f.1) p1 (by rw [fls_rel t rl]; exact f.2) p2]
        · rw [if_neg f]
          have : isL = true := by
            rw [Bool.or_eq_true] at c
            exact c.resolve_right f
          rw [if_pos this, p1, p2]
  · rw [if_neg c]; exact True.intro
end
theorem op_inS {neg : Bool} : POp (two (pInS neg)) (qInS neg) := fun T h xs vs t r => by
  unfold qInS
  split
  · obtain ⟨x, y, rfl, r1, r2⟩ := rb2 r
    obtain ⟨ys, rfl, rl⟩ := rb_tup t r2
    exact inV_rel t r1 rl
  · obtain ⟨x, y, rfl, r1, r2⟩ := rb2 r
    obtain ⟨a, ys, rfl, rl⟩ := rb_kl t r2
    exact inV_rel t r1 rl
  · obtain ⟨x, y, rfl, r1, r2⟩ := rb2 r
    obtain ⟨ys, n, rl, rfl, g⟩ := rb_lst t r2
    show PRes T h (mAt n _ h) _
    rw [mAt_ok g]
    exact inV_rel t r1 rl
  · obtain ⟨x, y, rfl, r1, r2⟩ := rb2 r
    obtain rfl := rb_str t r1
    obtain rfl := rb_str t r2
    exact ⟨_, rfl, .bl⟩
  · obtain ⟨x, y, rfl, r1, r2⟩ := rb2 r
    obtain ⟨n, kvs, rfl, rk, g⟩ := rb_dct t r2
    rename_i v kws
    by_cases c : asKV v = true
    · rw [if_pos c]
      show PRes T h (mAt n _ h) _
      rw [mAt_ok g]
      obtain ⟨k, hk⟩ := asK_rel t r1 c
      show PRes T h ((match asK x with
        | some _ => M.ret (.bl (xor neg (dGet kvs x).isSome))
        | none => M.bad : M PV) h) _
      rw [hk]
      have rt : RepT T x v := by
        cases v with
        | int i => obtain rfl := rb_int t r1; exact .int
        | str i => obtain rfl := rb_str t r1; exact .str
        | _ => cases c
      refine ⟨.bl _, rfl, ?_⟩
      rw [dIs_rel t rt rk]
      exact .bl
    · rw [if_neg c]; exact True.intro
  · exact True.intro
def flDV : VV → Option PySem.PyData
  | .non => some .none
  | .bl b => some (.bool b)
  | .int i => some (.int i)
  | .str x => some (.str (mkS x))
  | _ => none
def kvDV (p : VV × VV) : Option (PySem.PyData × PySem.PyData) := match flDV p.1, flDV p.2 with
  | some a, some b => some (a, b)
  | _, _ => none
def shwV (v : VV) : Option PySem.PyData := match v with
  | .dct kvs => (allS kvDV kvs).map .dict
  | v => (datV 40 v).map toPD
def qRepr : QF := fun vs => match vs with
  | [v] => (match shwV v with
    | some d => if okRp d = true then .ok (.str d.shown.cps.toList) else .bad
    | none => .bad)
  | _ => .bad
section
variable {T : Ty} {h : MH}
theorem flD_rel (t : HT T h) {x : PV} {v : VV} {d : PySem.PyData} (r : RepT T x v) (e : flDV v = some d) : flD x = some d := by
  cases v with
  | non => obtain rfl := rb_non t (.inl r); exact e
  | bl b => obtain rfl := rb_bl t (.inl r); exact e
  | int i => obtain rfl := rb_int t (.inl r); exact e
  | str s => obtain rfl := rb_str t (.inl r); exact e
  | _ => cases e
theorem kvD_rel (t : HT T h) : ∀ {kvs : List (PV × PV)} {kws : List (VV × VV)} {ds : List (PySem.PyData × PySem.PyData)}, RepKV T kvs kws → allS kvDV kws = some ds → allS kvD kvs = some ds
  | [], [], _, _, e => e
  | [], _ :: _, _, r, _ => by have := r.1.length; simp at this
  | _ :: _, [], _, r, _ => by have := r.1.length; simp at this
  | kv :: kvs, kw :: kws, ds, ⟨r1, r2⟩, e => by
    obtain ⟨y, zs, h1, h2, rfl⟩ := allS_cons e
    have r1' : RepL T (kv.1 :: kvs.map (·.1)) (kw.1 :: kws.map (·.1)) := r1
    have r2' : RepL T (kv.2 :: kvs.map (·.2)) (kw.2 :: kws.map (·.2)) := r2
    cases r1' with
    | cons a1 a2 =>
    cases r2' with
    | cons b1 b2 =>
    unfold allS
    have : kvD kv = some y := by
      unfold kvDV at h1
      cases q1 : flDV kw.1 with
      | none => rw [q1] at h1; cases h1
      | some a =>
        cases q2 : flDV kw.2 with
        | none => rw [q1, q2] at h1; cases h1
        | some b =>
          rw [q1, q2] at h1
          unfold kvD
          rw [flD_rel t a1 q1, flD_rel t b1 q2]
          exact h1
    rw [this, kvD_rel t ⟨a2, b2⟩ h2]
    rfl
theorem shw_rel (t : HT T h) {x : PV} {v : VV} {d : PySem.PyData} (r : RepB T h x v) (e : shwV v = some d) : shwD h x = some d := by
  have dat : ∀ w, (datV 40 v).map toPD = some w → (datF h 40 x).map toPD = some w := fun w e => by
    cases q : datV 40 v with
    | none => rw [q] at e; cases e
    | some dv => rw [datV_rel t 40 x v dv r q, ← q]; exact e
  cases v with
  | non => obtain rfl := rb_non t r; exact dat d e
  | bl b => obtain rfl := rb_bl t r; exact dat d e
  | int i => obtain rfl := rb_int t r; exact dat d e
  | str s => obtain rfl := rb_str t r; exact dat d e
  | tup vs => obtain ⟨xs, rfl, rl⟩ := rb_tup t r; exact dat d e
  | kl vs => obtain ⟨a, xs, rfl, rl⟩ := rb_kl t r; exact dat d e
  | lst vs =>
    obtain ⟨xs, n, rl, rfl, g⟩ := rb_lst t r
    have z := dat d e
    show (match h.get n with
      | some (.dct kvs) => (allS kvD kvs).map PySem.PyData.dict
      | _ => (datF h 40 (.ref n)).map toPD) = some d
    rw [g]; exact z
  | dct kws =>
    obtain ⟨n, kvs, rfl, rk, g⟩ := rb_dct t r
    have e' : (allS kvDV kws).map PySem.PyData.dict = some d := e
    show (match h.get n with
      | some (.dct kvs) => (allS kvD kvs).map PySem.PyData.dict
      | _ => (datF h 40 (.ref n)).map toPD) = some d
    rw [g]
    cases q : allS kvDV kws with
    | none => rw [q] at e'; cases e'
    | some ds =>
      show (allS kvD kvs).map PySem.PyData.dict = some d
      rw [kvD_rel t rk q, ← e', q]
  | _ => cases e
end
theorem op_repr : POp pRepr qRepr := fun T h xs vs t r => by
  unfold qRepr
  split
  · obtain ⟨x, rfl, r1⟩ := rb1 r
    rename_i v
    cases q : shwV v with
    | none => exact True.intro
    | some d =>
      have e := shw_rel t r1 q
      by_cases k : okRp d = true
      · show PRes T h (pRepr [x] h) (if okRp d = true then .ok (.str d.shown.cps.toList) else .bad)
        rw [if_pos k]
        refine ⟨.str d.shown.cps.toList, ?_, .str⟩
        unfold pRepr
        dsimp only
        rw [e]
        exact if_pos k
      · show PRes T h _ (if okRp d = true then _ else _)
        rw [if_neg k]; exact True.intro
  · exact True.intro
def qExo (c : Nat) : QF := fun vs => match vs with
  | [v] => .nw (.err c v)
  | _ => .bad
theorem tk_exo {c : Nat} : PTp (mExo c) (qExo c) := fun T h xs vs t r => by
  unfold qExo
  split
  · cases r with
    | cons a b =>
    cases b
    exact ⟨_, rfl, .exo a⟩
  · exact True.intro
def qBxo (n : String) : QF := fun vs => match vs with
  | [_] => .nw (.bxe n)
  | _ => .bad
theorem tk_bxo {n : String} : PTp (mBxo n) (qBxo n) := fun T h xs vs t r => by
  unfold qBxo
  split
  · cases r with
    | cons a b =>
    cases b
    exact ⟨_, rfl, .bxo⟩
  · exact True.intro
def qVal (cs : List Nat) : QF := fun vs => match vs with
  | [.err c v] => if cs.contains c then .ok v else .bad
  | _ => .bad
theorem op_val {cs : List Nat} : POp (one (atVal cs)) (qVal cs) := fun T h xs vs t r => by
  unfold qVal
  split
  · obtain ⟨x, rfl, r1⟩ := rb1 r
    obtain ⟨n, y, rfl, g, ry⟩ := rb_err t r1
    rename_i c v
    show PRes T h (mAt n _ h) _
    rw [mAt_ok g]
    by_cases k : cs.contains c = true
    · show PRes T h ((if cs.contains c then M.ret y else M.bad : M PV) h) _
      rw [if_pos k, if_pos k]
      exact ⟨y, rfl, ry⟩
    · rw [if_neg k]; exact True.intro
  · exact True.intro
def qStr : QF := fun vs => match vs with
  | [.int i] => if decide (i.natAbs < 2 ^ 1900) then .ok (.str (intS i)) else .bad
  | [.str x] => .ok (.str x)
  | _ => .bad
theorem op_str : POp pStr qStr := fun T h xs vs t r => by
  unfold qStr
  split
  · obtain ⟨x, rfl, r1⟩ := rb1 r
    obtain rfl := rb_int t r1
    rename_i i
    show PRes T h ((if decide (i.natAbs < 2 ^ 1900) then M.ret (.str (intS i)) else M.bad : M PV) h) _
    by_cases k : decide (i.natAbs < 2 ^ 1900) = true
    · rw [if_pos k, if_pos k]; exact ⟨_, rfl, .str⟩
    · rw [if_neg k, if_neg k]; exact True.intro
  · obtain ⟨x, rfl, r1⟩ := rb1 r
    obtain rfl := rb_str t r1
    exact ⟨_, rfl, .str⟩
  · exact True.intro
def prsG : List (VE × VE) → VM (List (VV × VV))
  | [] => VM.ret []
  | (k, v) :: r => fun π => (k π).bind fun x π1 => (v π1).bind fun y π2 => (prsG r π2).bind fun ps π3 => .ok ((x, y) :: ps) π3
inductive PRS (O : Ow) : List (EF × EF) → List (VE × VE) → Prop
  | nil : PRS O [] []
  | cons {k v fs gk gv gs} (a : RE O k gk) (b : RE O v gv) (t : PRS O fs gs) : PRS O ((k, v) :: fs) ((gk, gv) :: gs)
def relKV : Rel (List (PV × PV)) (List (VV × VV)) := fun T _ _ a b => RepKV T a b
theorem prs_sim {O : Ow} {fs : List (EF × EF)} {gs : List (VE × VE)} (p : PRS O fs gs) : RG O (fun _ _ _ => relKV) (prsE fs) (prsG gs) := by
  induction p with
  | nil => exact fun T h ρ π t s => Sim.ret t s ⟨.nil, .nil⟩
  | cons a b _ ih =>
    intro T h ρ π t s
    refine (a T h ρ π t s).bind fun x h1 T1 v π1 k1 q1 => (b T1 h1 ρ π1 k1.ht k1.se).bind fun y h2 T2 u π2 k2 q2 => (ih T2 h2 ρ π2 k2.ht k2.se).bind fun ps h3 T3 us π3 k3 q3 => ?_
    exact Sim.ret k3.ht k3.se ⟨.cons ((q1.mono k2.ty).mono k3.ty) q3.1, .cons (q2.mono k3.ty) q3.2⟩
def vDsp (gs : List (VE × VE)) : VE := fun π => (prsG gs π).bind fun kws π1 => if kws.all (fun q => asKV q.1) && decide (kws.length ≤ 15) then .ok (.dct (mrgV [] kws)) π1 else .bad
theorem keysOk_rel {T : Ty} {h : MH} (t : HT T h) : ∀ {kvs : List (PV × PV)} {kws : List (VV × VV)}, RepKV T kvs kws → kws.all (fun q => asKV q.1) = true → keysOk kvs = true ∧ kvs.length = kws.length
  | [], [], _, _ => ⟨rfl, rfl⟩
  | [], _ :: _, r, _ => by have := r.1.length; simp at this
  | _ :: _, [], r, _ => by have := r.1.length; simp at this
  | kv :: kvs, kw :: kws, ⟨r1, r2⟩, e => by
    have r1' : RepL T (kv.1 :: kvs.map (·.1)) (kw.1 :: kws.map (·.1)) := r1
    have r2' : RepL T (kv.2 :: kvs.map (·.2)) (kw.2 :: kws.map (·.2)) := r2
    cases r1' with
    | cons a1 a2 =>
    cases r2' with
    | cons b1 b2 =>
    rw [List.all_cons, Bool.and_eq_true] at e
    obtain ⟨i1, i2⟩ := keysOk_rel t ⟨a2, b2⟩ e.2
    obtain ⟨k, hk⟩ := asK_rel t (.inl a1) e.1
    refine ⟨?_, by simp [i2]⟩
    show ((asK kv.1).isSome && keysOk kvs) = true
    rw [hk, i1]; rfl
theorem ro_dsp {O : Ow} {fs : List (EF × EF)} {gs : List (VE × VE)} (p : PRS O fs gs) : RO O (eDsp fs) (vDsp gs) := fun T h ρ π t s => by
  have k0 := Ke.new (o := .dct []) t s
  have sm := prs_sim p T (h.new (.dct [])) ρ π k0.ht k0.se
  show Sim O (relF O h ρ π) T h ρ π (((prsE fs ρ).bind fun kvs => dspF (.ref h.nx) kvs) (h.new (.dct []))) ((prsG gs π).bind _)
  cases q : prsG gs π with
  | bad => exact True.intro
  | exc c v π1 =>
    rw [q] at sm
    obtain ⟨x, h1, T1, e, k1, r1⟩ := sm
    refine ⟨x, h1, T1, ?_, k0.trans k1, r1⟩
    unfold M.bind; rw [e]
  | ok kws π1 =>
    rw [q] at sm
    obtain ⟨kvs, h1, T1, e, k1, rk⟩ := sm
    show Sim O (relF O h ρ π) T h ρ π _ (if kws.all (fun q => asKV q.1) && decide (kws.length ≤ 15) then VR.ok (.dct (mrgV [] kws)) π1 else VR.bad)
    by_cases c : (kws.all (fun q => asKV q.1) && decide (kws.length ≤ 15)) = true
    · rw [if_pos c]
      rw [Bool.and_eq_true] at c
      obtain ⟨c1, c2⟩ := keysOk_rel k1.ht rk c.1
      have nhd : ¬ Hd O ρ π h.nx := fun d => Nat.lt_irrefl _ (s.hlt d)
      obtain ⟨u1, g1⟩ := k1.fr h.nx (by rw [MH.new_nx]; omega) t.nx nhd
      have g2 : h1.get h.nx = some (.dct []) := g1.trans MH.get_new
      have lt : h.nx < h1.nx := MH.get_lt g2
      have nhd1 : ¬ Hd O ρ π1 h.nx := fun d => nhd (k1.hd _ d (by rw [MH.new_nx]; omega))
      have kk := k0.trans k1
      refine ⟨.ref h.nx, h1.put h.nx (.dct (mrg [] kvs)), T1, ?_, ⟨kk.ty, fun m v w => ?_, kk.nx, fun n l u d => ?_, ⟨kk.se.ln, kk.se.fz, fun i v oi pi => ?_, kk.se.ds⟩, kk.hd, kk.pa⟩, ?_⟩
      · rw [M.bind_ok e]
        show mAt h.nx _ h1 = _
        rw [mAt_ok g2]
        show ((if keysOk kvs && decide (kvs.length ≤ 15) then (mPut h.nx (.dct (mrg [] kvs))).bind fun _ => M.ret (.ref h.nx) else M.bad : M PV) h1) = _
        rw [if_pos (by rw [c1, c2]; exact c.2)]
        rfl
      · obtain ⟨o, g, b⟩ := kk.ht m v w
        exact ⟨o, by rw [MH.get_put_ne fun z => by rw [z, u1] at w; cases w]; exact g, b⟩
      · obtain ⟨a, b⟩ := kk.fr n l u d
        exact ⟨a, by rw [MH.get_put_ne (Nat.ne_of_lt l)]; exact b⟩
      · obtain ⟨n, a, w⟩ := kk.se.ow i v oi pi
        obtain ⟨o, g, b⟩ := w.ob
        exact ⟨n, a, w.un, o, by rw [MH.get_put_ne fun z => nhd1 ⟨i, v, oi, pi, by rw [← z]; exact a⟩]; exact g, b⟩
      · exact ⟨h.nx, rfl, .inl (Nat.le_refl _), nhd1, u1, _, MH.get_put lt, .dct (mrg_rel k1.ht rk ⟨.nil, .nil⟩)⟩
    · rw [if_neg c]; exact True.intro
end VX

set_option Elab.async false
set_option linter.all false
set_option maxRecDepth 100000
set_option maxHeartbeats 1000000
namespace VX
open FX
open L2 (atI ixN)
section
variable {α β γ : Type} {a : α} {π π1 : VEnv} {k : α → VM β} {c : Nat} {x v u : VV} {i : Nat}
@[simp] theorem vr_ok : (VR.ok a π).bind k = k a π := rfl
@[simp] theorem vr_exc : (VR.exc c x π : VR α).bind k = .exc c x π := rfl
@[simp] theorem vr_bad : (VR.bad : VR α).bind k = .bad := rfl
@[simp] theorem th_ok {k : α → VS} : vThen (.ok a π) k = k a π := rfl
@[simp] theorem th_exc {k : α → VS} : vThen (.exc c x π : VR α) k = .ok (.xc c x) π := rfl
@[simp] theorem th_bad {k : α → VS} : vThen (.bad : VR α) k = .bad := rfl
@[simp] theorem vr_ite {p : Prop} [Decidable p] {m n : VR α} : (if p then m else n).bind k = if p then m.bind k else n.bind k := by split <;> rfl
@[simp] theorem th_ite {p : Prop} [Decidable p] {m n : VR α} {k : α → VS} : vThen (if p then m else n) k = if p then vThen m k else vThen n k := by split <;> rfl
theorem vr_assoc {m : VR α} {k : α → VM β} {l : β → VM γ} : (m.bind k).bind l = m.bind fun a π => (k a π).bind l := by cases m <;> rfl
@[simp] theorem e_var : vVar i π = (match π[i]? with
  | some (some v) => .ok v π
  | _ => .bad) := rfl
@[simp] theorem e_c : vC v π = .ok v π := rfl
@[simp] theorem e_mv : vMv i π = (match π[i]? with
  | some (some v) => .ok v (π.set i none)
  | _ => .bad) := rfl
@[simp] theorem a_nil : vNil π = .ok [] π := rfl
@[simp] theorem a_cons {a : VE} {r : VA} : vCons a r π = (a π).bind fun v π1 => (r π1).bind fun as π2 => .ok (.v v :: as) π2 := rfl
@[simp] theorem a_sl {r : VA} : vSl i r π = (match π[i]? with
  | some (some _) => (r π).bind fun as π2 => .ok (.s i :: as) π2
  | _ => .bad) := rfl
@[simp] theorem a_star {a : VE} {r : VA} : vStar a r π = (a π).bind fun v π1 => (match seqV v with
  | some us => (r π1).bind fun as π2 => .ok (us.map .v ++ as) π2
  | none => .bad) := rfl
@[simp] theorem d_nil : derefA π [] = some [] := rfl
@[simp] theorem d_v {as : List VArg} : derefA π (.v x :: as) = (derefA π as).map (x :: ·) := rfl
@[simp] theorem d_s {as : List VArg} : derefA π (.s i :: as) = (match π[i]? with
    | some (some x) => (derefA π as).map (x :: ·)
    | _ => none) := rfl
@[simp] theorem d_vs {as : List VArg} : ∀ {us : List VV}, derefA π (us.map .v ++ as) = (derefA π as).map (us ++ ·)
  | [] => by cases h : derefA π as <;> simp [h]
  | u :: us => by
    show (derefA π (us.map VArg.v ++ as)).map _ = _
    rw [d_vs (us := us)]
    cases derefA π as <;> rfl
@[simp] theorem pe_ok : prE π (.ok v) = .ok v π := rfl
@[simp] theorem pe_nw : prE π (.nw v) = .ok v π := rfl
@[simp] theorem pe_exc : prE π (.exc c v) = .exc c v π := rfl
@[simp] theorem pe_bad : prE π .bad = .bad := rfl
@[simp] theorem po_nw : prO π (.nw v) = .ok v π := rfl
@[simp] theorem po_ok : prO π (.ok v) = .bad := rfl
@[simp] theorem po_bad : prO π .bad = .bad := rfl
@[simp] theorem pe_ite {p : Prop} [Decidable p] {m n : PR} : prE π (if p then m else n) = if p then prE π m else prE π n := by split <;> rfl
@[simp] theorem po_ite {p : Prop} [Decidable p] {m n : PR} : prO π (if p then m else n) = if p then prO π m else prO π n := by split <;> rfl
@[simp] theorem e_app {q : QF} {ga : VA} : vApp q ga π = (ga π).bind fun as π1 => (match derefA π1 as with
  | none => .bad
  | some vs => prE π1 (q vs)) := rfl
@[simp] theorem e_apo {q : QF} {ga : VA} : vApO q ga π = (ga π).bind fun as π1 => (match derefA π1 as with
  | none => .bad
  | some vs => prO π1 (q vs)) := rfl
@[simp] theorem fr_nil : vFr [] = true := rfl
@[simp] theorem fr_v {as : List VArg} : vFr (.v x :: as) = vFr as := rfl
@[simp] theorem fr_s {as : List VArg} : vFr (.s i :: as) = false := rfl
@[simp] theorem fr_vs {as : List VArg} : ∀ {us : List VV}, vFr (us.map .v ++ as) = vFr as
  | [] => rfl
  | _ :: us => fr_vs (us := us)
@[simp] theorem e_tk {q : QF} {ga : VA} : vTk q ga π = (ga π).bind fun as π1 => (if vFr as then (match derefA π1 as with
  | none => .bad
  | some vs => prE π1 (q vs)) else .bad) := rfl
@[simp] theorem e_tko {q : QF} {ga : VA} : vTkO q ga π = (ga π).bind fun as π1 => (if vFr as then (match derefA π1 as with
  | none => .bad
  | some vs => prO π1 (q vs)) else .bad) := rfl
@[simp] theorem t_of {a : VE} : vOf a π = (a π).bind vTru := rfl
@[simp] theorem t_cm {a : VE} : vCm a π = (a π).bind vAsB := rfl
@[simp] theorem t_asb {b : Bool} : vAsB (.bl b) π = .ok b π := rfl
@[simp] theorem t_trub {b : Bool} : vTru (.bl b) π = .ok b π := rfl
@[simp] theorem t_trut {xs : List VV} : vTru (.tup xs) π = .ok (!xs.isEmpty) π := rfl
@[simp] theorem t_trui {j : Int} : vTru (.int j) π = .ok (j != 0) π := rfl
@[simp] theorem t_trun : vTru .non π = .ok false π := rfl
@[simp] theorem t_trul {xs : List VV} : vTru (.lst xs) π = .ok (!xs.isEmpty) π := rfl
@[simp] theorem t_no {t : VT} : vNo t π = (t π).bind fun b π => .ok (!b) π := rfl
@[simp] theorem t_an {t s : VT} : vAn t s π = (t π).bind fun b π => if b then s π else .ok false π := rfl
@[simp] theorem t_oo {t s : VT} : vOo t s π = (t π).bind fun b π => if b then .ok true π else s π := rfl
@[simp] theorem t_yes : vYes π = .ok true π := rfl
@[simp] theorem e_if {t : VT} {a b : VE} : vIf t a b π = (t π).bind fun k π1 => if k then a π1 else b π1 := rfl
@[simp] theorem e_an {a b : VE} : vAnE a b π = (a π).bind fun v π1 => (vTru v π1).bind fun k π2 => if k then b π2 else .ok v π2 := rfl
@[simp] theorem e_oo {a b : VE} : vOoE a b π = (a π).bind fun v π1 => (vTru v π1).bind fun k π2 => if k then .ok v π2 else b π2 := rfl
@[simp] theorem e_no {a : VE} : vNoE a π = (a π).bind fun v π1 => (vTru v π1).bind fun k π2 => .ok (.bl (!k)) π2 := rfl
@[simp] theorem s_exp {a : VE} : vExp a π = vThen (a π) fun _ π => .ok .nx π := rfl
@[simp] theorem s_ret {a : VE} : vRet a π = vThen (a π) fun v π => .ok (.rt v) π := rfl
@[simp] theorem s_retn : vRetN π = .ok (.rt .non) π := rfl
@[simp] theorem s_pass : vPass π = .ok .nx π := rfl
@[simp] theorem s_brk : vBrk π = .ok .bk π := rfl
@[simp] theorem s_cnt : vCnt π = .ok .ct π := rfl
@[simp] theorem s_nev : vNev π = .bad := rfl
@[simp] theorem s_set {a : VE} : vSet i a π = vThen (a π) fun v π => .ok .nx (π.set i (some v)) := rfl
@[simp] theorem s_par {j : Nat} {a b : VE} : vPar i j a b π = vThen (a π) fun v π1 => vThen (b π1) fun u π2 => .ok .nx ((π2.set i (some v)).set j (some u)) := rfl
@[simp] theorem s_asg {a : VE} {vg : VG} : vAsg a vg π = vThen (a π) fun v π1 => (match vg v π1 with
  | some π2 => .ok .nx π2
  | none => .bad) := rfl
@[simp] theorem s_if {t : VT} {a b : VS} : vIfS t a b π = vThen (t π) fun k π1 => if k then a π1 else b π1 := rfl
/-- what follows a statement -/
def seqK (r : VR VO) (b : VS) : VR VO := match r with
  | .ok .nx π1 => b π1
  | r => r
@[simp] theorem s_seq {a b : VS} : vSeq a b π = seqK (a π) b := rfl
@[simp] theorem sk_nx {b : VS} : seqK (.ok .nx π) b = b π := rfl
@[simp] theorem sk_rt {b : VS} : seqK (.ok (.rt v) π) b = .ok (.rt v) π := rfl
@[simp] theorem sk_xc {b : VS} : seqK (.ok (.xc c v) π) b = .ok (.xc c v) π := rfl
@[simp] theorem sk_bk {b : VS} : seqK (.ok .bk π) b = .ok .bk π := rfl
@[simp] theorem sk_ct {b : VS} : seqK (.ok .ct π) b = .ok .ct π := rfl
@[simp] theorem sk_bad {b : VS} : seqK .bad b = .bad := rfl
@[simp] theorem sk_ite {p : Prop} [Decidable p] {m n : VR VO} {b : VS} : seqK (if p then m else n) b = if p then seqK m b else seqK n b := by split <;> rfl
@[simp] theorem sk_assoc {r : VR VO} {b d : VS} : seqK (seqK r b) d = seqK r fun π => seqK (b π) d := by
  cases r with
  | ok o π => cases o <;> rfl
  | exc _ _ _ => rfl
  | bad => rfl
@[simp] theorem g_set : gvSet i v π = some (π.set i (some v)) := rfl
@[simp] theorem g_tup {n : Nat} {gs : List VG} {vs : List VV} : gvTup n gs (.tup vs) π = if vs.length = n then gvAll gs vs π else none := rfl
@[simp] theorem g_all0 : gvAll [] [] π = some π := rfl
@[simp] theorem g_all1 {g : VG} {gs : List VG} {vs : List VV} : gvAll (g :: gs) (v :: vs) π = (g v π).bind fun π' => gvAll gs vs π' := rfl
/-- how a turn goes on -/
def turnK (r : VR VO) (b : VS) : VR VO := match r with
  | .ok .nx π2 => b π2
  | .ok .ct π2 => b π2
  | .ok .bk π2 => .ok .nx π2
  | r => r
@[simp] theorem tk_nx {b : VS} : turnK (.ok .nx π) b = b π := rfl
@[simp] theorem tk_ct {b : VS} : turnK (.ok .ct π) b = b π := rfl
@[simp] theorem tk_bk {b : VS} : turnK (.ok .bk π) b = .ok .nx π := rfl
@[simp] theorem tk_rt {b : VS} : turnK (.ok (.rt v) π) b = .ok (.rt v) π := rfl
@[simp] theorem tk_xc {b : VS} : turnK (.ok (.xc c v) π) b = .ok (.xc c v) π := rfl
@[simp] theorem tk_bad {b : VS} : turnK .bad b = .bad := rfl
@[simp] theorem tk_ite {p : Prop} [Decidable p] {m n : VR VO} {b : VS} : turnK (if p then m else n) b = if p then turnK m b else turnK n b := by split <;> rfl
theorem for_nil {vg : VG} {b : VS} : vForN vg b [] π = .ok .nx π := rfl
theorem for_cons {vg : VG} {b : VS} {vs : List VV} : vForN vg b (v :: vs) π = (match vg v π with
    | none => .bad
    | some π1 => turnK (b π1) (vForN vg b vs)) := by
  unfold vForN turnK
  cases vg v π with
  | none => rfl
  | some π1 =>
    first
      | rfl
      | (dsimp only
         cases b π1 with
         | ok o π2 => cases o <;> cases vs <;> rfl
         | _ => rfl)
@[simp] theorem s_for {it : VI} {vg : VG} {b : VS} : vFor it vg b π = vThen (it π) fun vs π1 => vForN vg b vs π1 := rfl
/-- a for by what stands behind each item -/
theorem for_inv {vg : VG} {b : VS} (I : Nat → VEnv → Prop) {Q : VR VO → Prop} {all : List VV} (step : ∀ (j : Nat) (v : VV) (π : VEnv), all[j]? = some v → I j π → (∃ π1, vg v π = some π1 ∧ (∃ π2, (b π1 = .ok .nx π2 ∨ b π1 = .ok .ct π2) ∧ I (j + 1) π2)) ∨ (∃ π1, vg v π = some π1 ∧ ((∃ π2, b π1 = .ok .bk π2 ∧ Q (.ok .nx π2)) ∨ ∃ v2 π2, b π1 = .ok (.rt v2) π2 ∧ Q (.ok (.rt v2) π2)))) (last : ∀ π, I all.length π → Q (.ok .nx π)) :
    ∀ (vs : List VV) (j : Nat) (π : VEnv), vs = all.drop j → j ≤ all.length → I j π → Q (vForN vg b vs π)
  | [], j, π, hv, hj, p => by
    have := congrArg List.length hv
    rw [List.length_drop] at this
    simp at this
    have e : j = all.length := by omega
    subst e
    exact last π p
  | v :: vs, j, π, hv, hj, p => by
    have hi : all[j]? = some v := by
      have := congrArg (fun l => l[0]?) hv
      simpa using this.symm
    have hn : vs = all.drop (j + 1) := by
      have := congrArg List.tail hv
      simpa using this
    have hl : j < all.length := (List.getElem?_eq_some_iff.mp hi).1
    rw [for_cons]
    rcases step j v π hi p with ⟨π1, e1, π2, e2, q⟩ | ⟨π1, e1, q⟩
    · rw [e1]
      have ih := for_inv I step last vs (j + 1) π2 hn hl q
      rcases e2 with e2 | e2 <;> (dsimp only; rw [e2]; exact ih)
    · rw [e1]
      rcases q with ⟨π2, e2, q⟩ | ⟨v2, π2, e2, q⟩ <;> (dsimp only; rw [e2]; exact q)
@[simp] theorem ck_fu {vs : List VV} : ckFu vs π = if vs.length < fuel then .ok vs π else .bad := rfl
@[simp] theorem i_seq {a : VE} : vSeqI a π = (a π).bind fun v π1 => (match seqV v with
  | some us => ckFu us π1
  | none => .bad) := rfl
@[simp] theorem i_enu {a : VE} : vEnu a π = (a π).bind fun v π1 => (match seqV v with
  | some us => ckFu (enumV 0 us) π1
  | none => .bad) := rfl
@[simp] theorem sv_tup {xs : List VV} : seqV (.tup xs) = some xs := rfl
@[simp] theorem sv_lst {xs : List VV} : seqV (.lst xs) = some xs := rfl
@[simp] theorem sv_kl {xs : List VV} : seqV (.kl xs) = some xs := rfl
@[simp] theorem e_lc {it : VI} {is : List Nat} {vg : VG} {t : VT} {e : VE} : vLc it is vg t e π = (it π).bind fun vs π1 => (match vCompN is vg t e vs (wipeV π1 is) with
  | .ok ys π2 => if ys.length ≤ 10000000 then .ok (.lst ys) (restV π1 is π2) else .bad
  | _ => .bad) := rfl
@[simp] theorem e_call {ms : List Bool} {G : GV} {ga : VA} : vCall ms G ga π = (ga π).bind fun as π1 => vFin G as ms π1 := rfl
theorem v_def {fr : Bool} {n m : Nat} {ps : List Nat} {dvs : List VV} {g : VS} {vs : List VV} (h : vs.length = m) : vDef fr n m ps dvs g vs = vRes fr ps (g (vStart n (vs ++ dvs))) := by unfold vDef; rw [if_pos h]
@[simp] theorem r_nx {ps : List Nat} : vRes false ps (.ok .nx π) = vEnd ps .non π := rfl
@[simp] theorem r_rt {fr : Bool} {ps : List Nat} : vRes fr ps (.ok (.rt v) π) = vEnd ps v π := rfl
@[simp] theorem r_ite {fr : Bool} {ps : List Nat} {p : Prop} [Decidable p] {m n : VR VO} : vRes fr ps (if p then m else n) = if p then vRes fr ps m else vRes fr ps n := by split <;> rfl
@[simp] theorem r_bad {fr : Bool} {ps : List Nat} : vRes fr ps .bad = .bad := rfl
@[simp] theorem en_nil : vEnd [] v π = .ok v [] := rfl
@[simp] theorem ps_nil {k : Nat} : psOf [] k = [] := rfl
@[simp] theorem ps_t {k : Nat} {ms : List Bool} : psOf (true :: ms) k = k :: psOf ms (k + 1) := rfl
@[simp] theorem ps_f {k : Nat} {ms : List Bool} : psOf (false :: ms) k = psOf ms (k + 1) := rfl
@[simp] theorem st_eq {n : Nat} {vs : List VV} : vStart n vs = vs.map some ++ List.replicate (n - vs.length) none := rfl
/-- the end of a call without slots -/
theorem fin0 {G : GV} {as : List VArg} {ms : List Bool} {vs : List VV} (h : ckM ms as = true) (s : slotsA as = []) (d : derefA π as = some vs) : vFin G as ms π = (match G vs with
    | .ok v _ => .ok v π
    | .exc c v _ => .exc c v π
    | .bad => .bad) := by
  unfold vFin
  rw [h, s, d]
  have : (true && nodupN []) = true := rfl
  rw [if_pos this]
  dsimp only
  cases G vs <;> rfl
end
end VX

set_option Elab.async false
set_option linter.all false
set_option maxRecDepth 100000
set_option maxHeartbeats 1000000
namespace VX
open FX
theorem repl_ints {T : Ty} : ∀ ns : List Int, RepL T (ns.map PV.int) (ns.map VV.int)
  | [] => .nil
  | _ :: ns => .cons .int (repl_ints ns)
theorem law_end {n : Nat} {s : SF} {G : GV} (rf : RF [false] false (defB n 1 [] s) G) (ns : List Int) (a : Nat) {outs : List VV} (e : G [.kl (ns.map .int)] = .ok (.bl true) outs) : ∃ h', runB n s [.kl a (ns.map PV.int)] mh0 = .ok (.bl true) h' := by
  have q := rf (fun _ => none) mh0 [.kl a (ns.map PV.int)] [.kl (ns.map .int)] (fun _ _ z => by cases z) (.v (.kl (repl_ints ns)) .nil) (by simp [hdl])
  rw [e] at q
  obtain ⟨x, h', T', e1, k, r⟩ := q
  have e2 : defB n 1 [] s [.kl a (ns.map PV.int)] mh0 = runB n s [.kl a (ns.map PV.int)] mh0 := by
    show (if 1 = 1 then runB n s ([PV.kl a (ns.map PV.int)] ++ []) else M.bad) mh0 = _
    rw [if_pos rfl, List.append_nil]
  rw [e2] at e1
  have hx : x = .bl true := by
    have r' : RepT T' x (.bl true) := by first | exact r | exact r.1
    exact rb_bl k.ht (.inl r')
  rw [hx] at e1
  exact ⟨h', e1⟩
end VX

set_option Elab.async false
set_option linter.all false
set_option maxRecDepth 100000
set_option maxHeartbeats 4000000
namespace VX
open FX
def O__law_made : Ow := fun i => match i with
  | 1 => .ow
  | _ => .fz
def g__law_made : VS := vSeq (vSet 1 (vTkO qLst (vCons (vTkO (qExo 1) (vCons (vVar 0) (vNil))) (vCons (vTkO (qExo 2) (vCons (vVar 0) (vNil))) (vCons (vTkO (qExo 3) (vCons (vVar 0) (vNil))) (vCons (vTkO (qExo 4) (vCons (vVar 0) (vNil))) (vCons (vTkO (qExo 5) (vCons (vVar 0) (vNil))) (vCons (vTkO (qExo 6) (vCons (vVar 0) (vNil))) (vNil))))))))) (vSeq (vExp (vMt false isLstV qmExt 1 (vCons (vTkO qLst (vCons (vTkO (qExo 7) (vCons (vVar 0) (vNil))) (vCons (vTkO (qExo 8) (vCons (vVar 0) (vNil))) (vCons (vTkO (qExo 9) (vCons (vVar 0) (vNil))) (vNil))))) (vNil)))) (vSeq (vExp (vMt false isLstV qmExt 1 (vCons (vTkO qLst (vCons (vTkO (qExo 10) (vCons (vVar 0) (vNil))) (vCons (vTkO (qExo 11) (vCons (vVar 0) (vNil))) (vCons (vTkO (qExo 12) (vCons (vVar 0) (vNil))) (vNil))))) (vNil)))) (vSeq (vExp (vMt false isLstV qmExt 1 (vCons (vTkO qLst (vCons (vTkO (qExo 13) (vCons (vVar 0) (vNil))) (vCons (vTkO (qExo 14) (vCons (vVar 0) (vNil))) (vCons (vTkO (qExo 15) (vCons (vVar 0) (vNil))) (vNil))))) (vNil)))) (vSeq (vExp (vMt false isLstV qmExt 1 (vCons (vTkO qLst (vCons (vTkO (qExo 16) (vCons (vVar 0) (vNil))) (vCons (vTkO (qExo 17) (vCons (vVar 0) (vNil))) (vCons (vTkO (qExo 18) (vCons (vVar 0) (vNil))) (vNil))))) (vNil)))) (vSeq (vExp (vMt false isLstV qmExt 1 (vCons (vTkO qLst (vCons (vTkO (qExo 19) (vCons (vVar 0) (vNil))) (vCons (vTkO (qExo 20) (vCons (vVar 0) (vNil))) (vCons (vTkO (qExo 21) (vCons (vVar 0) (vNil))) (vNil))))) (vNil)))) (vSeq (vExp (vMt false isLstV qmExt 1 (vCons (vTkO qLst (vCons (vTkO (qExo 22) (vCons (vVar 0) (vNil))) (vCons (vTkO (qExo 23) (vCons (vVar 0) (vNil))) (vCons (vTkO (qExo 24) (vCons (vVar 0) (vNil))) (vNil))))) (vNil)))) (vSeq (vExp (vMt false isLstV qmExt 1 (vCons (vTkO qLst (vCons (vTkO (qExo 25) (vCons (vVar 0) (vNil))) (vCons (vTkO (qExo 26) (vCons (vVar 0) (vNil))) (vCons (vTkO (qExo 27) (vCons (vVar 0) (vNil))) (vNil))))) (vNil)))) (vSeq (vExp (vMt false isLstV qmExt 1 (vCons (vTkO qLst (vCons (vTkO (qExo 28) (vCons (vVar 0) (vNil))) (vCons (vTkO (qExo 29) (vCons (vVar 0) (vNil))) (vCons (vTkO (qExo 30) (vCons (vVar 0) (vNil))) (vNil))))) (vNil)))) (vSeq (vExp (vMt false isLstV qmExt 1 (vCons (vTkO qLst (vCons (vTkO (qExo 31) (vCons (vVar 0) (vNil))) (vCons (vTkO (qExo 32) (vCons (vVar 0) (vNil))) (vCons (vTkO (qExo 33) (vCons (vVar 0) (vNil))) (vNil))))) (vNil)))) (vRet (vMv 1)))))))))))
def v__law_made : GV := vDef false 2 1 (psOf [false] 0) [] g__law_made
theorem rf__law_made : RF [false] false F__law_made v__law_made := rf_def (O := O__law_made) (dvs := []) (dxs := [])
    (rs_seq (rs_setO (i := 1) rfl (ro_lst (ra_cons ((ro_tk tk_exo (ra_cons (re_var (i := 0) rfl) ra_nil))).fz (ra_cons ((ro_tk tk_exo (ra_cons (re_var (i := 0) rfl) ra_nil))).fz (ra_cons ((ro_tk tk_exo (ra_cons (re_var (i := 0) rfl) ra_nil))).fz (ra_cons ((ro_tk tk_exo (ra_cons (re_var (i := 0) rfl) ra_nil))).fz (ra_cons ((ro_tk tk_exo (ra_cons (re_var (i := 0) rfl) ra_nil))).fz (ra_cons ((ro_tk tk_exo (ra_cons (re_var (i := 0) rfl) ra_nil))).fz ra_nil))))))))
      (rs_seq (rs_exp (re_mt (i := 1) (by decide) ck_lst mt_ext (ra_cons ((ro_lst (ra_cons ((ro_tk tk_exo (ra_cons (re_var (i := 0) rfl) ra_nil))).fz (ra_cons ((ro_tk tk_exo (ra_cons (re_var (i := 0) rfl) ra_nil))).fz (ra_cons ((ro_tk tk_exo (ra_cons (re_var (i := 0) rfl) ra_nil))).fz ra_nil))))).fz ra_nil)))
      (rs_seq (rs_exp (re_mt (i := 1) (by decide) ck_lst mt_ext (ra_cons ((ro_lst (ra_cons ((ro_tk tk_exo (ra_cons (re_var (i := 0) rfl) ra_nil))).fz (ra_cons ((ro_tk tk_exo (ra_cons (re_var (i := 0) rfl) ra_nil))).fz (ra_cons ((ro_tk tk_exo (ra_cons (re_var (i := 0) rfl) ra_nil))).fz ra_nil))))).fz ra_nil)))
      (rs_seq (rs_exp (re_mt (i := 1) (by decide) ck_lst mt_ext (ra_cons ((ro_lst (ra_cons ((ro_tk tk_exo (ra_cons (re_var (i := 0) rfl) ra_nil))).fz (ra_cons ((ro_tk tk_exo (ra_cons (re_var (i := 0) rfl) ra_nil))).fz (ra_cons ((ro_tk tk_exo (ra_cons (re_var (i := 0) rfl) ra_nil))).fz ra_nil))))).fz ra_nil)))
      (rs_seq (rs_exp (re_mt (i := 1) (by decide) ck_lst mt_ext (ra_cons ((ro_lst (ra_cons ((ro_tk tk_exo (ra_cons (re_var (i := 0) rfl) ra_nil))).fz (ra_cons ((ro_tk tk_exo (ra_cons (re_var (i := 0) rfl) ra_nil))).fz (ra_cons ((ro_tk tk_exo (ra_cons (re_var (i := 0) rfl) ra_nil))).fz ra_nil))))).fz ra_nil)))
      (rs_seq (rs_exp (re_mt (i := 1) (by decide) ck_lst mt_ext (ra_cons ((ro_lst (ra_cons ((ro_tk tk_exo (ra_cons (re_var (i := 0) rfl) ra_nil))).fz (ra_cons ((ro_tk tk_exo (ra_cons (re_var (i := 0) rfl) ra_nil))).fz (ra_cons ((ro_tk tk_exo (ra_cons (re_var (i := 0) rfl) ra_nil))).fz ra_nil))))).fz ra_nil)))
      (rs_seq (rs_exp (re_mt (i := 1) (by decide) ck_lst mt_ext (ra_cons ((ro_lst (ra_cons ((ro_tk tk_exo (ra_cons (re_var (i := 0) rfl) ra_nil))).fz (ra_cons ((ro_tk tk_exo (ra_cons (re_var (i := 0) rfl) ra_nil))).fz (ra_cons ((ro_tk tk_exo (ra_cons (re_var (i := 0) rfl) ra_nil))).fz ra_nil))))).fz ra_nil)))
      (rs_seq (rs_exp (re_mt (i := 1) (by decide) ck_lst mt_ext (ra_cons ((ro_lst (ra_cons ((ro_tk tk_exo (ra_cons (re_var (i := 0) rfl) ra_nil))).fz (ra_cons ((ro_tk tk_exo (ra_cons (re_var (i := 0) rfl) ra_nil))).fz (ra_cons ((ro_tk tk_exo (ra_cons (re_var (i := 0) rfl) ra_nil))).fz ra_nil))))).fz ra_nil)))
      (rs_seq (rs_exp (re_mt (i := 1) (by decide) ck_lst mt_ext (ra_cons ((ro_lst (ra_cons ((ro_tk tk_exo (ra_cons (re_var (i := 0) rfl) ra_nil))).fz (ra_cons ((ro_tk tk_exo (ra_cons (re_var (i := 0) rfl) ra_nil))).fz (ra_cons ((ro_tk tk_exo (ra_cons (re_var (i := 0) rfl) ra_nil))).fz ra_nil))))).fz ra_nil)))
      (rs_seq (rs_exp (re_mt (i := 1) (by decide) ck_lst mt_ext (ra_cons ((ro_lst (ra_cons ((ro_tk tk_exo (ra_cons (re_var (i := 0) rfl) ra_nil))).fz (ra_cons ((ro_tk tk_exo (ra_cons (re_var (i := 0) rfl) ra_nil))).fz (ra_cons ((ro_tk tk_exo (ra_cons (re_var (i := 0) rfl) ra_nil))).fz ra_nil))))).fz ra_nil)))
      (rs_ret ((ro_mv (i := 1) rfl)).fz)))))))))))
    (by exact ⟨rfl, True.intro⟩) (fun i h1 h2 => absurd h2 (by simp; omega)) (fun _ => .nil)
def O__law_marked : Ow := fun i => match i with
  | 1 => .ow
  | _ => .fz
def g__law_marked : VS := vSeq (vSet 1 (vTkO qLst (vCons (vApp (qIsi ti_BadMarks) (vCons (vVar 0) (vNil))) (vCons (vApp (qIsi ti_BadWires) (vCons (vVar 0) (vNil))) (vCons (vApp (qIsi ti_OtherWires) (vCons (vVar 0) (vNil))) (vNil)))))) (vSeq (vExp (vMt false isLstV qmExt 1 (vCons (vTkO qLst (vCons (vApp (qIsi ti_BadBook) (vCons (vVar 0) (vNil))) (vCons (vApp (qIsi ti_NoKind) (vCons (vVar 0) (vNil))) (vCons (vApp (qIsi ti_NoLine) (vCons (vVar 0) (vNil))) (vNil))))) (vNil)))) (vSeq (vExp (vMt false isLstV qmExt 1 (vCons (vTkO qLst (vCons (vApp (qIsi ti_BadChange) (vCons (vVar 0) (vNil))) (vCons (vApp (qIsi ti_BadPosition) (vCons (vVar 0) (vNil))) (vCons (vApp (qIsi ti_BadStanding) (vCons (vVar 0) (vNil))) (vNil))))) (vNil)))) (vSeq (vExp (vMt false isLstV qmExt 1 (vCons (vTkO qLst (vCons (vApp (qIsi ti_BadLandings) (vCons (vVar 0) (vNil))) (vCons (vApp (qIsi ti_NoLanding) (vCons (vVar 0) (vNil))) (vCons (vApp (qIsi ti_NoLamp) (vCons (vVar 0) (vNil))) (vNil))))) (vNil)))) (vSeq (vExp (vMt false isLstV qmExt 1 (vCons (vTkO qLst (vCons (vApp (qIsi ti_BadPlace) (vCons (vVar 0) (vNil))) (vCons (vApp (qIsi ti_NoSwitch) (vCons (vVar 0) (vNil))) (vCons (vApp (qIsi ti_BadWhat) (vCons (vVar 0) (vNil))) (vNil))))) (vNil)))) (vSeq (vExp (vMt false isLstV qmExt 1 (vCons (vTkO qLst (vCons (vApp (qIsi ti_BadSwitch) (vCons (vVar 0) (vNil))) (vCons (vApp (qIsi ti_BadLamp) (vCons (vVar 0) (vNil))) (vCons (vApp (qIsi ti_TooMany) (vCons (vVar 0) (vNil))) (vNil))))) (vNil)))) (vSeq (vExp (vMt false isLstV qmExt 1 (vCons (vTkO qLst (vCons (vApp (qIsi ti_BadRule) (vCons (vVar 0) (vNil))) (vCons (vApp (qIsi ti_Unlike) (vCons (vVar 0) (vNil))) (vCons (vApp (qIsi ti_BadBooks) (vCons (vVar 0) (vNil))) (vNil))))) (vNil)))) (vSeq (vExp (vMt false isLstV qmExt 1 (vCons (vTkO qLst (vCons (vApp (qIsi ti_BadTrials) (vCons (vVar 0) (vNil))) (vCons (vApp (qIsi ti_BadKinds) (vCons (vVar 0) (vNil))) (vCons (vApp (qIsi ti_BadWord) (vCons (vVar 0) (vNil))) (vNil))))) (vNil)))) (vSeq (vExp (vMt false isLstV qmExt 1 (vCons (vTkO qLst (vCons (vApp (qIsi ti_BadOffers) (vCons (vVar 0) (vNil))) (vCons (vApp (qIsi ti_BadWishes) (vCons (vVar 0) (vNil))) (vCons (vApp (qIsi ti_NoRoom) (vCons (vVar 0) (vNil))) (vNil))))) (vNil)))) (vSeq (vExp (vMt false isLstV qmExt 1 (vCons (vTkO qLst (vCons (vApp (qIsi ti_Empty) (vCons (vVar 0) (vNil))) (vCons (vApp (qIsi ti_NothingToUndo) (vCons (vVar 0) (vNil))) (vCons (vApp (qIsi ti_NothingToRedo) (vCons (vVar 0) (vNil))) (vNil))))) (vNil)))) (vSeq (vExp (vMt false isLstV qmExt 1 (vCons (vTkO qLst (vCons (vApp (qIsi ti_NoTrial) (vCons (vVar 0) (vNil))) (vCons (vApp (qIsi ti_BadJournal) (vCons (vVar 0) (vNil))) (vCons (vApp (qIsi ti_BadSay) (vCons (vVar 0) (vNil))) (vNil))))) (vNil)))) (vRet (vMv 1))))))))))))
def v__law_marked : GV := vDef false 2 1 (psOf [false] 0) [] g__law_marked
theorem rf__law_marked : RF [false] false F__law_marked v__law_marked := rf_def (O := O__law_marked) (dvs := []) (dxs := [])
    (rs_seq (rs_setO (i := 1) rfl (ro_lst (ra_cons (re_un op_isi (ra_cons (re_var (i := 0) rfl) ra_nil)) (ra_cons (re_un op_isi (ra_cons (re_var (i := 0) rfl) ra_nil)) (ra_cons (re_un op_isi (ra_cons (re_var (i := 0) rfl) ra_nil)) ra_nil)))))
      (rs_seq (rs_exp (re_mt (i := 1) (by decide) ck_lst mt_ext (ra_cons ((ro_lst (ra_cons (re_un op_isi (ra_cons (re_var (i := 0) rfl) ra_nil)) (ra_cons (re_un op_isi (ra_cons (re_var (i := 0) rfl) ra_nil)) (ra_cons (re_un op_isi (ra_cons (re_var (i := 0) rfl) ra_nil)) ra_nil))))).fz ra_nil)))
      (rs_seq (rs_exp (re_mt (i := 1) (by decide) ck_lst mt_ext (ra_cons ((ro_lst (ra_cons (re_un op_isi (ra_cons (re_var (i := 0) rfl) ra_nil)) (ra_cons (re_un op_isi (ra_cons (re_var (i := 0) rfl) ra_nil)) (ra_cons (re_un op_isi (ra_cons (re_var (i := 0) rfl) ra_nil)) ra_nil))))).fz ra_nil)))
      (rs_seq (rs_exp (re_mt (i := 1) (by decide) ck_lst mt_ext (ra_cons ((ro_lst (ra_cons (re_un op_isi (ra_cons (re_var (i := 0) rfl) ra_nil)) (ra_cons (re_un op_isi (ra_cons (re_var (i := 0) rfl) ra_nil)) (ra_cons (re_un op_isi (ra_cons (re_var (i := 0) rfl) ra_nil)) ra_nil))))).fz ra_nil)))
      (rs_seq (rs_exp (re_mt (i := 1) (by decide) ck_lst mt_ext (ra_cons ((ro_lst (ra_cons (re_un op_isi (ra_cons (re_var (i := 0) rfl) ra_nil)) (ra_cons (re_un op_isi (ra_cons (re_var (i := 0) rfl) ra_nil)) (ra_cons (re_un op_isi (ra_cons (re_var (i := 0) rfl) ra_nil)) ra_nil))))).fz ra_nil)))
      (rs_seq (rs_exp (re_mt (i := 1) (by decide) ck_lst mt_ext (ra_cons ((ro_lst (ra_cons (re_un op_isi (ra_cons (re_var (i := 0) rfl) ra_nil)) (ra_cons (re_un op_isi (ra_cons (re_var (i := 0) rfl) ra_nil)) (ra_cons (re_un op_isi (ra_cons (re_var (i := 0) rfl) ra_nil)) ra_nil))))).fz ra_nil)))
      (rs_seq (rs_exp (re_mt (i := 1) (by decide) ck_lst mt_ext (ra_cons ((ro_lst (ra_cons (re_un op_isi (ra_cons (re_var (i := 0) rfl) ra_nil)) (ra_cons (re_un op_isi (ra_cons (re_var (i := 0) rfl) ra_nil)) (ra_cons (re_un op_isi (ra_cons (re_var (i := 0) rfl) ra_nil)) ra_nil))))).fz ra_nil)))
      (rs_seq (rs_exp (re_mt (i := 1) (by decide) ck_lst mt_ext (ra_cons ((ro_lst (ra_cons (re_un op_isi (ra_cons (re_var (i := 0) rfl) ra_nil)) (ra_cons (re_un op_isi (ra_cons (re_var (i := 0) rfl) ra_nil)) (ra_cons (re_un op_isi (ra_cons (re_var (i := 0) rfl) ra_nil)) ra_nil))))).fz ra_nil)))
      (rs_seq (rs_exp (re_mt (i := 1) (by decide) ck_lst mt_ext (ra_cons ((ro_lst (ra_cons (re_un op_isi (ra_cons (re_var (i := 0) rfl) ra_nil)) (ra_cons (re_un op_isi (ra_cons (re_var (i := 0) rfl) ra_nil)) (ra_cons (re_un op_isi (ra_cons (re_var (i := 0) rfl) ra_nil)) ra_nil))))).fz ra_nil)))
      (rs_seq (rs_exp (re_mt (i := 1) (by decide) ck_lst mt_ext (ra_cons ((ro_lst (ra_cons (re_un op_isi (ra_cons (re_var (i := 0) rfl) ra_nil)) (ra_cons (re_un op_isi (ra_cons (re_var (i := 0) rfl) ra_nil)) (ra_cons (re_un op_isi (ra_cons (re_var (i := 0) rfl) ra_nil)) ra_nil))))).fz ra_nil)))
      (rs_seq (rs_exp (re_mt (i := 1) (by decide) ck_lst mt_ext (ra_cons ((ro_lst (ra_cons (re_un op_isi (ra_cons (re_var (i := 0) rfl) ra_nil)) (ra_cons (re_un op_isi (ra_cons (re_var (i := 0) rfl) ra_nil)) (ra_cons (re_un op_isi (ra_cons (re_var (i := 0) rfl) ra_nil)) ra_nil))))).fz ra_nil)))
      (rs_ret ((ro_mv (i := 1) rfl)).fz))))))))))))
    (by exact ⟨rfl, True.intro⟩) (fun i h1 h2 => absurd h2 (by simp; omega)) (fun _ => .nil)
def O__law_is_kept : Ow := fun i => match i with
  | _ => .fz
def g__law_is_kept : VS := vSeq (vFor (vEnu (vCall [false] v__law_made (vCons (vVar 0) (vNil)))) (gvTup 2 [gvSet 1, gvSet 2]) (vSeq (vIfS (vOo (vCm (vApp qNeD (vCons (vCall [false] v__law_marked (vCons (vVar 2) (vNil))) (vCons (vLc (vRg1 (vC (.int 33))) [3] (gvSet 3) (vYes) (vApp qEqD (vCons (vVar 3) (vCons (vVar 1) (vNil))))) (vNil))))) (vCm (vApp qNeD (vCons (vApp qRepr (vCons (vApp (qVal [0, 1, 2, 3, 4, 5, 6, 7, 8, 9, 10, 11, 12, 13, 14, 15, 16, 17, 18, 19, 20, 21, 22, 23, 24, 25, 26, 27, 28, 29, 30, 31, 32, 33]) (vCons (vVar 2) (vNil))) (vNil))) (vCons (vApp qRepr (vCons (vVar 0) (vNil))) (vNil)))))) (vRet (vC (.bl false))) (vPass)) (vIfS (vOo (vNo (vOf (vApp (qIsi ti_WireError) (vCons (vVar 2) (vNil))))) (vNo (vOf (vApp (qIsi ti_ValueError) (vCons (vVar 2) (vNil)))))) (vRet (vC (.bl false))) (vPass)))) (vSeq (vSet 4 (vTkO (qExo 0) (vCons (vVar 0) (vNil)))) (vSeq (vIfS (vOo (vCm (vApp qNeD (vCons (vApp qRepr (vCons (vApp (qVal [0, 1, 2, 3, 4, 5, 6, 7, 8, 9, 10, 11, 12, 13, 14, 15, 16, 17, 18, 19, 20, 21, 22, 23, 24, 25, 26, 27, 28, 29, 30, 31, 32, 33]) (vCons (vVar 4) (vNil))) (vNil))) (vCons (vApp qRepr (vCons (vVar 0) (vNil))) (vNil))))) (vOo (vCm (vApp (qInS false) (vCons (vC (.bl true)) (vCons (vCall [false] v__law_marked (vCons (vVar 4) (vNil))) (vNil))))) (vNo (vOf (vApp (qIsi ti_ValueError) (vCons (vVar 4) (vNil))))))) (vRet (vC (.bl false))) (vPass)) (vRet (vApp (qInS true) (vCons (vC (.bl true)) (vCons (vCall [false] v__law_marked (vCons (vTkO (qBxo "ValueError") (vCons (vVar 0) (vNil))) (vNil))) (vNil)))))))
def v__law_is_kept : GV := vDef false 5 1 (psOf [false] 0) [] g__law_is_kept
theorem rf__law_is_kept : RF [false] false F__law_is_kept v__law_is_kept := rf_def (O := O__law_is_kept) (dvs := []) (dxs := [])
    (rs_seq (rs_for (is := [1, 2]) (ri_enu (re_call rf__law_made (ra_cons (re_var (i := 0) rfl) ra_nil))) (rg_tup (.cons (rg_set (i := 1) (by decide) rfl) (.cons (rg_set (i := 2) (by decide) rfl) .nil))) (rs_seq (rs_if (rt_oo (rt_cm (re_op op_neD (ra_cons (re_call rf__law_marked (ra_cons (re_var (i := 2) rfl) ra_nil)) (ra_cons ((ro_lc (is := [3]) (by decide) (ri_rg1 (re_c fun _ => .int)) (rg_set (i := 3) (by decide) rfl) rt_yes (re_op op_eqD (ra_cons (re_var (i := 3) rfl) (ra_cons (re_var (i := 1) rfl) ra_nil))))).fz ra_nil)))) (rt_cm (re_op op_neD (ra_cons (re_app op_repr (ra_cons (re_un op_val (ra_cons (re_var (i := 2) rfl) ra_nil)) ra_nil)) (ra_cons (re_app op_repr (ra_cons (re_var (i := 0) rfl) ra_nil)) ra_nil))))) (rs_ret (re_c fun _ => .bl)) rs_pass)
      (rs_if (rt_oo (rt_no (rt_of (re_un op_isi (ra_cons (re_var (i := 2) rfl) ra_nil)))) (rt_no (rt_of (re_un op_isi (ra_cons (re_var (i := 2) rfl) ra_nil))))) (rs_ret (re_c fun _ => .bl)) rs_pass)))
      (rs_seq (rs_set (i := 4) rfl ((ro_tk tk_exo (ra_cons (re_var (i := 0) rfl) ra_nil))).fz)
      (rs_seq (rs_if (rt_oo (rt_cm (re_op op_neD (ra_cons (re_app op_repr (ra_cons (re_un op_val (ra_cons (re_var (i := 4) rfl) ra_nil)) ra_nil)) (ra_cons (re_app op_repr (ra_cons (re_var (i := 0) rfl) ra_nil)) ra_nil)))) (rt_oo (rt_cm (re_op op_inS (ra_cons (re_c fun _ => .bl) (ra_cons (re_call rf__law_marked (ra_cons (re_var (i := 4) rfl) ra_nil)) ra_nil)))) (rt_no (rt_of (re_un op_isi (ra_cons (re_var (i := 4) rfl) ra_nil)))))) (rs_ret (re_c fun _ => .bl)) rs_pass)
      (rs_ret (re_op op_inS (ra_cons (re_c fun _ => .bl) (ra_cons (re_call rf__law_marked (ra_cons ((ro_tk tk_bxo (ra_cons (re_var (i := 0) rfl) ra_nil))).fz ra_nil)) ra_nil)))))))
    (by exact ⟨rfl, True.intro⟩) (fun i h1 h2 => absurd h2 (by simp; omega)) (fun _ => .nil)
def O_law : Ow := fun i => match i with
  | _ => .fz
def g_law : VS := vSeq (vSet 1 (vApp qMod (vCons (vApp qInt (vCons (vIf (vCm (vApp qNeD (vCons (vVar 0) (vCons (vTkO qLst (vNil)) (vNil))))) (vApp qIx (vCons (vVar 0) (vCons (vC (.int 0)) (vNil)))) (vC (.int 0))) (vNil))) (vCons (vApp qPow (vCons (vC (.int 10)) (vCons (vC (.int 9)) (vNil)))) (vNil))))) (vSeq (vSet 2 (vTkO qLst (vCons (vC .non) (vCons (vVar 1) (vCons (vApp qNeg (vCons (vVar 1) (vNil))) (vCons (vC (.bl true)) (vCons (vApp qAdd (vCons (vC (.str [116, 101, 120, 116, 32])) (vCons (vApp qStr (vCons (vVar 1) (vNil))) (vNil)))) (vCons (vTk qTup (vCons (vVar 1) (vCons (vC (.str [97])) (vNil)))) (vCons (vTkO qLst (vCons (vVar 1) (vNil))) (vCons (vDsp [(vC (.str [97]), vVar 1)]) (vCons (vTk qTup (vNil)) (vCons (vTk qTup (vCons (vTk qTup (vCons (vVar 1) (vCons (vC .non) (vNil)))) (vCons (vTkO qLst (vNil)) (vNil)))) (vNil))))))))))))) (vRet (vApp qAll (vCons (vLc (vSeqI (vVar 2)) [3] (gvSet 3) (vYes) (vCall [false] v__law_is_kept (vCons (vVar 3) (vNil)))) (vNil)))))
def v_law : GV := vDef false 4 1 (psOf [false] 0) [] g_law
theorem rf_law : RF [false] false F_law v_law := rf_def (O := O_law) (dvs := []) (dxs := [])
    (rs_seq (rs_set (i := 1) rfl (re_op op_mod (ra_cons (re_app op_int (ra_cons (re_if (rt_cm (re_op op_neD (ra_cons (re_var (i := 0) rfl) (ra_cons ((ro_lst ra_nil)).fz ra_nil)))) (re_op op_ix (ra_cons (re_var (i := 0) rfl) (ra_cons (re_c fun _ => .int) ra_nil))) (re_c fun _ => .int)) ra_nil)) (ra_cons (re_op op_pow (ra_cons (re_c fun _ => .int) (ra_cons (re_c fun _ => .int) ra_nil))) ra_nil))))
      (rs_seq (rs_set (i := 2) rfl ((ro_lst (ra_cons (re_c fun _ => .non) (ra_cons (re_var (i := 1) rfl) (ra_cons (re_un op_neg (ra_cons (re_var (i := 1) rfl) ra_nil)) (ra_cons (re_c fun _ => .bl) (ra_cons (re_op op_add (ra_cons (re_c fun _ => .str) (ra_cons (re_app op_str (ra_cons (re_var (i := 1) rfl) ra_nil)) ra_nil))) (ra_cons (re_tup (ra_cons (re_var (i := 1) rfl) (ra_cons (re_c fun _ => .str) ra_nil))) (ra_cons ((ro_lst (ra_cons (re_var (i := 1) rfl) ra_nil))).fz (ra_cons ((ro_dsp (.cons (re_c fun _ => .str) (re_var (i := 1) rfl) .nil))).fz (ra_cons (re_tup ra_nil) (ra_cons (re_tup (ra_cons (re_tup (ra_cons (re_var (i := 1) rfl) (ra_cons (re_c fun _ => .non) ra_nil))) (ra_cons ((ro_lst ra_nil)).fz ra_nil))) ra_nil)))))))))))).fz)
      (rs_ret (re_app op_all (ra_cons ((ro_lc (is := [3]) (by decide) (ri_seq (re_var (i := 2) rfl)) (rg_set (i := 3) (by decide) rfl) rt_yes (re_call rf__law_is_kept (ra_cons (re_var (i := 3) rfl) ra_nil)))).fz ra_nil)))))
    (by exact ⟨rfl, True.intro⟩) (fun i h1 h2 => absurd h2 (by simp; omega)) (fun _ => .nil)
end VX

set_option Elab.async false
set_option linter.all false
set_option maxRecDepth 100000
set_option maxHeartbeats 4000000
namespace VX
open FX PySem

def c1 : VT := (vCm (vApp qNeD (vCons (vCall [false] v__law_marked (vCons (vVar 2) (vNil))) (vCons (vLc (vRg1 (vC (.int 33))) [3] (gvSet 3) (vYes) (vApp qEqD (vCons (vVar 3) (vCons (vVar 1) (vNil))))) (vNil)))))
def c2 : VT := (vCm (vApp qNeD (vCons (vApp qRepr (vCons (vApp (qVal [0, 1, 2, 3, 4, 5, 6, 7, 8, 9, 10, 11, 12, 13, 14, 15, 16, 17, 18, 19, 20, 21, 22, 23, 24, 25, 26, 27, 28, 29, 30, 31, 32, 33]) (vCons (vVar 2) (vNil))) (vNil))) (vCons (vApp qRepr (vCons (vVar 0) (vNil))) (vNil)))))
def c3 : VT := (vOo (vNo (vOf (vApp (qIsi ti_WireError) (vCons (vVar 2) (vNil))))) (vNo (vOf (vApp (qIsi ti_ValueError) (vCons (vVar 2) (vNil))))))
def c4 : VT := (vCm (vApp qNeD (vCons (vApp qRepr (vCons (vApp (qVal [0, 1, 2, 3, 4, 5, 6, 7, 8, 9, 10, 11, 12, 13, 14, 15, 16, 17, 18, 19, 20, 21, 22, 23, 24, 25, 26, 27, 28, 29, 30, 31, 32, 33]) (vCons (vVar 4) (vNil))) (vNil))) (vCons (vApp qRepr (vCons (vVar 0) (vNil))) (vNil)))))
def c5 : VT := (vOo (vCm (vApp (qInS false) (vCons (vC (.bl true)) (vCons (vCall [false] v__law_marked (vCons (vVar 4) (vNil))) (vNil))))) (vNo (vOf (vApp (qIsi ti_ValueError) (vCons (vVar 4) (vNil))))))
def it0 : VI := (vEnu (vCall [false] v__law_made (vCons (vVar 0) (vNil))))
def tg0 : VG := (gvTup 2 [gvSet 1, gvSet 2])
def bd0 : VS := vSeq (vIfS (vOo c1 c2) (vRet (vC (.bl false))) vPass) (vIfS c3 (vRet (vC (.bl false))) vPass)
def set4 : VS := (vSet 4 (vTkO (qExo 0) (vCons (vVar 0) (vNil))))
def ret6 : VS := (vRet (vApp (qInS true) (vCons (vC (.bl true)) (vCons (vCall [false] v__law_marked (vCons (vTkO (qBxo "ValueError") (vCons (vVar 0) (vNil))) (vNil))) (vNil)))))
theorem g_eq : g__law_is_kept = vSeq (vFor it0 tg0 bd0) (vSeq set4 (vSeq (vIfS (vOo c4 c5) (vRet (vC (.bl false))) vPass) ret6)) := rfl
def env (v : VV) (i : Nat) : VEnv := [some v, some (.int i), some (.err (i + 1) v), none, none]
theorem c1_ok (v : VV) : ∀ i, i < 33 → c1 (env v i) = .ok false (env v i) := by
  intro i hi
  match i, hi with
  | 0, _ => kernel_rfl
  | 1, _ => kernel_rfl
  | 2, _ => kernel_rfl
  | 3, _ => kernel_rfl
  | 4, _ => kernel_rfl
  | 5, _ => kernel_rfl
  | 6, _ => kernel_rfl
  | 7, _ => kernel_rfl
  | 8, _ => kernel_rfl
  | 9, _ => kernel_rfl
  | 10, _ => kernel_rfl
  | 11, _ => kernel_rfl
  | 12, _ => kernel_rfl
  | 13, _ => kernel_rfl
  | 14, _ => kernel_rfl
  | 15, _ => kernel_rfl
  | 16, _ => kernel_rfl
  | 17, _ => kernel_rfl
  | 18, _ => kernel_rfl
  | 19, _ => kernel_rfl
  | 20, _ => kernel_rfl
  | 21, _ => kernel_rfl
  | 22, _ => kernel_rfl
  | 23, _ => kernel_rfl
  | 24, _ => kernel_rfl
  | 25, _ => kernel_rfl
  | 26, _ => kernel_rfl
  | 27, _ => kernel_rfl
  | 28, _ => kernel_rfl
  | 29, _ => kernel_rfl
  | 30, _ => kernel_rfl
  | 31, _ => kernel_rfl
  | 32, _ => kernel_rfl
  | n + 33, h => exact absurd h (by omega)
theorem c3_ok (v : VV) : ∀ i, i < 33 → c3 (env v i) = .ok false (env v i) := by
  intro i hi
  match i, hi with
  | 0, _ => kernel_rfl
  | 1, _ => kernel_rfl
  | 2, _ => kernel_rfl
  | 3, _ => kernel_rfl
  | 4, _ => kernel_rfl
  | 5, _ => kernel_rfl
  | 6, _ => kernel_rfl
  | 7, _ => kernel_rfl
  | 8, _ => kernel_rfl
  | 9, _ => kernel_rfl
  | 10, _ => kernel_rfl
  | 11, _ => kernel_rfl
  | 12, _ => kernel_rfl
  | 13, _ => kernel_rfl
  | 14, _ => kernel_rfl
  | 15, _ => kernel_rfl
  | 16, _ => kernel_rfl
  | 17, _ => kernel_rfl
  | 18, _ => kernel_rfl
  | 19, _ => kernel_rfl
  | 20, _ => kernel_rfl
  | 21, _ => kernel_rfl
  | 22, _ => kernel_rfl
  | 23, _ => kernel_rfl
  | 24, _ => kernel_rfl
  | 25, _ => kernel_rfl
  | 26, _ => kernel_rfl
  | 27, _ => kernel_rfl
  | 28, _ => kernel_rfl
  | 29, _ => kernel_rfl
  | 30, _ => kernel_rfl
  | 31, _ => kernel_rfl
  | 32, _ => kernel_rfl
  | n + 33, h => exact absurd h (by omega)

def made (v : VV) : List VV := (List.range 33).map fun i => .err (i + 1) v
theorem it_ok (v : VV) : it0 [some v, none, none, none, none] = .ok ((List.range 33).map fun (i : Nat) => VV.tup [.int i, .err (i + 1) v]) [some v, none, none, none, none] := by kernel_rfl


theorem eqL_self (t : List Nat) : eqL t t = true := eqL_iff.mpr rfl
theorem con_ok : ∀ i, i < 33 → ([0, 1, 2, 3, 4, 5, 6, 7, 8, 9, 10, 11, 12, 13, 14, 15, 16, 17, 18, 19, 20, 21, 22, 23, 24, 25, 26, 27, 28, 29, 30, 31, 32, 33] : List Nat).contains (i + 1) = true := by decide
theorem c2_ok (v : VV) {t : List Nat} (hr : qRepr [v] = .ok (.str t)) (i : Nat) (hi : i < 33) : c2 (env v i) = .ok false (env v i) := by
  have hc := con_ok i hi
  have hv : qVal [0, 1, 2, 3, 4, 5, 6, 7, 8, 9, 10, 11, 12, 13, 14, 15, 16, 17, 18, 19, 20, 21, 22, 23, 24, 25, 26, 27, 28, 29, 30, 31, 32, 33] [.err (i + 1) v] = .ok v := if_pos hc
  have hn : qNeD [.str t, .str t] = .ok (.bl false) := by
    show PR.ok (.bl (!eqL t t)) = _
    rw [eqL_self]; rfl
  unfold c2 env
  simp only [t_cm, e_app, a_cons, a_nil, e_var, vr_ok, d_v, d_nil, List.getElem?_cons_succ, List.getElem?_cons_zero, Option.map_some, hv, hr, hn, pe_ok, t_asb]
theorem c4_ok (v : VV) {t : List Nat} (hr : qRepr [v] = .ok (.str t)) (a b : Option VV) : c4 [some v, a, b, none, some (.err 0 v)] = .ok false [some v, a, b, none, some (.err 0 v)] := by
  have hv : qVal [0, 1, 2, 3, 4, 5, 6, 7, 8, 9, 10, 11, 12, 13, 14, 15, 16, 17, 18, 19, 20, 21, 22, 23, 24, 25, 26, 27, 28, 29, 30, 31, 32, 33] [.err 0 v] = .ok v := by kernel_rfl
  have hn : qNeD [.str t, .str t] = .ok (.bl false) := by
    show PR.ok (.bl (!eqL t t)) = _
    rw [eqL_self]; rfl
  unfold c4
  simp only [t_cm, e_app, a_cons, a_nil, e_var, vr_ok, d_v, d_nil, List.getElem?_cons_succ, List.getElem?_cons_zero, Option.map_some, hv, hr, hn, pe_ok, t_asb]
theorem bd_ok (v : VV) {t : List Nat} (hr : qRepr [v] = .ok (.str t)) (i : Nat) (hi : i < 33) : bd0 (env v i) = .ok .nx (env v i) := by
  unfold bd0
  simp only [s_seq, s_if, t_oo, c1_ok v i hi, c2_ok v hr i hi, c3_ok v i hi, vr_ok, th_ok, sk_nx, s_pass, Bool.false_eq_true, if_false]
theorem c5_ok (v : VV) (a b : Option VV) : c5 [some v, a, b, none, some (.err 0 v)] = .ok false [some v, a, b, none, some (.err 0 v)] := by kernel_rfl
theorem set4_ok (v : VV) (a b : Option VV) : set4 [some v, a, b, none, none] = .ok .nx [some v, a, b, none, some (.err 0 v)] := by kernel_rfl
theorem ret6_ok (v : VV) (a b : Option VV) : ret6 [some v, a, b, none, some (.err 0 v)] = .ok (.rt (.bl true)) [some v, a, b, none, some (.err 0 v)] := by kernel_rfl
theorem kept (v : VV) {t : List Nat} (hr : qRepr [v] = .ok (.str t)) : v__law_is_kept [v] = .ok (.bl true) [] := by
  have loop : ∃ a b, vForN tg0 bd0 ((List.range 33).map fun (i : Nat) => VV.tup [.int i, .err (i + 1) v]) [some v, none, none, none, none] = .ok .nx [some v, a, b, none, none] := by
    refine for_inv (all := (List.range 33).map fun (i : Nat) => VV.tup [.int i, .err (i + 1) v]) (I := fun _ π => ∃ a b, π = [some v, a, b, none, none]) (Q := fun r => ∃ a b, r = .ok .nx [some v, a, b, none, none]) (fun j w π hw hI => ?_) (fun π hI => ?_) _ 0 _ rfl (Nat.zero_le _) ⟨none, none, rfl⟩
    · obtain ⟨a, b, rfl⟩ := hI
      rw [List.getElem?_map] at hw
      by_cases hj : j < 33
      · rw [List.getElem?_range hj] at hw
        cases hw
        exact .inl ⟨env v j, rfl, env v j, .inl (bd_ok v hr j hj), _, _, rfl⟩
      · rw [List.getElem?_eq_none (by simp; omega)] at hw
        cases hw
    · obtain ⟨a, b, rfl⟩ := hI
      exact ⟨a, b, rfl⟩
  obtain ⟨a, b, hl⟩ := loop
  have run : g__law_is_kept [some v, none, none, none, none] = .ok (.rt (.bl true)) [some v, a, b, none, some (.err 0 v)] := by
    rw [g_eq]
    simp only [s_seq, s_for, it_ok, th_ok, hl, sk_nx, set4_ok, s_if, t_oo, c4_ok v hr, c5_ok, vr_ok, s_pass, ret6_ok, Bool.false_eq_true, if_false]
  unfold v__law_is_kept
  rw [v_def (m := 1) rfl]
  show vRes false [] (g__law_is_kept [some v, none, none, none, none]) = _
  rw [run]
  rfl
end VX

set_option Elab.async false
set_option linter.all false
set_option maxRecDepth 100000
set_option maxHeartbeats 1000000
namespace VX
open FX PySem
theorem figs_lt : ∀ (f n : Nat) (acc : List Nat), (∀ c ∈ acc, c < 128) → ∀ c ∈ figs f n acc, c < 128
  | 0, _, acc, h => h
  | f + 1, n, acc, h => by
    unfold figs
    by_cases q : Nat.blt n 10 = true
    · rw [if_pos q]
      rw [Nat.blt_eq] at q
      intro c hc
      rcases List.mem_cons.mp hc with rfl | hc
      · omega
      · exact h c hc
    · rw [if_neg q]
      refine figs_lt f _ _ fun c hc => ?_
      rcases List.mem_cons.mp hc with rfl | hc
      · omega
      · exact h c hc
theorem intS_lt (i : Int) : ∀ c ∈ intS i, c < 128 := by
  unfold intS numS
  split
  · intro c hc
    rcases List.mem_cons.mp hc with rfl | hc
    · decide
    · exact figs_lt _ _ _ (fun _ h => absurd h (by simp)) c hc
  · exact figs_lt _ _ _ fun _ h => absurd h (by simp)
theorem intS_len {i : Int} (h : i.natAbs < 10 ^ 12) : (intS i).length ≤ 13 := by
  have := PyData.shown_int_le h
  rw [PyData.shown_int] at this
  have e : ((toString i : String) : Str) = mkS (intS i) := (intS_ok i).symm
  rw [e, len_mkS] at this
  exact this
theorem rep_of {v : VV} {d : PyData} (e : shwV v = some d) (h1 : d.showable = true) (h2 : d.leavesShort 13 = true) (h3 : d.bulk ≤ 2 ^ 20) : ∃ t, qRepr [v] = .ok (.str t) := by
  have hl := PyData.shown_fits_bulk (B := 13) (by decide) (by decide) h2 h3
  have ok : okRp d = true := by
    unfold okRp
    rw [h1, decide_eq_true hl]; rfl
  refine ⟨d.shown.cps.toList, ?_⟩
  unfold qRepr
  dsimp only
  rw [e]
  exact if_pos ok
theorem show_int {i : Int} (h : i.natAbs < 10 ^ 12) : PyData.showable (.int i) = true := by
  have : i.natAbs.log2 < 1920 := by
    by_cases z : i.natAbs = 0
    · rw [z]; decide
    · exact (Nat.log2_lt z).mpr (Nat.lt_of_lt_of_le h (by decide))
  exact decide_eq_true this
theorem short_int {i : Int} (h : i.natAbs < 10 ^ 12) : PyData.leavesShort 13 (.int i) = true := decide_eq_true (PyData.shown_int_le h)

section
variable {c : Int} (hc : c.natAbs < 10 ^ 9)
theorem big {c : Int} (hc : c.natAbs < 10 ^ 9) : c.natAbs < 10 ^ 12 := Nat.lt_trans hc (by decide)
theorem rep_int {c : Int} (hc : c.natAbs < 10 ^ 9) : ∃ t, qRepr [.int c] = .ok (.str t) := rep_of (d := .int c) rfl (show_int (big hc)) (short_int (big hc)) (Nat.zero_le _)
theorem rep_str {c : Int} (hc : c.natAbs < 10 ^ 9) : ∃ t, qRepr [.str ([116, 101, 120, 116, 32] ++ intS c)] = .ok (.str t) := by
  have hl := intS_len (big hc)
  have lt : ∀ d ∈ [116, 101, 120, 116, 32] ++ intS c, d < 128 := fun d hd => by
    rcases List.mem_append.mp hd with h | h
    · exact (show ∀ d ∈ ([116, 101, 120, 116, 32] : List Nat), d < 128 from by decide) d h
    · exact intS_lt c d h
  refine rep_of (d := .str (mkS ([116, 101, 120, 116, 32] ++ intS c))) ?_ rfl ?_ ?_
  · show (if (([116, 101, 120, 116, 32] ++ intS c).all fun c => Nat.blt c 0x110000) = true then some (DV.str _) else none).map toPD = _
    rw [if_pos (List.all_eq_true.mpr fun d hd => by rw [Nat.blt_eq]; exact Nat.lt_trans (lt d hd) (by decide))]
    rfl
  · show ((mkS ([116, 101, 120, 116, 32] ++ intS c)).cps.toList.all fun d => decide (d < 16 ^ 8)) = true
    exact List.all_eq_true.mpr fun d hd => decide_eq_true (Nat.lt_trans (lt d (by simpa [mkS] using hd)) (by decide))
  · show (mkS ([116, 101, 120, 116, 32] ++ intS c)).cps.size ≤ 2 ^ 20
    have : (mkS ([116, 101, 120, 116, 32] ++ intS c)).cps.size = 5 + (intS c).length := by simp [mkS]; omega
    rw [this]
    omega
theorem rep_pair {c : Int} (hc : c.natAbs < 10 ^ 9) : ∃ t, qRepr [.tup [.int c, .str [97]]] = .ok (.str t) := by
  refine rep_of (d := .tuple [.int c, .str (mkS [97])]) rfl ?_ ?_ (show (3 : Nat) ≤ 2 ^ 20 from by decide)
  · show (PyData.showable (.int c) && (PyData.showable (.str (mkS [97])) && true)) = true
    rw [show_int (big hc)]; rfl
  · show (PyData.leavesShort 13 (.int c) && (PyData.leavesShort 13 (.str (mkS [97])) && true)) = true
    rw [short_int (big hc)]; decide +kernel
theorem rep_lst {c : Int} (hc : c.natAbs < 10 ^ 9) : ∃ t, qRepr [.lst [.int c]] = .ok (.str t) := by
  refine rep_of (d := .list [.int c]) rfl ?_ ?_ (show (1 : Nat) ≤ 2 ^ 20 from by decide)
  · show (PyData.showable (.int c) && true) = true
    rw [show_int (big hc)]; rfl
  · show (PyData.leavesShort 13 (.int c) && true) = true
    rw [short_int (big hc)]; rfl
theorem rep_dct {c : Int} (hc : c.natAbs < 10 ^ 9) : ∃ t, qRepr [.dct [(.str [97], .int c)]] = .ok (.str t) := by
  refine rep_of (d := .dict [(.str (mkS [97]), .int c)]) rfl ?_ ?_ (show (3 : Nat) ≤ 2 ^ 20 from by decide)
  · show (PyData.showable (.str (mkS [97])) && PyData.showable (.int c) && true) = true
    rw [show_int (big hc)]; rfl
  · show (PyData.leavesShort 13 (.str (mkS [97])) && PyData.leavesShort 13 (.int c) && true) = true
    rw [short_int (big hc)]; decide +kernel
theorem rep_deep {c : Int} (hc : c.natAbs < 10 ^ 9) : ∃ t, qRepr [.tup [.tup [.int c, .non], .lst []]] = .ok (.str t) := by
  refine rep_of (d := .tuple [.tuple [.int c, .none], .list []]) rfl ?_ ?_ (show (4 : Nat) ≤ 2 ^ 20 from by decide)
  · show ((PyData.showable (.int c) && (true && true)) && (true && true)) = true
    rw [show_int (big hc)]; rfl
  · show ((PyData.leavesShort 13 (.int c) && (true && true)) && (true && true)) = true
    rw [short_int (big hc)]; rfl
theorem rep_c {v : VV} {d : PyData} (e : shwV v = some d) (h : (d.showable && d.leavesShort 13 && decide (d.bulk ≤ 2 ^ 20)) = true) : ∃ t, qRepr [v] = .ok (.str t) := by
  simp only [Bool.and_eq_true, decide_eq_true_eq] at h
  exact rep_of e h.1.1 h.1.2 h.2
end
def some10 (c : Int) : List VV := [.non, .int c, .int (-c), .bl true, .str ([116, 101, 120, 116, 32] ++ intS c), .tup [.int c, .str [97]], .lst [.int c], .dct [(.str [97], .int c)], .tup [], .tup [.tup [.int c, .non], .lst []]]
theorem kept10 {c : Int} (hc : c.natAbs < 10 ^ 9) : ∀ v ∈ some10 c, v__law_is_kept [v] = .ok (.bl true) [] := by
  have hn : (-c).natAbs < 10 ^ 9 := by rw [Int.natAbs_neg]; exact hc
  have k : ∀ v, (∃ t, qRepr [v] = .ok (.str t)) → v__law_is_kept [v] = .ok (.bl true) [] := fun v ⟨t, h⟩ => kept v h
  intro v hv
  unfold some10 at hv
  rcases List.mem_cons.mp hv with rfl | hv
  · exact k _ (rep_c (d := .none) rfl (by decide +kernel))
  rcases List.mem_cons.mp hv with rfl | hv
  · exact k _ (rep_int hc)
  rcases List.mem_cons.mp hv with rfl | hv
  · exact k _ (rep_int hn)
  rcases List.mem_cons.mp hv with rfl | hv
  · exact k _ (rep_c (d := .bool true) rfl (by decide +kernel))
  rcases List.mem_cons.mp hv with rfl | hv
  · exact k _ (rep_str hc)
  rcases List.mem_cons.mp hv with rfl | hv
  · exact k _ (rep_pair hc)
  rcases List.mem_cons.mp hv with rfl | hv
  · exact k _ (rep_lst hc)
  rcases List.mem_cons.mp hv with rfl | hv
  · exact k _ (rep_dct hc)
  rcases List.mem_cons.mp hv with rfl | hv
  · exact k _ (rep_c (d := .tuple []) rfl (by decide +kernel))
  rcases List.mem_cons.mp hv with rfl | hv
  · exact k _ (rep_deep hc)
  cases hv
theorem dat_ints : ∀ (n : Nat) (ns : List Int), allS (datV n) (ns.map VV.int) = some (ns.map DV.int)
  | _, [] => rfl
  | n, i :: ns => by
    have e : datV n (.int i) = some (.int i) := by cases n <;> rfl
    rw [List.map_cons]
    unfold allS
    rw [e, dat_ints n ns]
    rfl
theorem cell_ok (ns : List Int) : ∃ c : Int, c.natAbs < 10 ^ 9 ∧ (vApp qMod (vCons (vApp qInt (vCons (vIf (vCm (vApp qNeD (vCons (vVar 0) (vCons (vTkO qLst (vNil)) (vNil))))) (vApp qIx (vCons (vVar 0) (vCons (vC (.int 0)) (vNil)))) (vC (.int 0))) (vNil))) (vCons (vApp qPow (vCons (vC (.int 10)) (vCons (vC (.int 9)) (vNil)))) (vNil)))) [some (.kl (ns.map .int)), none, none, none] = .ok (.int c) [some (.kl (ns.map .int)), none, none, none] := by
  cases ns with
  | nil => exact ⟨0, by decide, by kernel_rfl⟩
  | cons n ns =>
    have h1 : 0 ≤ n % 1000000000 := Int.emod_nonneg _ (by decide)
    have h2 : n % 1000000000 < 1000000000 := Int.emod_lt_of_pos _ (by decide)
    refine ⟨n % 1000000000, by omega, ?_⟩
    have e1 : qNeD [.kl ((n :: ns).map .int), .lst []] = .ok (.bl true) := by
      show (match (allS (datV 39) ((n :: ns).map VV.int)).map DV.lst, datV 40 (.lst []) with
        | some d, some e => PR.ok (.bl (!eqd d e))
        | _, _ => .bad) = _
      rw [dat_ints]
      rfl
    have e2 : qIx [.kl ((n :: ns).map .int), .int 0] = .ok (.int n) := by
      have : L2.atI ((n :: ns).map VV.int) 0 = some (.int n) := by simp [L2.atI, L2.ixN]
      show (match L2.atI ((n :: ns).map VV.int) 0 with
        | some u => PR.ok u
        | none => .bad) = _
      rw [this]
    have e3 : qPow [.int 10, .int 9] = .ok (.int 1000000000) := by kernel_rfl
    have e4 : qMod [.int n, .int 1000000000] = .ok (.int (n % 1000000000)) := rfl
    have e5 : qLst [] = .nw (.lst []) := by kernel_rfl
    have e6 : qInt [.int n] = .ok (.int n) := rfl
    simp only [e_app, a_cons, a_nil, e_if, t_cm, e_var, e_tko, e_c, fr_nil, if_true, vr_ok, d_v, d_nil, List.getElem?_cons_zero, Option.map_some, e5, po_nw, e1, pe_ok, t_asb, e2, e6, e3, e4]
theorem comp_map {is : List Nat} {i : Nat} {e : VE} {f : VV → VV} {π0 : VEnv} (hw : ∀ v, wipeV (π0.set i (some v)) is = π0) : ∀ {vs : List VV}, (∀ v ∈ vs, e (π0.set i (some v)) = .ok (f v) (π0.set i (some v))) → vCompN is (gvSet i) vYes e vs π0 = .ok (vs.map f) π0
  | [], _ => rfl
  | v :: vs, h => by
    unfold vCompN
    show ((vYes (π0.set i (some v))).bind fun b π2 => if b then (e π2).bind fun y π3 => (vCompN is (gvSet i) vYes e vs (wipeV π3 is)).bind fun ys π4 => .ok (y :: ys) π4 else vCompN is (gvSet i) vYes e vs (wipeV π2 is)) = _
    simp only [t_yes, vr_ok, if_true, h v List.mem_cons_self, hw v, comp_map hw fun u hu => h u (List.mem_cons_of_mem _ hu), List.map_cons]
theorem law_v (ns : List Int) : v_law [.kl (ns.map .int)] = .ok (.bl true) [] := by
  obtain ⟨c, hc, hcell⟩ := cell_ok ns
  have h2 : (vTkO qLst (vCons (vC .non) (vCons (vVar 1) (vCons (vApp qNeg (vCons (vVar 1) (vNil))) (vCons (vC (.bl true)) (vCons (vApp qAdd (vCons (vC (.str [116, 101, 120, 116, 32])) (vCons (vApp qStr (vCons (vVar 1) (vNil))) (vNil)))) (vCons (vTk qTup (vCons (vVar 1) (vCons (vC (.str [97])) (vNil)))) (vCons (vTkO qLst (vCons (vVar 1) (vNil))) (vCons (vDsp [(vC (.str [97]), vVar 1)]) (vCons (vTk qTup (vNil)) (vCons (vTk qTup (vCons (vTk qTup (vCons (vVar 1) (vCons (vC .non) (vNil)))) (vCons (vTkO qLst (vNil)) (vNil)))) (vNil)))))))))))) [some (.kl (ns.map .int)), some (.int c), none, none] = .ok (.lst (some10 c)) [some (.kl (ns.map .int)), some (.int c), none, none] := by
    have e1 : qStr [.int c] = .ok (.str (intS c)) := if_pos (decide_eq_true (Nat.lt_of_lt_of_le hc (by decide)))
    have e2 : qAdd [.str [116, 101, 120, 116, 32], .str (intS c)] = .ok (.str ([116, 101, 120, 116, 32] ++ intS c)) := by
      have hl := intS_len (big hc)
      refine if_pos ?_
      show 5 + (intS c).length ≤ lim
      unfold lim
      omega
    have e3 : qNeg [.int c] = .ok (.int (-c)) := rfl
    have e4 : ∀ vs : List VV, vs.length ≤ 10 → qTup vs = .ok (.tup vs) := fun vs h => if_pos (by omega)
    have e5 : ∀ vs : List VV, vs.length ≤ 10 → qLst vs = .nw (.lst vs) := fun vs h => if_pos (by omega)
    have e6 : ∀ π : VEnv, π[1]? = some (some (.int c)) → vDsp [(vC (.str [97]), vVar 1)] π = .ok (.dct [(.str [97], .int c)]) π := fun π h => by
      unfold vDsp prsG
      simp only [e_c, e_var, h, vr_ok, prsG, VM.ret]
      rfl
    have v1 : ∀ π : VEnv, π[1]? = some (some (.int c)) → vVar 1 π = .ok (.int c) π := fun π h => by rw [e_var, h]
    have w1 : ([some (.kl (ns.map .int)), some (.int c), none, none] : VEnv)[1]? = some (some (.int c)) := rfl
    generalize ([some (.kl (ns.map .int)), some (.int c), none, none] : VEnv) = π at w1 ⊢
    simp only [e_tko, e_tk, e_app, a_cons, a_nil, e_c, v1 π w1, e6 π w1, vr_ok, fr_v, fr_nil, if_true, d_v, d_nil, Option.map_some, e1, e2, e3, pe_ok, po_nw, e4, e5, List.length_cons, List.length_nil, Nat.reduceAdd, Nat.reduceLeDiff, some10]
  have h3 : (vLc (vSeqI (vVar 2)) [3] (gvSet 3) (vYes) (vCall [false] v__law_is_kept (vCons (vVar 3) (vNil)))) [some (.kl (ns.map .int)), some (.int c), some (.lst (some10 c)), none] = .ok (.lst ((some10 c).map fun _ => .bl true)) [some (.kl (ns.map .int)), some (.int c), some (.lst (some10 c)), none] := by
    have cm := comp_map (is := [3]) (i := 3) (e := vCall [false] v__law_is_kept (vCons (vVar 3) (vNil))) (f := fun _ => VV.bl true) (π0 := [some (.kl (ns.map .int)), some (.int c), some (.lst (some10 c)), none]) (fun v => rfl) (vs := some10 c) fun v hv => by
      show vCall [false] v__law_is_kept (vCons (vVar 3) (vNil)) [some (.kl (ns.map .int)), some (.int c), some (.lst (some10 c)), some v] = .ok (.bl true) [some (.kl (ns.map .int)), some (.int c), some (.lst (some10 c)), some v]
      simp only [e_call, a_cons, a_nil, e_var, vr_ok, List.getElem?_cons_succ, List.getElem?_cons_zero]
      rw [fin0 (vs := [v]) rfl rfl rfl, kept10 hc v hv]
    rw [e_lc]
    have i1 : vSeqI (vVar 2) [some (.kl (ns.map .int)), some (.int c), some (.lst (some10 c)), none] = .ok (some10 c) [some (.kl (ns.map .int)), some (.int c), some (.lst (some10 c)), none] := by
      simp only [i_seq, e_var, List.getElem?_cons_succ, List.getElem?_cons_zero, vr_ok, sv_lst, ck_fu]
      exact if_pos (by show 10 < fuel; unfold fuel; decide)
    have wp : wipeV [some (.kl (ns.map .int)), some (.int c), some (.lst (some10 c)), none] [3] = [some (.kl (ns.map .int)), some (.int c), some (.lst (some10 c)), none] := rfl
    have wr : restV [some (.kl (ns.map .int)), some (.int c), some (.lst (some10 c)), none] [3] [some (.kl (ns.map .int)), some (.int c), some (.lst (some10 c)), none] = [some (.kl (ns.map .int)), some (.int c), some (.lst (some10 c)), none] := rfl
    rw [i1, vr_ok, wp, cm]
    dsimp only
    rw [wr, if_pos (by rw [List.length_map]; show 10 ≤ 10000000; decide)]
  have h4 : qAll [.lst ((some10 c).map fun _ => .bl true)] = .ok (.bl true) := rfl
  unfold v_law
  rw [v_def (m := 1) rfl]
  show vRes false [] (g_law [some (.kl (ns.map .int)), none, none, none]) = _
  unfold g_law
  simp only [s_seq, s_set, hcell, th_ok, sk_nx, List.set_cons_succ, List.set_cons_zero, h2, s_ret]
  rw [e_app, a_cons, h3]
  simp only [vr_ok, a_nil, d_v, d_nil, Option.map_some, h4, pe_ok, th_ok, r_rt, en_nil]
end VX

set_option Elab.async false
set_option linter.all false
set_option maxRecDepth 100000
set_option maxHeartbeats 4000000
namespace FX
theorem plain_law (a : Nat) (ns : List Int) (_ : ns.length ≤ 63) : ∃ h', runB N_law.length s_law [.kl a (ns.map PV.int)] mh0 = .ok (.bl true) h' := VX.law_end (n := N_law.length) VX.rf_law ns a (VX.law_v ns)
end FX
open PySem PySem.W PySem.Calls PyProof.Rows
theorem PySem.Challenge.cw_landingwires_k00_errors_and_what_they_ke_holds : PySem.Challenge.rw_landingwires_k00_errors_and_what_they_ke.Holds := by
  w_on; o_law
  refine HandSHeadRun.head_any (r := OpenLaw.row PySem.Challenge.rw_landingwires_k00_errors_and_what_they_ke) (q := view (OpenLaw.row PySem.Challenge.rw_landingwires_k00_errors_and_what_they_ke).prog [39]) (H := FX.hk) (ob := FX.ob) (M := 20000) (loose := FX.loose) (d := HandSHeadRun.topDef (OpenLaw.row PySem.Challenge.rw_landingwires_k00_errors_and_what_they_ke).prog 39) (kwd := []) FX.ob_eq
    (by kernel_rfl) (fun s => by kernel_rfl) FX.run (by kernel_rfl) (by kernel_rfl) (by kernel_rfl) (by rfl) (by first | assumption | decide +kernel) (by decide +kernel) ⟨rfl, rfl, rfl, rfl, rfl, by decide +kernel⟩ ?hw ?hc
  case hw => w_witness2
  case hc =>
    refine FX.walk_law (l := PySem.Challenge.rw_landingwires_k00_errors_and_what_they_ke) (n := 63) (x := "_law_script") rfl (by decide) (by kernel_rfl) ?F
    intro w mg fa h Y G hmg0
    obtain ⟨K, KX, c⟩ := Y
    have e := FX.wd KX G c
    have hmg : mg ("law" : PySem.Str) = some (.ref fa) := by
      have e : (HandSHeadRun.topDef (OpenLaw.row PySem.Challenge.rw_landingwires_k00_errors_and_what_they_ke).prog 39).name = ("law" : PySem.Str) := by kernel_rfl
      rw [← e]
      exact hmg0
    have ea : fa = FX.a_law K := by
      have z := hmg.symm.trans (He.glo_ok KX G (c.fact FX.lawFact rfl))
      cases z
      rfl
    subst ea
    obtain ⟨fd, hb, hF⟩ := FX.okl (P := (PySem.Challenge.rw_landingwires_k00_errors_and_what_they_ke).prog) (w := w) e
    exact ⟨K, FX.cas K, fd, _, KX, hb, fun H a ns hl hO hS => FX.sp_law FX.plain_law H a ns hl hO hS, hF⟩
