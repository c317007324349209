import PyProof.Rows.All
import Wide.All
import OpenK.AllK
import Wide.FinOn
import PyProof.EqAt
import PyProof.EqKinds
import PyProof.TupleCall
import HandS.ForMost
import HandS.WordsExc
import HandS.Defaults
import HandS.Flow
import HandS.Star
import HandS.Exc
import HandS.ExcOwn
import HandS.Slots
import HandS.SlotsOwn
import HandS.TupAny
import HandS.Walk
import HandS.HeadHook1
import HandS.HeadHook2
import HandS.DictComp
import HandS.Zip
import KE.GoesMore
import HandS.Property
import HandS.IsInst
import HandS.WideBits
import HandS.Conv
import HandS.ClsMeth
import OpenK.KMeth
import HandS.SetFor
import HandS.Strs
import HandS.SetKeys
import PyProof.DictMoreH
import PyProof.ListNew
import KE.KDictZip
import HandS.Base
import HandS.Call
import HandS.List
import HandS.Zip0
import HandS.ExcValue
import KE.KStateDown
import HandS.Head0
import HandS.Head1
import HandS.Head2
import HandS.HeadEnd
import HandS.HeadNt
import HandS.Ends
import HandS.Words
import PySem.Challenge.RW_landingwires_k03_whole_standings_least_a
set_option linter.all false
namespace FX
/-- a value -/
inductive PV where
  | non | bl (b : Bool) | int (i : Int) | str (x : List Nat) | ty (n : String) | tup (xs : List PV) | ref (n : Nat) | kl (a : Nat) (xs : List PV)
/-- what stands at a place of the heap -/
inductive MO where
  | lst (xs : List PV) | dct (kvs : List (PV × PV)) | dtt (kvs : List (PV × PV)) | set (xs : List PV) | ins (c : Nat) (fs : List (Option PV)) | exo (c : Nat) (x : PV)
inductive Tr where
  | lf | nd (v : Option MO) (l r : Tr)
def pthF : Nat → Nat → List Bool
  | 0, _ => []
  | f + 1, n => if n = 0 then [] else (n % 2 == 1) :: pthF f (n / 2)
def pth (n : Nat) : List Bool := pthF (n + 1) n
def Tr.get : Tr → List Bool → Option MO
  | .lf, _ => none
  | .nd v _ _, [] => v
  | .nd _ l r, b :: p => if b then r.get p else l.get p
def Tr.put (o : MO) : Tr → List Bool → Tr
  | .lf, [] => .nd (some o) .lf .lf
  | .lf, b :: p => if b then .nd none .lf (Tr.put o .lf p) else .nd none (Tr.put o .lf p) .lf
  | .nd _ l r, [] => .nd (some o) l r
  | .nd v l r, b :: p => if b then .nd v l (Tr.put o r p) else .nd v (Tr.put o l p) r
theorem pthF_inj : ∀ (f n m g : Nat), n < f → m < g → pthF f n = pthF g m → n = m
  | 0, _, _, _, h, _, _ => absurd h (by omega)
  | _ + 1, _, _, 0, _, h, _ => absurd h (by omega)
  | f + 1, n, m, g + 1, hn, hm, e => by
    unfold pthF at e
    by_cases h1 : n = 0
    · by_cases h2 : m = 0
      · omega
      · rw [if_pos h1, if_neg h2] at e; cases e
    · by_cases h2 : m = 0
      · rw [if_neg h1, if_pos h2] at e; cases e
      · rw [if_neg h1, if_neg h2] at e
        injection e with e1 e2
        have := pthF_inj f (n / 2) (m / 2) g (by omega) (by omega) e2
        have e3 : (n % 2 = 1) ↔ (m % 2 = 1) := by
          constructor
          · intro h; rw [h] at e1; simpa using e1.symm
          · intro h; rw [h] at e1; simpa using e1
        omega
theorem pth_inj {n m : Nat} (e : pth n = pth m) : n = m := pthF_inj _ _ _ _ (by omega) (by omega) e
theorem Tr.get_put_same (o : MO) : ∀ (t : Tr) (p : List Bool), (t.put o p).get p = some o
  | .lf, [] => rfl
  | .nd _ _ _, [] => rfl
  | .lf, b :: p => by
    cases b
    · show (Tr.put o .lf p).get p = some o
      exact Tr.get_put_same o .lf p
    · show (Tr.put o .lf p).get p = some o
      exact Tr.get_put_same o .lf p
  | .nd v l r, b :: p => by
    cases b
    · exact Tr.get_put_same o l p
    · exact Tr.get_put_same o r p
theorem Tr.get_put_ne (o : MO) : ∀ (t : Tr) (p q : List Bool), q ≠ p → (t.put o p).get q = t.get q
  | .lf, [], [], h => absurd rfl h
  | .lf, [], b :: q, _ => by cases b <;> rfl
  | .nd _ _ _, [], [], h => absurd rfl h
  | .nd _ _ _, [], b :: q, _ => by cases b <;> rfl
  | .lf, b :: p, [], _ => by cases b <;> rfl
  | .nd _ _ _, b :: p, [], _ => by cases b <;> rfl
  | .lf, b :: p, c :: q, h => by
    cases b <;> cases c
    · exact (Tr.get_put_ne o .lf p q (fun e => h (by rw [e]))).trans (by cases q <;> rfl)
    · rfl
    · rfl
    · exact (Tr.get_put_ne o .lf p q (fun e => h (by rw [e]))).trans (by cases q <;> rfl)
  | .nd v l r, b :: p, c :: q, h => by
    cases b <;> cases c
    · exact Tr.get_put_ne o l p q (fun e => h (by rw [e]))
    · rfl
    · rfl
    · exact Tr.get_put_ne o r p q (fun e => h (by rw [e]))
theorem Tr.put_put (o o' : MO) : ∀ (t : Tr) (p : List Bool), (t.put o p).put o' p = t.put o' p
  | .lf, [] => rfl
  | .nd _ _ _, [] => rfl
  | .lf, b :: p => by
    cases b
    · show Tr.nd none ((Tr.put o .lf p).put o' p) .lf = Tr.nd none (Tr.put o' .lf p) .lf
      rw [Tr.put_put o o' .lf p]
    · show Tr.nd none .lf ((Tr.put o .lf p).put o' p) = Tr.nd none .lf (Tr.put o' .lf p)
      rw [Tr.put_put o o' .lf p]
  | .nd v l r, b :: p => by
    cases b
    · show Tr.nd v ((Tr.put o l p).put o' p) r = Tr.nd v (Tr.put o' l p) r
      rw [Tr.put_put o o' l p]
    · show Tr.nd v l ((Tr.put o r p).put o' p) = Tr.nd v l (Tr.put o' r p)
      rw [Tr.put_put o o' r p]
structure MH where
  nx : Nat
  tr : Tr
def MH.get (h : MH) (n : Nat) : Option MO := if n < h.nx then h.tr.get (pth n) else none
def MH.put (h : MH) (n : Nat) (o : MO) : MH := ⟨h.nx, h.tr.put o (pth n)⟩
def MH.new (h : MH) (o : MO) : MH := ⟨h.nx + 1, h.tr.put o (pth h.nx)⟩
section
variable {h : MH} {n m : Nat} {o o' : MO}
theorem MH.get_lt (e : h.get n = some o) : n < h.nx := by
  unfold MH.get at e
  split at e
  · assumption
  · cases e
@[simp] theorem MH.put_nx : (h.put n o).nx = h.nx := rfl
@[simp] theorem MH.new_nx : (h.new o).nx = h.nx + 1 := rfl
theorem MH.get_put (hn : n < h.nx) : (h.put n o).get n = some o := by
  unfold MH.get MH.put
  show (if n < h.nx then _ else _) = _
  rw [if_pos hn]
  exact Tr.get_put_same o _ _
theorem MH.get_put_ne (hm : m ≠ n) : (h.put n o).get m = h.get m := by
  unfold MH.get MH.put
  show (if m < h.nx then _ else _) = _
  split
  · exact Tr.get_put_ne o _ _ _ fun e => hm (pth_inj e)
  · rfl
theorem MH.get_new : (h.new o).get h.nx = some o := by
  unfold MH.get MH.new
  show (if h.nx < h.nx + 1 then _ else _) = _
  rw [if_pos (by omega)]
  exact Tr.get_put_same o _ _
theorem MH.get_new_ne (hm : m ≠ h.nx) : (h.new o).get m = h.get m := by
  unfold MH.get MH.new
  show (if m < h.nx + 1 then _ else _) = _
  by_cases hlt : m < h.nx
  · rw [if_pos (by omega), if_pos hlt]
    exact Tr.get_put_ne o _ _ _ fun e => hm (pth_inj e)
  · rw [if_neg (by omega), if_neg hlt]
theorem MH.get_new_old (e : h.get m = some o') : (h.new o).get m = some o' := by
  rw [MH.get_new_ne (Nat.ne_of_lt (MH.get_lt e))]; exact e
theorem MH.get_nx : h.get h.nx = none := by
  unfold MH.get
  rw [if_neg (by omega)]
theorem MH.put_put : (h.put n o).put n o' = h.put n o' := by
  unfold MH.put
  rw [Tr.put_put]
theorem MH.new_put : (h.new o).put h.nx o' = h.new o' := by
  unfold MH.put MH.new
  rw [Tr.put_put]
end
inductive R (α : Type) where
  | ok (a : α) (h : MH)
  | exc (c : Nat) (x : PV) (h : MH)
  | bad
abbrev M (α : Type) := MH → R α
abbrev Env := List (Option PV)
def M.ret {α : Type} (a : α) : M α := fun h => .ok a h
def M.bad {α : Type} : M α := fun _ => .bad
def M.bind {α β : Type} (m : M α) (g : α → M β) : M β := fun h => match m h with
  | .ok a h' => g a h'
  | .exc c x h' => .exc c x h'
  | .bad => .bad
section
variable {α β γ : Type} {m : M α} {g : α → M β} {h h' : MH} {a : α}
theorem M.bind_ok (e : m h = .ok a h') : (m.bind g) h = g a h' := by
  unfold M.bind; rw [e]
@[simp] theorem M.ret_run : (M.ret a : M α) h = .ok a h := rfl
@[simp] theorem M.bad_run : (M.bad : M α) h = .bad := rfl
@[simp] theorem M.ret_bind : (M.ret a).bind g = g a := rfl
@[simp] theorem M.bad_bind : (M.bad : M α).bind g = M.bad := rfl
theorem M.bind_assoc {k : β → M γ} : (m.bind g).bind k = m.bind fun a => (g a).bind k := by
  funext h
  unfold M.bind
  cases m h <;> rfl
end
/-- a new object -/
def mNew (o : MO) : M PV := fun h => .ok (.ref h.nx) (h.new o)
/-- what stands at n -/
def mAt {α : Type} (n : Nat) (f : MO → M α) : M α := fun h => match h.get n with
  | some o => f o h
  | none => .bad
theorem mAt_ok {α : Type} {n : Nat} {f : MO → M α} {h : MH} {o : MO} (e : h.get n = some o) : mAt n f h = f o h := by
  unfold mAt; rw [e]
def mPut (n : Nat) (o : MO) : M Unit := fun h => .ok () (h.put n o)
/-- all of them, from the left -/
def mAll : List (M PV) → M (List PV)
  | [] => M.ret []
  | m :: ms => m.bind fun x => (mAll ms).bind fun xs => M.ret (x :: xs)
def mMap {α β : Type} (f : α → M β) : List α → M (List β)
  | [] => M.ret []
  | x :: xs => (f x).bind fun y => (mMap f xs).bind fun ys => M.ret (y :: ys)
end FX

set_option Elab.async false
set_option linter.all false
set_option maxRecDepth 100000
set_option maxHeartbeats 1000000
namespace FX
open PySem PySem.Spec PyProof.Rows L2 SlX
def mkS (x : List Nat) : Str := ⟨x.toArray⟩
abbrev Nu := Nat → List Addr
/-- a read-only list (the script): locked, or of the module -/
def SqC (K : PySem.W.Frag) (H : Hp) (a : Addr) (vs : List V) : Prop := (∃ o, H a = some (.frz o (.lst vs))) ∨
  ∃ (o : Obj) (its : Array Value) (n : Nat), K.lookup a = some o ∧ o.cls = .type "list" ∧ o.dict = none ∧ o.data = .seq its n ∧ its.size ≤ sizeLine ∧ Vals vs its.toList
theorem SqC.sq {K : PySem.W.Frag} {H : Hp} {a : Addr} {vs : List V} (h : SqC K H a vs) : SqL K H a vs := by
  rcases h with ⟨o, h⟩ | h
  · exact .inl (.inr ⟨o, h⟩)
  · exact .inr h
mutual
inductive Rep (K : PySem.W.Frag) (ν : Nu) (H : Hp) : PV → V → Prop
  | non : Rep K ν H .non .non
  | bl {b} : Rep K ν H (.bl b) (.bl b)
  | int {i} : Rep K ν H (.int i) (.int i)
  | str {x} : Rep K ν H (.str x) (.str (mkS x))
  | ty {n} : Rep K ν H (.ty n) (.ty n)
  | tup {xs a vs} (h : H a = some (.tup vs)) (r : RepL K ν H xs vs) : Rep K ν H (.tup xs) (.ref a)
  | ref {n a l} (h : ν n = a :: l) : Rep K ν H (.ref n) (.ref a)
  | kl {a xs vs} (h : SqC K H a vs) (r : RepL K ν H xs vs) : Rep K ν H (.kl a xs) (.ref a)
inductive RepL (K : PySem.W.Frag) (ν : Nu) (H : Hp) : List PV → List V → Prop
  | nil : RepL K ν H [] []
  | cons {x v xs vs} (r : Rep K ν H x v) (t : RepL K ν H xs vs) : RepL K ν H (x :: xs) (v :: vs)
end
/-- what may have become of the heap -/
structure Mon (ν ν' : Nu) (H H' : Hp) : Prop where
  nu : ∀ n, ν n ≠ [] → ν' n = ν n
  tups : ∀ a xs, H a = some (.tup xs) → H' a = some (.tup xs)
  frzs : ∀ a o u, H a = some (.frz o u) → H' a = some (.frz o u)
structure Ext (ν ν' : Nu) (H H' : Hp) : Prop extends Mon ν ν' H H' where
  fr : ∀ b o, H b = some o → (∀ n, b ∉ ν n) → H' b = some o
  new : ∀ n a, ν n = [] → a ∈ ν' n → H a = none
  live : ∀ a, H' a = none → H a = none
theorem Ext.refl (ν : Nu) (H : Hp) : Ext ν ν H H := ⟨⟨fun _ _ => rfl, fun _ _ h => h, fun _ _ _ h => h⟩, fun _ _ h _ => h, fun n a h h' => (by rw [h] at h'; cases h'), fun _ h => h⟩
theorem Ext.trans {ν ν1 ν2 : Nu} {H H1 H2 : Hp} (a : Ext ν ν1 H H1) (b : Ext ν1 ν2 H1 H2) : Ext ν ν2 H H2 where
  nu := fun n h => by
    have e := a.nu n h
    rw [b.nu n (by rw [e]; exact h), e]
  tups := fun c xs h => b.tups c xs (a.tups c xs h)
  frzs := fun c o u h => b.frzs c o u (a.frzs c o u h)
  fr := fun c o h hc => b.fr c o (a.fr c o h hc) fun n hn => by
    by_cases e : ν n = []
    · have := a.new n c e hn
      rw [h] at this; cases this
    · rw [a.nu n e] at hn
      exact hc n hn
  new := fun n c e h => by
    by_cases e1 : ν1 n = []
    · exact a.live c (b.new n c e1 h)
    · rw [b.nu n e1] at h
      exact a.new n c e h
  live := fun c h => a.live c (b.live c h)
section
variable {K : PySem.W.Frag} {ν ν' : Nu} {H H' : Hp}
theorem Mon.sqT (e : Mon ν ν' H H') {a : Addr} {vs : List V} (h : SqT K H a vs) : SqT K H' a vs := by
  rcases h with (h | ⟨o, h⟩) | h
  · exact .inl (.inl (e.tups _ _ h))
  · exact .inl (.inr ⟨o, e.frzs _ _ _ h⟩)
  · exact .inr h
theorem Mon.sqC (e : Mon ν ν' H H') {a : Addr} {vs : List V} (h : SqC K H a vs) : SqC K H' a vs := by
  rcases h with ⟨o, h⟩ | h
  · exact .inl ⟨o, e.frzs _ _ _ h⟩
  · exact .inr h
mutual
theorem Rep.mon (e : Mon ν ν' H H') : ∀ {x : PV} {v : V}, Rep K ν H x v → Rep K ν' H' x v
  | _, _, .non => .non
  | _, _, .bl => .bl
  | _, _, .int => .int
  | _, _, .str => .str
  | _, _, .ty => .ty
  | _, _, .tup h r => .tup (e.tups _ _ h) (RepL.mon e r)
  | _, _, .ref h => .ref ((e.nu _ (by rw [h]; exact List.cons_ne_nil _ _)).trans h)
  | _, _, .kl h r => .kl (e.sqC h) (RepL.mon e r)
theorem RepL.mon (e : Mon ν ν' H H') : ∀ {xs : List PV} {vs : List V}, RepL K ν H xs vs → RepL K ν' H' xs vs
  | _, _, .nil => .nil
  | _, _, .cons r t => .cons (Rep.mon e r) (RepL.mon e t)
end
theorem Rep.ext (e : Ext ν ν' H H') {x : PV} {v : V} (r : Rep K ν H x v) : Rep K ν' H' x v := r.mon e.toMon
theorem RepL.ext (e : Ext ν ν' H H') {x : List PV} {v : List V} (r : RepL K ν H x v) : RepL K ν' H' x v := r.mon e.toMon
theorem RepL.length : ∀ {xs : List PV} {vs : List V}, RepL K ν H xs vs → xs.length = vs.length
  | _, _, .nil => rfl
  | _, _, .cons _ t => congrArg Nat.succ t.length
theorem RepL.get : ∀ {xs : List PV} {vs : List V} {i : Nat} {x : PV}, RepL K ν H xs vs → xs[i]? = some x → ∃ v, vs[i]? = some v ∧ Rep K ν H x v
  | _, _, _, _, .nil, e => by simp at e
  | _, _, 0, _, .cons r _, e => by simp at e; subst e; exact ⟨_, rfl, r⟩
  | _, _, i + 1, x, .cons _ t, e => by
    obtain ⟨v, h1, h2⟩ := RepL.get (i := i) (x := x) t (by simpa using e)
    exact ⟨v, by simpa using h1, h2⟩
theorem RepL.getV : ∀ {xs : List PV} {vs : List V} {i : Nat} {v : V}, RepL K ν H xs vs → vs[i]? = some v → ∃ x, xs[i]? = some x ∧ Rep K ν H x v
  | _, _, _, _, .nil, e => by simp at e
  | _, _, 0, _, .cons r _, e => by simp at e; subst e; exact ⟨_, rfl, r⟩
  | _, _, i + 1, x, .cons _ t, e => by
    obtain ⟨v, h1, h2⟩ := RepL.getV (i := i) (v := x) t (by simpa using e)
    exact ⟨v, by simpa using h1, h2⟩
theorem RepL.append : ∀ {xs ys : List PV} {vs us : List V}, RepL K ν H xs vs → RepL K ν H ys us → RepL K ν H (xs ++ ys) (vs ++ us)
  | _, _, _, _, .nil, h => h
  | _, _, _, _, .cons r t, h => .cons r (RepL.append t h)
theorem RepL.set {x : PV} {v : V} (r : Rep K ν H x v) : ∀ {xs : List PV} {vs : List V} (i : Nat), RepL K ν H xs vs → RepL K ν H (xs.set i x) (vs.set i v)
  | _, _, _, .nil => .nil
  | _, _, 0, .cons _ t => .cons r t
  | _, _, i + 1, .cons q t => .cons q (RepL.set r i t)
theorem RepL.drop : ∀ {xs : List PV} {vs : List V} (n : Nat), RepL K ν H xs vs → RepL K ν H (xs.drop n) (vs.drop n)
  | _, _, 0, h => h
  | _, _, _ + 1, .nil => .nil
  | _, _, n + 1, .cons _ t => RepL.drop n t
theorem RepL.take : ∀ {xs : List PV} {vs : List V} (n : Nat), RepL K ν H xs vs → RepL K ν H (xs.take n) (vs.take n)
  | _, _, 0, h => .nil
  | _, _, _ + 1, .nil => .nil
  | _, _, n + 1, .cons r t => .cons r (RepL.take n t)
theorem RepL.reverse {xs : List PV} {vs : List V} (h : RepL K ν H xs vs) : RepL K ν H xs.reverse vs.reverse := by
  induction xs generalizing vs with
  | nil => cases h; exact .nil
  | cons x xs ih =>
    cases h with
    | cons r t =>
      rw [List.reverse_cons, List.reverse_cons]
      exact (ih t).append (.cons r .nil)
theorem RepL.ints {ns : List Int} : RepL K ν H (ns.map PV.int) (ns.map V.int) := by
  induction ns with
  | nil => exact .nil
  | cons n ns ih => exact .cons .int ih
end
/-- slots -/
def RepO (K : PySem.W.Frag) (ν : Nu) (H : Hp) (fs : List (Option PV)) (vs : List (Option V)) : Prop := ∀ (i : Nat) (x : PV), fs[i]? = some (some x) → ∃ v, vs[i]? = some (some v) ∧ Rep K ν H x v
theorem RepO.mon {K : PySem.W.Frag} {ν ν' : Nu} {H H' : Hp} (e : Mon ν ν' H H') {fs : List (Option PV)} {vs : List (Option V)} (r : RepO K ν H fs vs) : RepO K ν' H' fs vs := fun i x hx =>
  let ⟨v, hv, rv⟩ := r i x hx
  ⟨v, hv, rv.mon e⟩
/-- pairs -/
def kP : Key → PV
  | .inl i => .int i
  | .inr x => .str x.cps.toList
def kPs (ks : List Key) : PV := .tup (ks.map kP)
def RepKV {κ : Type} (φ : κ → PV) (K : PySem.W.Frag) (ν : Nu) (H : Hp) (kvs : List (PV × PV)) (kws : List (κ × V)) : Prop := kvs.map (·.1) = kws.map (fun q => φ q.1) ∧ RepL K ν H (kvs.map (·.2)) (kws.map (·.2))
/-- the classes' addresses -/
abbrev Ca := Nat → Addr
/-- what stands in HandS's heap at the places as -/
def ObAt (K : PySem.W.Frag) (ca : Ca) (ν : Nu) (H : Hp) (as : List Addr) : MO → Prop
  | .lst xs => ∃ a vs, as = [a] ∧ H a = some (.lst vs) ∧ RepL K ν H xs vs
  | .ins c fs => ∃ a dx vs, as = [a, dx] ∧ (Slt H a (ca c) dx vs ∧ (H dx = some (.own a) ∨ H dx = some (.xd []))) ∧ RepO K ν H fs vs
  | .dct kvs => ∃ a kws, as = [a] ∧ H a = some (.dK kws) ∧ RepKV kP K ν H kvs kws
  | .dtt kvs => ∃ a kws, as = [a] ∧ H a = some (.dT kws) ∧ RepKV kPs K ν H kvs kws
  | _ => False
structure Ab (K : PySem.W.Frag) (ca : Ca) (ν : Nu) (h : MH) (H : Hp) : Prop where
  dom : ∀ n, h.get n = none → ν n = []
  at_ : ∀ n o, h.get n = some o → ObAt K ca ν H (ν n) o
  inj : ∀ n m a, a ∈ ν n → a ∈ ν m → n = m
theorem ObAt.ne {K : PySem.W.Frag} {ca : Ca} {ν : Nu} {H : Hp} {as : List Addr} : ∀ {o : MO}, ObAt K ca ν H as o → as ≠ []
  | .lst _, ⟨_, _, e, _⟩ => by rw [e]; exact List.cons_ne_nil _ _
  | .ins _ _, ⟨_, _, _, e, _⟩ => by rw [e]; exact List.cons_ne_nil _ _
  | .dct _, ⟨_, _, e, _⟩ => by rw [e]; exact List.cons_ne_nil _ _
  | .dtt _, ⟨_, _, e, _⟩ => by rw [e]; exact List.cons_ne_nil _ _
  | .set _, h => h.elim
  | .exo _ _, h => h.elim
theorem slt_ext {H H' : Hp} {a C dx : Addr} {vs : List (Option V)} (h : Slt H a C dx vs) (h1 : H' a = H a) (h2 : H' dx = H dx) : Slt H' a C dx vs := by
  rcases h with ⟨e1, e2⟩ | ⟨e1, e2⟩
  · exact .inl ⟨h1.trans e1, e2⟩
  · exact .inr ⟨h1.trans e1, h2.trans e2⟩
/-- an object that isn't touched -/
theorem ObAt.mon {K : PySem.W.Frag} {ca : Ca} {ν ν' : Nu} {H H' : Hp} (e : Mon ν ν' H H') {as : List Addr} (k : ∀ a ∈ as, H' a = H a) : ∀ {o : MO}, ObAt K ca ν H as o → ObAt K ca ν' H' as o
  | .lst _, ⟨a, vs, e1, e2, r⟩ => ⟨a, vs, e1, (k a (by rw [e1]; exact List.mem_cons_self)).trans e2, r.mon e⟩
  | .dct _, ⟨a, vs, e1, e2, r⟩ => ⟨a, vs, e1, (k a (by rw [e1]; exact List.mem_cons_self)).trans e2, r.1, r.2.mon e⟩
  | .dtt _, ⟨a, vs, e1, e2, r⟩ => ⟨a, vs, e1, (k a (by rw [e1]; exact List.mem_cons_self)).trans e2, r.1, r.2.mon e⟩
  | .ins _ _, ⟨a, dx, vs, e1, e2, r⟩ => 
    have k1 := k a (by rw [e1]; exact List.mem_cons_self)
    have k2 := k dx (by rw [e1]; exact List.mem_cons_of_mem _ List.mem_cons_self)
    ⟨a, dx, vs, e1, ⟨slt_ext e2.1 k1 k2, by rw [k2]; exact e2.2⟩, r.mon e⟩
  | .set _, h => h.elim
  | .exo _ _, h => h.elim
theorem ObAt.ext {K : PySem.W.Frag} {ca : Ca} {ν ν' : Nu} {H H' : Hp} (e : Ext ν ν' H H') {as : List Addr} (k : ∀ a ∈ as, H' a = H a) {o : MO} (q : ObAt K ca ν H as o) : ObAt K ca ν' H' as o := q.mon e.toMon k
section
variable {K : PySem.W.Frag} {ca : Ca} {ν : Nu} {h : MH} {H : Hp}
theorem Ab.nu_of (A : Ab K ca ν h H) {n : Nat} {o : MO} (e : h.get n = some o) : ν n ≠ [] := (A.at_ n o e).ne
theorem Ab.get_of (A : Ab K ca ν h H) {n : Nat} (e : ν n ≠ []) : ∃ o, h.get n = some o := by
  cases q : h.get n with
  | none => exact absurd (A.dom n q) e
  | some o => exact ⟨o, rfl⟩
/-- every address of ours is tracked -/
theorem Ab.live (A : Ab K ca ν h H) {n : Nat} {a : Addr} (ha : a ∈ ν n) : H a ≠ none := by
  obtain ⟨o, e⟩ := A.get_of (n := n) (fun z => by rw [z] at ha; cases ha)
  have q := A.at_ n o e
  cases o with
  | lst xs =>
    obtain ⟨b, vs, e1, e2, _⟩ := q
    rw [e1] at ha
    obtain rfl := List.mem_singleton.mp ha
    rw [e2]; exact fun z => nomatch z
  | dct kvs =>
    obtain ⟨b, vs, e1, e2, _⟩ := q
    rw [e1] at ha
    obtain rfl := List.mem_singleton.mp ha
    rw [e2]; exact fun z => nomatch z
  | dtt kvs =>
    obtain ⟨b, vs, e1, e2, _⟩ := q
    rw [e1] at ha
    obtain rfl := List.mem_singleton.mp ha
    rw [e2]; exact fun z => nomatch z
  | ins c fs =>
    obtain ⟨b, dx, vs, e1, e2, _⟩ := q
    rw [e1] at ha
    obtain ⟨e2, e4⟩ := e2
    rcases List.mem_cons.mp ha with rfl | ha
    · rcases e2 with ⟨e2, _⟩ | ⟨e2, e3⟩
      · rw [e2]; exact fun z => nomatch z
      · rw [e2]; exact fun z => nomatch z
    · obtain rfl := List.mem_singleton.mp ha
      rcases e4 with e4 | e4 <;> (rw [e4]; exact fun z => nomatch z)
  | set _ => exact q.elim
  | exo _ _ => exact q.elim
theorem ObAt.nt {as : List Addr} {o : MO} (q : ObAt K ca ν H as o) {b : Addr} (hb : b ∈ as) : (∀ xs, H b ≠ some (.tup xs)) ∧ ∀ o u, H b ≠ some (.frz o u) := by
  cases o with
  | lst xs =>
    obtain ⟨a, vs, e1, e2, _⟩ := q
    rw [e1] at hb
    obtain rfl := List.mem_singleton.mp hb
    rw [e2]; exact ⟨fun _ z => (nomatch z), fun _ _ z => (nomatch z)⟩
  | dct kvs =>
    obtain ⟨a, vs, e1, e2, _⟩ := q
    rw [e1] at hb
    obtain rfl := List.mem_singleton.mp hb
    rw [e2]; exact ⟨fun _ z => (nomatch z), fun _ _ z => (nomatch z)⟩
  | dtt kvs =>
    obtain ⟨a, vs, e1, e2, _⟩ := q
    rw [e1] at hb
    obtain rfl := List.mem_singleton.mp hb
    rw [e2]; exact ⟨fun _ z => (nomatch z), fun _ _ z => (nomatch z)⟩
  | ins c fs =>
    obtain ⟨a, dx, vs, e1, ⟨e2, e4⟩, _⟩ := q
    rw [e1] at hb
    rcases List.mem_cons.mp hb with rfl | hb
    · rcases e2 with ⟨e2, _⟩ | ⟨e2, e3⟩
      · rw [e2]; exact ⟨fun _ z => (nomatch z), fun _ _ z => (nomatch z)⟩
      · rw [e2]
        exact ⟨fun _ z => by (unfold SlO at z; cases z), fun _ _ z => by (unfold SlO at z; cases z)⟩
    · obtain rfl := List.mem_singleton.mp hb
      rcases e4 with e4 | e4 <;> (rw [e4]; exact ⟨fun _ z => (nomatch z), fun _ _ z => (nomatch z)⟩)
  | set _ => exact q.elim
  | exo _ _ => exact q.elim
/-- an object written -/
theorem Ab.wr (A : Ab K ca ν h H) {n : Nat} {o mo : MO} {H' : Hp} (e : h.get n = some o) (hH : ∀ b, b ∉ ν n → H' b = H b) (hl : ∀ b ∈ ν n, H' b ≠ none)
    (ho : Ext ν ν H H' → ObAt K ca ν H' (ν n) mo) : Ext ν ν H H' ∧ Ab K ca ν (h.put n mo) H' := by
  have q := A.at_ n o e
  have x : Ext ν ν H H' := by
    refine ⟨⟨fun _ _ => rfl, fun a xs ha => ?_, fun a ob u ha => ?_⟩, fun b ob hb hn => ?_, fun m a h1 h2 => (by (rw [h1] at h2; cases h2)), fun a ha => ?_⟩
    · by_cases hm : a ∈ ν n
      · exact absurd ha ((q.nt hm).1 xs)
      · rw [hH a hm]; exact ha
    · by_cases hm : a ∈ ν n
      · exact absurd ha ((q.nt hm).2 ob u)
      · rw [hH a hm]; exact ha
    · rw [hH b (hn n)]; exact hb
    · by_cases hm : a ∈ ν n
      · exact absurd ha (hl a hm)
      · rw [← hH a hm]; exact ha
  refine ⟨x, fun m hm => ?_, fun m om hm => ?_, A.inj⟩
  · by_cases hmn : m = n
    · subst hmn
      rw [MH.get_put (MH.get_lt e)] at hm; cases hm
    · rw [MH.get_put_ne hmn] at hm
      exact A.dom m hm
  · by_cases hmn : m = n
    · subst hmn
      rw [MH.get_put (MH.get_lt e)] at hm
      cases hm
      exact ho x
    · rw [MH.get_put_ne hmn] at hm
      exact (A.at_ m om hm).ext x fun a ha => hH a fun z => hmn (A.inj m n a ha z)
def nuN (ν : Nu) (n : Nat) (as : List Addr) : Nu := fun m => if m = n then as else ν m
theorem nuN_same {n : Nat} {as : List Addr} : nuN ν n as n = as := if_pos rfl
theorem nuN_ne {n m : Nat} {as : List Addr} (h : m ≠ n) : nuN ν n as m = ν m := if_neg h
/-- an object made -/
theorem Ab.nw (A : Ab K ca ν h H) {as : List Addr} {mo : MO} {H' : Hp} (hn : ∀ a ∈ as, H a = none) (hH : ∀ b, b ∉ as → H' b = H b) (hl : ∀ b ∈ as, H' b ≠ none)
    (ho : Ext ν (nuN ν h.nx as) H H' → ObAt K ca (nuN ν h.nx as) H' as mo) : Ext ν (nuN ν h.nx as) H H' ∧ Ab K ca (nuN ν h.nx as) (h.new mo) H' := by
  have nx : ν h.nx = [] := A.dom _ MH.get_nx
  have old : ∀ b, H b ≠ none → H' b = H b := fun b hb => hH b fun z => hb (hn b z)
  have x : Ext ν (nuN ν h.nx as) H H' := by
    refine ⟨⟨fun m hm => nuN_ne fun z => hm (by rw [z]; exact nx), fun a xs ha => ?_, fun a ob u ha => ?_⟩, fun b ob hb _ => ?_, fun m a h1 h2 => ?_, fun a ha => ?_⟩
    · rw [old a (by rw [ha]; exact fun z => nomatch z)]; exact ha
    · rw [old a (by rw [ha]; exact fun z => nomatch z)]; exact ha
    · rw [old b (by rw [hb]; exact fun z => nomatch z)]; exact hb
    · by_cases hm : m = h.nx
      · subst hm
        rw [nuN_same] at h2
        exact hn a h2
      · rw [nuN_ne hm, h1] at h2; cases h2
    · by_cases hm : a ∈ as
      · exact hn a hm
      · rw [← hH a hm]; exact ha
  refine ⟨x, fun m hm => ?_, fun m om hm => ?_, fun m k a h1 h2 => ?_⟩
  · by_cases hmn : m = h.nx
    · subst hmn
      rw [MH.get_new] at hm; cases hm
    · rw [MH.get_new_ne hmn] at hm
      rw [nuN_ne hmn]
      exact A.dom m hm
  · by_cases hmn : m = h.nx
    · subst hmn
      rw [MH.get_new] at hm
      cases hm
      rw [nuN_same]
      exact ho x
    · rw [MH.get_new_ne hmn] at hm
      rw [nuN_ne hmn]
      exact (A.at_ m om hm).ext x fun a ha => old a (A.live ha)
  · by_cases h3 : m = h.nx
    · by_cases h4 : k = h.nx
      · rw [h3, h4]
      · rw [h3, nuN_same] at h1
        rw [nuN_ne h4] at h2
        exact absurd (hn a h1) (A.live h2)
    · rw [nuN_ne h3] at h1
      by_cases h4 : k = h.nx
      · rw [h4, nuN_same] at h2
        exact absurd (hn a h2) (A.live h1)
      · rw [nuN_ne h4] at h2
        exact A.inj m k a h1 h2
/-- what is not ours (new ahead, at p) is changed -/
theorem Ext.side {ν0 : Nu} {H0 : Hp} (e : Ext ν0 ν H0 H) {p : Addr} {o : HO} (hp : H0 p = none) : Ext ν0 ν H0 (upd H p o) := by
  have ne : ∀ b ob, H0 b = some ob → b ≠ p := fun b ob hb z => by rw [z, hp] at hb; cases hb
  refine ⟨⟨e.nu, fun a xs ha => ?_, fun a ob u ha => ?_⟩, fun b ob hb hn => ?_, e.new, fun a ha => ?_⟩
  · rw [upd_ne (ne a _ ha)]; exact e.tups a xs ha
  · rw [upd_ne (ne a _ ha)]; exact e.frzs a ob u ha
  · rw [upd_ne (ne b _ hb)]; exact e.fr b ob hb hn
  · by_cases hm : a = p
    · rw [hm]; exact hp
    · rw [upd_ne hm] at ha; exact e.live a ha
theorem Ab.side (A : Ab K ca ν h H) {p : Addr} {o : HO} {xs : List V} (hp : ∀ n, p ∉ ν n) (hl : H p = some (.lst xs)) : Mon ν ν H (upd H p o) ∧ Ab K ca ν h (upd H p o) := by
  have m : Mon ν ν H (upd H p o) := by
    refine ⟨fun _ _ => rfl, fun a xs ha => ?_, fun a ob u ha => ?_⟩
    · rw [upd_ne fun z => by rw [z, hl] at ha; cases ha]; exact ha
    · rw [upd_ne fun z => by rw [z, hl] at ha; cases ha]; exact ha
  exact ⟨m, A.dom, fun n om hm => (A.at_ n om hm).mon m fun a ha => upd_ne fun z => hp n (by rw [← z]; exact ha), A.inj⟩
/-- something new that isn't ours (a tuple, an iterator's pair) -/
theorem Ab.oth (A : Ab K ca ν h H) {p : Addr} {o : HO} (hp : H p = none) : Ext ν ν H (upd H p o) ∧ Ab K ca ν h (upd H p o) := by
  have old : ∀ b, H b ≠ none → upd H p o b = H b := fun b hb => upd_ne fun z => hb (by rw [z]; exact hp)
  have x : Ext ν ν H (upd H p o) := by
    refine ⟨⟨fun _ _ => rfl, fun a xs ha => ?_, fun a ob u ha => ?_⟩, fun b ob hb _ => ?_, fun m a h1 h2 => (by (rw [h1] at h2; cases h2)), fun a ha => ?_⟩
    · rw [old a (by rw [ha]; exact fun z => nomatch z)]; exact ha
    · rw [old a (by rw [ha]; exact fun z => nomatch z)]; exact ha
    · rw [old b (by rw [hb]; exact fun z => nomatch z)]; exact hb
    · by_cases hm : a = p
      · rw [hm]; exact hp
      · rw [upd_ne hm] at ha; exact ha
  exact ⟨x, A.dom, fun m om hm => (A.at_ m om hm).ext x fun a ha => old a (A.live ha), A.inj⟩
end
section
variable {α β : Type}
/-- behind a run's result r, from (ν, H): W of an exception that leaves -/
def Post (K : PySem.W.Frag) (ca : Ca) (W : WX) (σ : L2.St) (ν : Nu) (H : Hp) (r : R α) (Φ : Nu → Hp → MH → α → Prop) : Prop := match r with
  | .ok x h' => ∀ ν' H', Ext ν ν' H H' → Ab K ca ν' h' H' → Φ ν' H' h' x
  | .exc c x h' => ∀ ν' H' d v, Ext ν ν' H H' → Ab K ca ν' h' H' → H' d = some (.xd [(("value" : Str), v)]) → Rep K ν' H' x v → W (.ref (ca c)) (some d) σ H'
  | .bad => False
variable {K : PySem.W.Frag} {ca : Ca} {W : WX} {σ : L2.St} {ν ν1 : Nu} {H H1 : Hp} {r : R α} {Φ Ψ : Nu → Hp → MH → α → Prop}
theorem Post.ext (p : Post K ca W σ ν H r Φ) (e : Ext ν ν1 H H1) : Post K ca W σ ν1 H1 r Φ := by
  cases r with
  | ok x h' => exact fun ν' H' e' A' => p ν' H' (e.trans e') A'
  | exc c x h' => exact fun ν' H' d v e' A' => p ν' H' d v (e.trans e') A'
  | bad => exact p
theorem Post.mono (p : Post K ca W σ ν H r Φ) (f : ∀ ν' H' h' x, Ext ν ν' H H' → Ab K ca ν' h' H' → Φ ν' H' h' x → Ψ ν' H' h' x) : Post K ca W σ ν H r Ψ := by
  cases r with
  | ok x h' => exact fun ν' H' e' A' => f ν' H' h' x e' A' (p ν' H' e' A')
  | exc c x h' => exact p
  | bad => exact p
theorem Post.bind {m : M α} {g : α → M β} {h : MH} {Φ : Nu → Hp → MH → β → Prop} (p : Post K ca W σ ν H ((m.bind g) h) Φ) :
    Post K ca W σ ν H (m h) fun ν1 H1 h1 x => Post K ca W σ ν1 H1 (g x h1) Φ := by
  unfold M.bind at p
  cases q : m h with
  | ok x h1 =>
    rw [q] at p
    exact fun ν1 H1 e1 _ => Post.ext (show Post K ca W σ ν H (g x h1) Φ from p) e1
  | exc c x h1 =>
    rw [q] at p
    exact p
  | bad =>
    rw [q] at p
    exact p
theorem Post.ret {x : α} {h : MH} (p : Post K ca W σ ν H (.ok x h) Φ) (A : Ab K ca ν h H) : Φ ν H h x := p ν H (Ext.refl ν H) A
end
/-- the names' values -/
def EnvR (K : PySem.W.Frag) (ν : Nu) (H : Hp) (ρ : Env) (σ : L2.St) : Prop := ρ.length = σ.length ∧ ∀ (i : Nat) (x : PV), ρ[i]? = some (some x) → ∃ v, σ[i]? = some (some v) ∧ Rep K ν H x v
section
variable {K : PySem.W.Frag} {ν ν1 : Nu} {H H1 : Hp} {ρ : Env} {σ : L2.St}
theorem EnvR.ext (r : EnvR K ν H ρ σ) (e : Ext ν ν1 H H1) : EnvR K ν1 H1 ρ σ := ⟨r.1, fun i x hx =>
  let ⟨v, hv, rv⟩ := r.2 i x hx
  ⟨v, hv, rv.ext e⟩⟩
theorem EnvR.set (r : EnvR K ν H ρ σ) {x : PV} {v : V} (rv : Rep K ν H x v) (i : Nat) : EnvR K ν H (ρ.set i (some x)) (σ.set i (some v)) := by
  refine ⟨by rw [List.length_set, List.length_set]; exact r.1, fun j y hy => ?_⟩
  by_cases hj : j = i
  · subst hj
    by_cases hl : j < ρ.length
    · rw [List.getElem?_set_self hl] at hy
      cases hy
      exact ⟨v, List.getElem?_set_self (by rw [← r.1]; exact hl), rv⟩
    · rw [List.getElem?_eq_none_iff.mpr (by rw [List.length_set]; omega)] at hy
      cases hy
  · rw [List.getElem?_set_ne (Ne.symm hj)] at hy
    obtain ⟨w, h1, h2⟩ := r.2 j y hy
    exact ⟨w, by rw [List.getElem?_set_ne (Ne.symm hj)]; exact h1, h2⟩
end
end FX

set_option Elab.async false
set_option linter.all false
set_option maxRecDepth 100000
set_option maxHeartbeats 1000000
namespace FX
open PySem PySem.Spec PyProof.Rows L2 SlX
inductive Out where
  | nx (ρ : Env) | rt (x : PV) | bk (ρ : Env) | ct (ρ : Env) | xc (c : Nat) (x : PV) (ρ : Env)
/-- truth -/
def tru : PV → M Bool
  | .non => M.ret false
  | .bl b => M.ret b
  | .int i => M.ret (i != 0)
  | .tup xs => M.ret (!xs.isEmpty)
  | .ref n => mAt n fun o => match o with
    | .lst xs => M.ret (!xs.isEmpty)
    | .dct xs => M.ret (!xs.isEmpty)
    | _ => M.bad
  | .kl _ xs => M.ret (!xs.isEmpty)
  | _ => M.bad
abbrev EF := Env → M PV
abbrev TF := Env → M Bool
abbrev AF := Env → M (List PV)
abbrev SF := Env → M Out
abbrev GF := PV → Env → M Env
def eVar (i : Nat) : EF := fun ρ h => match ρ[i]? with
  | some (some x) => .ok x h
  | _ => .bad
def eC (x : PV) : EF := fun _ => M.ret x
def eOp (g : PV → PV → M PV) (a b : EF) : EF := fun ρ => (a ρ).bind fun x => (b ρ).bind fun y => g x y
def eUn (g : PV → M PV) (a : EF) : EF := fun ρ => (a ρ).bind g
def tOf (a : EF) : TF := fun ρ => (a ρ).bind tru
def asB : PV → M Bool
  | .bl b => M.ret b
  | _ => M.bad
def tCm (g : PV → PV → M PV) (a b : EF) : TF := fun ρ => (eOp g a b ρ).bind asB
def eChn (g g' : PV → PV → M PV) (a b c : EF) : EF := fun ρ => (a ρ).bind fun x => (b ρ).bind fun y => (g x y).bind fun z => (asB z).bind fun k => if k then (c ρ).bind fun w => g' y w else M.ret (.bl false)
def tChn (g g' : PV → PV → M PV) (a b c : EF) : TF := fun ρ => (eChn g g' a b c ρ).bind asB
def tNo (t : TF) : TF := fun ρ => (t ρ).bind fun b => M.ret (!b)
def tAn (t u : TF) : TF := fun ρ => (t ρ).bind fun b => if b then u ρ else M.ret false
def tOo (t u : TF) : TF := fun ρ => (t ρ).bind fun b => if b then M.ret true else u ρ
def eAn (a b : EF) : EF := fun ρ => (a ρ).bind fun x => (tru x).bind fun k => if k then b ρ else M.ret x
def eOo (a b : EF) : EF := fun ρ => (a ρ).bind fun x => (tru x).bind fun k => if k then M.ret x else b ρ
def eNo (a : EF) : EF := fun ρ => (a ρ).bind fun x => (tru x).bind fun k => M.ret (.bl (!k))
def eIf (t : TF) (a b : EF) : EF := fun ρ => (t ρ).bind fun k => if k then a ρ else b ρ
def aNil : AF := fun _ => M.ret []
def aCons (a : EF) (r : AF) : AF := fun ρ => (a ρ).bind fun x => (r ρ).bind fun xs => M.ret (x :: xs)
def eTup (r : AF) : EF := fun ρ => (r ρ).bind fun xs => if xs.length ≤ 10000000 then M.ret (.tup xs) else M.bad
def eLst (r : AF) : EF := fun ρ => (r ρ).bind fun xs => if xs.length ≤ 10000000 then mNew (.lst xs) else M.bad
def eApp (g : List PV → M PV) (r : AF) : EF := fun ρ => (r ρ).bind g
/-- an expression's end in a statement -/
def sThen {α : Type} (m : M α) (ρ : Env) (k : α → M Out) : M Out := fun h => match m h with
  | .ok x h' => k x h'
  | .exc c x h' => .ok (.xc c x ρ) h'
  | .bad => .bad
def sExp (a : EF) : SF := fun ρ => sThen (a ρ) ρ fun _ => M.ret (.nx ρ)
def sRet (a : EF) : SF := fun ρ => sThen (a ρ) ρ fun x => M.ret (.rt x)
def sRetN : SF := fun _ => M.ret (.rt .non)
def sPass : SF := fun ρ => M.ret (.nx ρ)
def sBrk : SF := fun ρ => M.ret (.bk ρ)
def sCnt : SF := fun ρ => M.ret (.ct ρ)
def sNev : SF := fun _ => M.bad
def gSet (i : Nat) : GF := fun x ρ => M.ret (ρ.set i (some x))
def gAll : List GF → List PV → Env → M Env
  | [], [], ρ => M.ret ρ
  | g :: gs, x :: xs, ρ => (g x ρ).bind fun ρ' => gAll gs xs ρ'
  | _, _, _ => M.bad
def gTp (gs : List GF) : GF := fun x ρ => match x with
  | .tup xs => gAll gs xs ρ
  | _ => M.bad
def sAsg (a : EF) (g : GF) : SF := fun ρ => sThen (a ρ) ρ fun x => sThen (g x ρ) ρ fun ρ' => M.ret (.nx ρ')
def sSeq (s t : SF) : SF := fun ρ => (s ρ).bind fun o => match o with
  | .nx ρ' => t ρ'
  | o => M.ret o
def sIf (t : TF) (a b : SF) : SF := fun ρ => sThen (t ρ) ρ fun k => if k then a ρ else b ρ
def wN (t : TF) (b : SF) : Nat → SF
  | 0, _ => M.bad
  | n + 1, ρ => sThen (t ρ) ρ fun k => if k then (b ρ).bind fun o => (match o with
      | .nx ρ' => wN t b n ρ'
      | .ct ρ' => wN t b n ρ'
      | .bk ρ' => M.ret (.nx ρ')
      | o => M.ret o) else M.ret (.nx ρ)
def fuel : Nat := 100000000
def sWh (t : TF) (b : SF) : SF := wN t b fuel
/-- what is walked: the i-th item, by the heap of now -/
abbrev Src := Nat → MH → Option (Option PV)
abbrev IF := Env → M Src
def srcL (xs : List PV) : Src := fun i _ => some xs[i]?
def srcR (lo : Int) (n : Nat) : Src := fun i _ => some (if i < n then some (.int (lo + i)) else none)
def srcH (n : Nat) : Src := fun i h => match h.get n with
  | some (.lst xs) => some xs[i]?
  | _ => none
def enumS (s : Src) : Src := fun i h => match s i h with
  | some (some x) => some (some (.tup [.int i, x]))
  | r => r
def zipS (s t : Src) : Src := fun i h => match s i h with
  | some (some x) => (match t i h with
    | some (some y) => some (some (.tup [x, y]))
    | r => r)
  | r => r
def forN (nxt : Src) (g : GF) (b : SF) : Nat → Nat → SF
  | 0, _, _ => M.bad
  | f + 1, i, ρ => fun h => match nxt i h with
    | none => .bad
    | some none => .ok (.nx ρ) h
    | some (some x) => ((sThen (g x ρ) ρ fun ρ' => b ρ').bind fun o => match o with
      | .nx ρ' => forN nxt g b f (i + 1) ρ'
      | .ct ρ' => forN nxt g b f (i + 1) ρ'
      | .bk ρ' => M.ret (.nx ρ')
      | o => M.ret o) h
def sFor (s : IF) (g : GF) (b : SF) : SF := fun ρ => sThen (s ρ) ρ fun nxt => forN nxt g b fuel 0 ρ
section
variable (X : Cx) (ca : Ca) (W : WX)
def tE (K : PySem.W.Frag) (f : EF) : TE := fun σ H Q => ∃ ν ρ h, Ab K ca ν h H ∧ EnvR K ν H ρ σ ∧ Post K ca W σ ν H (f ρ h) fun ν' H' _ x => ∀ v, Rep K ν' H' x v → Q v H'
def tT (K : PySem.W.Frag) (f : TF) : TT := fun σ H Q => ∃ ν ρ h, Ab K ca ν h H ∧ EnvR K ν H ρ σ ∧ Post K ca W σ ν H (f ρ h) fun ν' H' _ b => Q b H'
def tA (K : PySem.W.Frag) (f : AF) : TA := fun σ H Q => ∃ ν ρ h, Ab K ca ν h H ∧ EnvR K ν H ρ σ ∧ Post K ca W σ ν H (f ρ h) fun ν' H' _ xs => ∀ vs, RepL K ν' H' xs vs → Q vs H'
/-- how a statement ends -/
def Done (K : PySem.W.Frag) (D : Ends) (ν : Nu) (H : Hp) : Out → Prop
  | .nx ρ => ∀ σ, EnvR K ν H ρ σ → D.nx σ H
  | .rt x => ∀ v, Rep K ν H x v → D.rt v H
  | .bk ρ => ∀ σ, EnvR K ν H ρ σ → D.bk σ H
  | .ct ρ => ∀ σ, EnvR K ν H ρ σ → D.ct σ H
  | .xc c x ρ => ∀ σ d v, EnvR K ν H ρ σ → H d = some (.xd [(("value" : Str), v)]) → Rep K ν H x v → W (.ref (ca c)) (some d) σ H
/-- no exception is left in a statement's run -/
def W0 : WX := fun _ _ _ _ => False
def tS (K : PySem.W.Frag) (g : SF) : TS := fun D σ H => ∃ ν ρ h, Ab K ca ν h H ∧ EnvR K ν H ρ σ ∧ Post K ca W0 σ ν H (g ρ h) fun ν' H' _ o => Done ca W K D ν' H' o
def tG (K : PySem.W.Frag) (vs : List Nat) (g : GF) : TG := fun v σ H Q => ∃ ν ρ h x, Ab K ca ν h H ∧ EnvR K ν H ρ σ ∧ Rep K ν H x v ∧ Post K ca W σ ν H (g x ρ h) fun ν' H' _ ρ' => ∀ σ', EnvR K ν' H' ρ' σ' → wipe σ' vs = wipe σ vs → Q σ' H'
def PX (e : Expr) (f : EF) : Prop := PE X e (tE ca W X.K f)
def PXT (e : Expr) (f : TF) : Prop := PT X e (tT ca W X.K f)
def PXW (e : Expr) (f : TF) : Prop := PW X e (tT ca W X.K f)
def PXA (es : List Expr) (f : AF) : Prop := PA X es (tA ca W X.K f)
def PXS (s : Stmt) (g : SF) : Prop := PS X s (tS ca W X.K g)
def PXSs (s : List Stmt) (g : SF) : Prop := PSs X s (tS ca W X.K g)
def PXG (vs : List Nat) (e : Expr) (g : GF) : Prop := PG X e (tG ca W X.K vs g)
/-- an operation on two values -/
def OpM (f : Value → Value → Sem Value) (g : PV → PV → M PV) : Prop := ∀ pins s σ H ν h x y xv yv v u Q, Inv X pins σ H s → RelV xv v → RelV yv u → Ab X.K ca ν h H → Rep X.K ν H x xv → Rep X.K ν H y yv →
  Post X.K ca W σ ν H (g x y h) (fun ν' H' _ z => ∀ w, Rep X.K ν' H' z w → Q w H') → wpAny (model X.prog X.w) X.A (f v u) (EP X pins σ Q) X.xe s
def UnM (f : Value → Sem Value) (g : PV → M PV) : Prop := ∀ pins s σ H ν h x xv v Q, Inv X pins σ H s → RelV xv v → Ab X.K ca ν h H → Rep X.K ν H x xv →
  Post X.K ca W σ ν H (g x h) (fun ν' H' _ z => ∀ w, Rep X.K ν' H' z w → Q w H') → wpAny (model X.prog X.w) X.A (f v) (EP X pins σ Q) X.xe s
end
section
variable {X : Cx} {ca : Ca} {W : WX} {a b c e : Expr} {fa fb fc : EF} {t u : TF} {pos : Pos} {es : List Expr} {ra : AF}
theorem PE.imp {t t' : TE} (h : PE X e t) (f : ∀ σ H Q, t' σ H Q → t σ H Q) : PE X e t' := ⟨fun pins s σ H Q I q => h.run pins s σ H Q I (f _ _ _ q)⟩
theorem PT.imp {t t' : TT} (h : PT X e t) (f : ∀ σ H Q, t' σ H Q → t σ H Q) : PT X e t' := ⟨fun pins s σ H Q I q => h.run pins s σ H Q I (f _ _ _ q)⟩
theorem PW.imp {t t' : TT} (h : PW X e t) (f : ∀ σ H Q, t' σ H Q → t σ H Q) : PW X e t' := ⟨fun wh pins s σ H Q I q => h.run wh pins s σ H Q I (f _ _ _ q)⟩
theorem PA.imp {t t' : TA} (h : PA X es t) (f : ∀ σ H Q, t' σ H Q → t σ H Q) : PA X es t' := ⟨fun p pins s σ H Q I q => h.run p pins s σ H Q I (f _ _ _ q)⟩
theorem PS.imp {st : Stmt} {t t' : TS} (h : PS X st t) (f : ∀ D σ H, t' D σ H → t D σ H) : PS X st t' := ⟨fun pins s σ H D I q => h.run pins s σ H D I (f _ _ _ q)⟩
theorem PSs.imp {st : List Stmt} {t t' : TS} (h : PSs X st t) (f : ∀ D σ H, t' D σ H → t D σ H) : PSs X st t' := ⟨fun pins s σ H D I q => h.run pins s σ H D I (f _ _ _ q)⟩
theorem PG.imp {t t' : TG} (h : PG X e t) (f : ∀ v σ H Q, t' v σ H Q → t v σ H Q) : PG X e t' := ⟨fun pins s σ H v u Q I r q => h.run pins s σ H v u Q I r (f _ _ _ _ q)⟩
theorem px_var (i : Nat) {x : Str} (hN : X.N[i]? = some x := by rfl) (hv : Vis X.env.scope x := by first | exact Or.inl rfl | exact Or.inr (Or.inl rfl) | exact Or.inr (Or.inr rfl)) (hd : (x == ("__debug__" : Str)) = false := by decide)
    (hcd : (x == ("__classdict__" : Str)) = false := by decide) : PX X ca W (.Name x pos) (eVar i) := by
  refine PE.imp (pe_var hN hv hd hcd) fun σ H Q ⟨ν, ρ, h, A, E, P⟩ => ?_
  unfold eVar at P
  split at P
  · rename_i x e
    obtain ⟨v, hv, r⟩ := E.2 i x e
    exact ⟨v, hv, Post.ret P A v r⟩
  · exact P.elim
theorem px_of {t : TE} {f : EF} (h : PE X e t) (hh : ∀ σ H Q ν ρ hp, Ab X.K ca ν hp H → EnvR X.K ν H ρ σ → Post X.K ca W σ ν H (f ρ hp) (fun ν' H' _ x => ∀ v, Rep X.K ν' H' x v → Q v H') → t σ H Q) : PX X ca W e f :=
  PE.imp h fun σ H Q ⟨ν, ρ, hp, A, E, P⟩ => hh σ H Q ν ρ hp A E P
theorem px_c {x : PV} {v : V} (h : PE X e (tC v)) (r : ∀ ν H, Rep X.K ν H x v) : PX X ca W e (eC x) := px_of h fun σ H Q ν ρ hp A E P => Post.ret P A v (r ν H)
theorem px_int {i : Int} {j : Nat} : PX X ca W (.Constant (.int i) j pos) (eC (.int i)) := px_c pe_int fun _ _ => .int
theorem px_bl {i : Bool} {j : Nat} : PX X ca W (.Constant (.bool i) j pos) (eC (.bl i)) := px_c pe_bl fun _ _ => .bl
theorem px_non {j : Nat} : PX X ca W (.Constant .none j pos) (eC .non) := px_c pe_non fun _ _ => .non
theorem px_str {x : Str} {l : List Nat} {j : Nat} (hx : mkS l = x) : PX X ca W (.Constant (.str x) j pos) (eC (.str l)) := px_c pe_str fun _ _ => by rw [← hx]; exact .str
theorem px_glob {x : Str} {v : V} {u : Value} {p : PV} (hg : Gl X x) (hm : X.mg x = some u) (r : RelV v u) (rp : ∀ ν H, Rep X.K ν H p v) (hd : (x == ("__debug__" : Str)) = false := by decide) : PX X ca W (.Name x pos) (eC p) := px_c (pe_glob hg hm r hd) rp
theorem bind2 {g : PV → PV → M PV} {σ : L2.St} {H : Hp} {ν : Nu} {ρ : Env} {h : MH} {Φ : Nu → Hp → MH → PV → Prop} (A : Ab X.K ca ν h H) (E : EnvR X.K ν H ρ σ) (P : Post X.K ca W σ ν H (eOp g fa fb ρ h) Φ) :
    tE ca W X.K fa σ H fun x H1 => tE ca W X.K fb σ H1 fun y H2 => ∃ ν2 h2 px py, Ab X.K ca ν2 h2 H2 ∧ Rep X.K ν2 H2 px x ∧ Rep X.K ν2 H2 py y ∧ Post X.K ca W σ ν2 H2 (g px py h2) Φ := by
  refine ⟨ν, ρ, h, A, E, (Post.bind P).mono fun ν1 H1 h1 px e1 A1 P1 v rv => ⟨ν1, ρ, h1, A1, E.ext e1, (Post.bind P1).mono fun ν2 H2 h2 py e2 A2 P2 w rw' => ⟨ν2, h2, px, py, A2, rv.ext e2, rw', P2⟩⟩⟩
theorem px_op {op : Operator} {g : PV → PV → M PV} (ho : OpM X ca W (binaryOp op) g) (ha : PX X ca W a fa) (hb : PX X ca W b fb) : PX X ca W (.BinOp a op b pos) (eOp g fa fb) := by
  refine ⟨fun pins s σ H Q I ⟨ν, ρ, h, A, E, P⟩ => ?_⟩
  refine wpAny_BinOp (bin ha hb I (bind2 A E P) fun v u s2 x y H2 I2 rx ry ⟨ν2, h2, px, py, A2, r1, r2, P2⟩ => ?_)
  exact ho pins s2 σ H2 ν2 h2 px py x y v u Q I2 rx ry A2 r1 r2 P2
theorem px_un {op : UnaryOp} {g : PV → M PV} (ho : UnM X ca W (unaryOp op) g) (ha : PX X ca W a fa) : PX X ca W (.UnaryOp op a pos) (eUn g fa) := by
  refine ⟨fun pins s σ H Q I ⟨ν, ρ, h, A, E, P⟩ => ?_⟩
  refine UnaryOp_ (thn (ha.run pins s σ H _ I ⟨ν, ρ, h, A, E, (Post.bind P).mono fun ν1 H1 h1 px e1 A1 P1 v rv => (⟨ν1, h1, px, A1, rv, P1⟩ : ∃ ν1 h1 px, Ab X.K ca ν1 h1 H1 ∧ Rep X.K ν1 H1 px v ∧ Post X.K ca W σ ν1 H1 (g px h1) fun ν' H' _ x => ∀ v, Rep X.K ν' H' x v → Q v H')⟩) fun v s1 ⟨x, H1, I1, r1, ν1, h1, px, A1, rx, P1⟩ => ?_)
  exact ho pins s1 σ H1 ν1 h1 px x v Q I1 r1 A1 rx P1
theorem px_cmp {op : CmpOp} {g : PV → PV → M PV} (ho : OpM X ca W (compareOp op) g) (ha : PX X ca W a fa) (hb : PX X ca W b fb) (hm : behindInMarks op b = false) : PX X ca W (.Compare a [op] [b] pos) (eOp g fa fb) := by
  refine ⟨fun pins s σ H Q I ⟨ν, ρ, h, A, E, P⟩ => ?_⟩
  refine wpAny_Compare1 (bin ha hb I (bind2 A E P) fun v u s2 x y H2 I2 rx ry ⟨ν2, h2, px, py, A2, r1, r2, P2⟩ => ?_) hm
  exact ho pins s2 σ H2 ν2 h2 px py x y v u Q I2 rx ry A2 r1 r2 P2
theorem asB_post {z : PV} {σ : L2.St} {ν : Nu} {H : Hp} {h : MH} {v : V} {Φ : Nu → Hp → MH → Bool → Prop} (A : Ab X.K ca ν h H) (r : Rep X.K ν H z v) (P : Post X.K ca W σ ν H (asB z h) Φ) : ∃ k, v = .bl k ∧ Φ ν H h k := by
  cases r <;> first | exact ⟨_, rfl, Post.ret P A⟩ | exact P.elim
theorem pxt_cmp {op : CmpOp} {g : PV → PV → M PV} (ho : OpM X ca W (compareOp op) g) (ha : PX X ca W a fa) (hb : PX X ca W b fb) (hm : behindInMarks op b = false) : PXT X ca W (.Compare a [op] [b] pos) (tCm g fa fb) := by
  refine ⟨fun pins s σ H Q I ⟨ν, ρ, h, A, E, P⟩ => ?_⟩
  have P' := Post.bind P
  refine wpAny_isTrue_Compare1 ?_ hm
  refine bin ha hb I (bind2 A E P') fun v u s2 x y H2 I2 rx ry ⟨ν2, h2, px, py, A2, r1, r2, P2⟩ => ?_
  refine thn (ho pins s2 σ H2 ν2 h2 px py x y v u (fun z H3 => ∃ k, z = .bl k ∧ Q k H3) I2 rx ry A2 r1 r2 (P2.mono fun ν3 H3 h3 z e3 A3 P3 w rw' => ?_)) fun c s3 ⟨z, H3, I3, r3, k, e, q3⟩ => ?_
  · exact asB_post A3 rw' P3
  · subst e
    cases r3
    exact wpAny_truthy_bool ⟨H3, I3, q3⟩
theorem tru_post {z : PV} {σ : L2.St} {ν : Nu} {H : Hp} {h : MH} {v : V} {Φ : Nu → Hp → MH → Bool → Prop} (A : Ab X.K ca ν h H) (r : Rep X.K ν H z v) (P : Post X.K ca W σ ν H (tru z h) Φ) : ∃ k, TruV X.K v H k ∧ Φ ν H h k := by
  cases r with
  | non => exact ⟨false, rfl, Post.ret P A⟩
  | bl => exact ⟨_, rfl, Post.ret P A⟩
  | int => exact ⟨_, rfl, Post.ret P A⟩
  | str => exact P.elim
  | ty => exact P.elim
  | tup q r =>
    refine ⟨_, .inr (.inl ⟨_, .of q, rfl⟩), ?_⟩
    have P' := Post.ret P A
    cases r <;> exact P'
  | kl q r =>
    refine ⟨_, .inl ⟨_, q.sq, rfl⟩, ?_⟩
    have P' := Post.ret P A
    cases r <;> exact P'
  | ref e =>
    rename_i n a l
    cases ho : h.get n with
    | none =>
      have P' : Post X.K ca W σ ν H (mAt n (fun o => match o with
        | .lst xs => M.ret (!xs.isEmpty)
        | .dct xs => M.ret (!xs.isEmpty)
        | _ => M.bad) h) Φ := P
      unfold mAt at P'
      rw [ho] at P'
      exact P'.elim
    | some o =>
      have P' : Post X.K ca W σ ν H (mAt n (fun o => match o with
        | .lst xs => M.ret (!xs.isEmpty)
        | .dct xs => M.ret (!xs.isEmpty)
        | _ => M.bad) h) Φ := P
      rw [mAt_ok ho] at P'
      have P := P'
      have q := A.at_ _ o ho
      rw [e] at q
      cases o with
      | lst xs =>
        obtain ⟨a, vs, e1, e2, r⟩ := q
        cases e1
        refine ⟨_, .inl ⟨_, .of e2, rfl⟩, ?_⟩
        have P' := Post.ret P A
        cases r <;> exact P'
      | dct kvs =>
        obtain ⟨a, vs, e1, e2, r⟩ := q
        cases e1
        refine ⟨_, .inr (.inr ⟨_, e2, rfl⟩), ?_⟩
        have P' := Post.ret P A
        have hl := congrArg List.length r.1
        rw [List.length_map, List.length_map] at hl
        have : (!kvs.isEmpty) = (!vs.isEmpty) := by
          cases kvs <;> cases vs <;> first | rfl | simp at hl
        rw [this] at P'
        exact P'
      | _ => exact P.elim
theorem pxt_of (ha : PX X ca W a fa) (he : ∀ whole, isTrue a X.env whole = (do let v ← whole; standAt a.pos; holding [v] (truthy v)) := by intro _; rfl) : PXT X ca W a (tOf fa) := by
  refine PT.imp (pt_truth ha he) fun σ H Q ⟨ν, ρ, h, A, E, P⟩ => ⟨ν, ρ, h, A, E, (Post.bind P).mono fun ν1 H1 h1 px e1 A1 P1 v rv => tru_post A1 rv P1⟩
theorem tif {f : TF} {α : Type} {k : Bool → M α} {σ : L2.St} {H : Hp} {ν : Nu} {ρ : Env} {h : MH} {Φ : Nu → Hp → MH → α → Prop} (A : Ab X.K ca ν h H) (E : EnvR X.K ν H ρ σ) (P : Post X.K ca W σ ν H (((f ρ).bind k) h) Φ) :
    tT ca W X.K f σ H fun b H1 => ∃ ν1 h1, Ab X.K ca ν1 h1 H1 ∧ EnvR X.K ν1 H1 ρ σ ∧ Post X.K ca W σ ν1 H1 (k b h1) Φ :=
  ⟨ν, ρ, h, A, E, (Post.bind P).mono fun ν1 H1 h1 b e1 A1 P1 => ⟨ν1, h1, A1, E.ext e1, P1⟩⟩
theorem tT.mono {f : TF} {σ : L2.St} {H : Hp} {Q Q' : Bool → Hp → Prop} (p : tT ca W X.K f σ H Q) (h : ∀ b H, Q b H → Q' b H) : tT ca W X.K f σ H Q' :=
  let ⟨ν, ρ, hp, A, E, P⟩ := p
  ⟨ν, ρ, hp, A, E, P.mono fun _ _ _ _ _ _ q => h _ _ q⟩
theorem pxt_not (ha : PXT X ca W a t) : PXT X ca W (.UnaryOp .Not a pos) (tNo t) :=
  PT.imp (pt_not ha) fun σ H Q ⟨ν, ρ, h, A, E, P⟩ => tT.mono (tif (X := X) A E P) fun b H1 ⟨ν1, h1, A1, _, P1⟩ => Post.ret P1 A1
theorem pxw_and1 (ha : PXT X ca W a t) : PXW X ca W (.BoolOp .And [a] pos) t := pw_and1 ha
theorem pxw_or1 (ha : PXT X ca W a t) : PXW X ca W (.BoolOp .Or [a] pos) t := pw_or1 ha
theorem pxw_and (ha : PXT X ca W a t) (hb : PXW X ca W (.BoolOp .And (b :: es) pos) u) : PXW X ca W (.BoolOp .And (a :: b :: es) pos) (tAn t u) :=
  PW.imp (pw_and ha hb) fun σ H Q ⟨ν, ρ, h, A, E, P⟩ => tT.mono (tif (X := X) A E P) fun b H1 ⟨ν1, h1, A1, E1, P1⟩ => by
    cases b with
    | true => exact ⟨ν1, ρ, h1, A1, E1, P1⟩
    | false => exact Post.ret P1 A1
theorem pxw_or (ha : PXT X ca W a t) (hb : PXW X ca W (.BoolOp .Or (b :: es) pos) u) : PXW X ca W (.BoolOp .Or (a :: b :: es) pos) (tOo t u) :=
  PW.imp (pw_or ha hb) fun σ H Q ⟨ν, ρ, h, A, E, P⟩ => tT.mono (tif (X := X) A E P) fun b H1 ⟨ν1, h1, A1, E1, P1⟩ => by
    cases b with
    | false => exact ⟨ν1, ρ, h1, A1, E1, P1⟩
    | true => exact Post.ret P1 A1
theorem pxt_w (h : PXW X ca W e t) : PXT X ca W e t := h.pt
theorem tru_in {σ : L2.St} {H : Hp} {ν : Nu} {ρ : Env} {h : MH} {Φ : Nu → Hp → MH → PV → Prop} {k : PV → Bool → M PV} (A : Ab X.K ca ν h H) (E : EnvR X.K ν H ρ σ) (P : Post X.K ca W σ ν H (((fa ρ).bind fun x => (tru x).bind (k x)) h) Φ) :
    tE ca W X.K fa σ H fun x H1 => ∃ b, TruV X.K x H1 b ∧ ∃ ν1 h1 px, Ab X.K ca ν1 h1 H1 ∧ EnvR X.K ν1 H1 ρ σ ∧ Rep X.K ν1 H1 px x ∧ Post X.K ca W σ ν1 H1 (k px b h1) Φ := by
  refine ⟨ν, ρ, h, A, E, (Post.bind P).mono fun ν1 H1 h1 px e1 A1 P1 v rv => ?_⟩
  obtain ⟨b, tv, P2⟩ := tru_post A1 rv (Post.bind P1)
  exact ⟨b, tv, ν1, h1, px, A1, E.ext e1, rv, P2⟩
theorem px_one {op : BoolOp} (h : PX X ca W a fa) : PX X ca W (.BoolOp op [a] pos) fa := pe_one h
theorem px_and (ha : PX X ca W a fa) (hb : PX X ca W (.BoolOp .And (b :: es) pos) fb) : PX X ca W (.BoolOp .And (a :: b :: es) pos) (eAn fa fb) :=
  PE.imp (pe_andT ha hb) fun σ H Q ⟨ν, ρ, h, A, E, P⟩ => by
    obtain ⟨ν', ρ', h', A', E', P'⟩ := tru_in (X := X) A E P
    refine ⟨ν', ρ', h', A', E', P'.mono fun _ _ _ _ _ _ q v rv => ?_⟩
    obtain ⟨k, tv, ν1, h1, px, A1, E1, r1, P1⟩ := q v rv
    refine ⟨k, tv, ?_⟩
    cases k with
    | true => exact ⟨ν1, ρ, h1, A1, E1, P1⟩
    | false => exact Post.ret P1 A1 v r1
theorem px_or (ha : PX X ca W a fa) (hb : PX X ca W (.BoolOp .Or (b :: es) pos) fb) : PX X ca W (.BoolOp .Or (a :: b :: es) pos) (eOo fa fb) :=
  PE.imp (pe_orT ha hb) fun σ H Q ⟨ν, ρ, h, A, E, P⟩ => by
    obtain ⟨ν', ρ', h', A', E', P'⟩ := tru_in (X := X) A E P
    refine ⟨ν', ρ', h', A', E', P'.mono fun _ _ _ _ _ _ q v rv => ?_⟩
    obtain ⟨k, tv, ν1, h1, px, A1, E1, r1, P1⟩ := q v rv
    refine ⟨k, tv, ?_⟩
    cases k with
    | false => exact ⟨ν1, ρ, h1, A1, E1, P1⟩
    | true => exact Post.ret P1 A1 v r1
theorem px_not (ha : PX X ca W a fa) : PX X ca W (.UnaryOp .Not a pos) (eNo fa) :=
  PE.imp (pe_notT ha) fun σ H Q ⟨ν, ρ, h, A, E, P⟩ => by
    obtain ⟨ν', ρ', h', A', E', P'⟩ := tru_in (X := X) A E P
    refine ⟨ν', ρ', h', A', E', P'.mono fun _ _ _ _ _ _ q v rv => ?_⟩
    obtain ⟨k, tv, ν1, h1, px, A1, E1, r1, P1⟩ := q v rv
    exact ⟨k, tv, Post.ret P1 A1 _ .bl⟩
theorem px_if (hc : PXT X ca W c t) (ha : PX X ca W a fa) (hb : PX X ca W b fb) : PX X ca W (.IfExp c a b pos) (eIf t fa fb) :=
  PE.imp (pe_ifExp hc ha hb) fun σ H Q ⟨ν, ρ, h, A, E, P⟩ => tT.mono (tif (X := X) A E P) fun k H1 ⟨ν1, h1, A1, E1, P1⟩ => by
    cases k with
    | true => exact ⟨ν1, ρ, h1, A1, E1, P1⟩
    | false => exact ⟨ν1, ρ, h1, A1, E1, P1⟩
theorem pxa_nil : PXA X ca W [] aNil := PA.imp pa_nil fun σ H Q ⟨ν, ρ, h, A, E, P⟩ => Post.ret P A [] .nil
theorem pxa_cons (ha : PX X ca W e fa) (hr : PXA X ca W es ra) (hs : starEach (e :: es) X.env = (false, eval e X.env) :: starEach es X.env := by rfl) : PXA X ca W (e :: es) (aCons fa ra) := by
  refine PA.imp (pa_cons ha hr hs) fun σ H Q ⟨ν, ρ, h, A, E, P⟩ => ?_
  refine ⟨ν, ρ, h, A, E, (Post.bind P).mono fun ν1 H1 h1 px e1 A1 P1 v rv => ⟨ν1, ρ, h1, A1, E.ext e1, (Post.bind P1).mono fun ν2 H2 h2 xs e2 A2 P2 vs rvs => ?_⟩⟩
  exact Post.ret P2 A2 _ (.cons (rv.ext e2) rvs)
theorem small_line {n : Nat} (h : n ≤ 10000000) : n ≤ sizeLine := by
  rw [sizeLine_eq]; omega
theorem px_tup {k : Nat} (h : PXA X ca W es ra) : PX X ca W (.Tuple es k pos) (eTup ra) := by
  refine PE.imp (pe_tup h) fun σ H Q ⟨ν, ρ, h, A, E, P⟩ => ⟨ν, ρ, h, A, E, (Post.bind P).mono fun ν1 H1 h1 xs e1 A1 P1 vs rv => ?_⟩
  split at P1
  · rename_i hl
    refine ⟨small_line (by rw [← rv.length]; exact hl), fun p hp => ?_⟩
    obtain ⟨x2, A2⟩ := A1.oth (o := .tup vs) hp
    exact P1 ν1 _ x2 A2 _ (.tup upd_same (rv.ext x2))
  · exact P1.elim
theorem new_lst {σ : L2.St} {ν : Nu} {H : Hp} {h : MH} {xs : List PV} {vs : List V} {p : Addr} {Φ : Nu → Hp → MH → PV → Prop} (A : Ab X.K ca ν h H) (r : RepL X.K ν H xs vs) (hp : H p = none) (P : Post X.K ca W σ ν H (mNew (.lst xs) h) Φ) :
    Φ (nuN ν h.nx [p]) (upd H p (.lst vs)) (h.new (.lst xs)) (.ref h.nx) ∧ Rep X.K (nuN ν h.nx [p]) (upd H p (.lst vs)) (.ref h.nx) (.ref p) := by
  obtain ⟨x2, A2⟩ := A.nw (as := [p]) (mo := .lst xs) (H' := upd H p (.lst vs)) (fun a ha => by rw [List.mem_singleton.mp ha]; exact hp) (fun b hb => upd_ne fun z => hb (by rw [z]; exact List.mem_cons_self))
    (fun b hb => by rw [List.mem_singleton.mp hb, upd_same]; exact fun z => nomatch z) (fun x => ⟨p, vs, rfl, upd_same, r.ext x⟩)
  exact ⟨P _ _ x2 A2, .ref (l := []) nuN_same⟩
theorem px_lst (h : PXA X ca W es ra) : PX X ca W (.List es pos) (eLst ra) := by
  refine PE.imp (pe_lst h) fun σ H Q ⟨ν, ρ, h, A, E, P⟩ => ⟨ν, ρ, h, A, E, (Post.bind P).mono fun ν1 H1 h1 xs e1 A1 P1 vs rv => ?_⟩
  split at P1
  · rename_i hl
    refine ⟨small_line (by rw [← rv.length]; exact hl), fun p hp => ?_⟩
    obtain ⟨q, r⟩ := new_lst A1 rv hp P1
    exact q _ r
  · exact P1.elim
end
end FX

set_option Elab.async false
set_option linter.all false
set_option maxRecDepth 100000
set_option maxHeartbeats 1000000
namespace FX
open PySem PySem.Spec PyProof.Rows L2 SlX
def wipeE (ρ : Env) : List Nat → Env
  | [] => ρ
  | v :: vs => (wipeE ρ vs).set v none
def compN (nxt : Src) (g : GF) (t : TF) (e : EF) : Nat → Nat → Nat → Env → M (List PV)
  | 0, _, _, _ => M.bad
  | f + 1, i, l, ρ => fun h => match nxt i h with
    | none => .bad
    | some none => .ok [] h
    | some (some x) => ((g x ρ).bind fun ρ2 => (t ρ2).bind fun b => if b then (e ρ2).bind fun y => if l < 10000000 then (compN nxt g t e f (i + 1) (l + 1) ρ).bind fun ys => M.ret (y :: ys) else M.bad
      else compN nxt g t e f (i + 1) l ρ) h
/-- nothing is raised -/
def noX {α : Type} (m : M α) : M α := fun h => match m h with
  | .ok x h' => .ok x h'
  | _ => .bad
def eLc (s : IF) (vs : List Nat) (g : GF) (t : TF) (e : EF) : EF := fun ρ => (s ρ).bind fun nxt => (noX (compN nxt g t e fuel 0 0 (wipeE ρ vs))).bind fun xs => mNew (.lst xs)
def tYes : TF := fun _ => M.ret true
/-- a def's run by its body -/
def runB (n : Nat) (b : SF) : List PV → M PV := fun xs => (noX (b (xs.map some ++ List.replicate (n - xs.length) none))).bind fun o => match o with
  | .nx _ => M.ret .non
  | .rt x => M.ret x
  | .xc c x _ => fun h => .exc c x h
  | _ => M.bad
section
variable {X : Cx} {ca : Ca} {W : WX}
theorem Post.w0 {α : Type} {K : PySem.W.Frag} {σ σ' : L2.St} {ν : Nu} {H : Hp} {r : R α} {Φ : Nu → Hp → MH → α → Prop} (p : Post K ca W0 σ ν H r Φ) : Post K ca W0 σ' ν H r Φ := by
  cases r with
  | ok x h => exact p
  | exc c x h => exact p
  | bad => exact p
theorem Done.imp {K : PySem.W.Frag} {D D' : Ends} {ν : Nu} {H : Hp} {o : Out} (d : Done ca W K D ν H o) (hn : ∀ σ H, D.nx σ H → D'.nx σ H) (hr : ∀ v H, D.rt v H → D'.rt v H) (hb : ∀ σ H, D.bk σ H → D'.bk σ H) (hc : ∀ σ H, D.ct σ H → D'.ct σ H) : Done ca W K D' ν H o := by
  cases o with
  | nx ρ => exact fun σ e => hn _ _ (d σ e)
  | rt x => exact fun v r => hr _ _ (d v r)
  | bk ρ => exact fun σ e => hb _ _ (d σ e)
  | ct ρ => exact fun σ e => hc _ _ (d σ e)
  | xc c x ρ => exact d
theorem sThen_post {α : Type} {m : M α} {ρ : Env} {k : α → M Out} {σ σ0 : L2.St} {ν : Nu} {H : Hp} {h : MH} {D : Ends} (E : EnvR X.K ν H ρ σ) (P : Post X.K ca W0 σ0 ν H (sThen m ρ k h) fun ν' H' _ o => Done ca W X.K D ν' H' o) :
    Post X.K ca W σ ν H (m h) fun ν1 H1 h1 x => Post X.K ca W0 σ ν1 H1 (k x h1) fun ν' H' _ o => Done ca W X.K D ν' H' o := by
  unfold sThen at P
  cases e : m h with
  | ok x h1 =>
    rw [e] at P
    exact fun ν1 H1 e1 A1 => Post.ext (Post.w0 P) e1
  | exc c x h1 =>
    rw [e] at P
    exact fun ν1 H1 d v e1 A1 hd r => P ν1 H1 e1 A1 σ d v (E.ext e1) hd r
  | bad =>
    rw [e] at P
    exact P
variable {e : Expr} {f : EF} {pos : Pos} {st : Stmt} {sts : List Stmt} {s u : SF} {t : TF} {vs : List Nat} {g : GF}
theorem pxs_expr (he : PX X ca W e f) (hs : swapsWith e none pos.line X.env = pure false := by rfl) : PXS X ca W (.Expr e pos) (sExp f) :=
  PS.imp (ps_expr he hs) fun D σ H ⟨ν, ρ, h, A, E, P⟩ => ⟨ν, ρ, h, A, E, (sThen_post E P).mono fun ν1 H1 h1 x e1 A1 P1 v rv => Post.ret P1 A1 σ (E.ext e1)⟩
theorem pxs_ret (he : PX X ca W e f) : PXS X ca W (.Return (some e) pos) (sRet f) :=
  PS.imp (ps_ret he) fun D σ H ⟨ν, ρ, h, A, E, P⟩ => ⟨ν, ρ, h, A, E, (sThen_post E P).mono fun ν1 H1 h1 x e1 A1 P1 v rv => Post.ret P1 A1 v rv⟩
theorem pxs_retN : PXS X ca W (.Return none pos) sRetN := PS.imp ps_retN fun D σ H ⟨ν, ρ, h, A, E, P⟩ => Post.ret P A _ .non
theorem pxs_pass : PXS X ca W (.Pass pos) sPass := PS.imp ps_pass fun D σ H ⟨ν, ρ, h, A, E, P⟩ => Post.ret P A _ E
theorem pxs_break : PXS X ca W (.Break pos) sBrk := PS.imp ps_break fun D σ H ⟨ν, ρ, h, A, E, P⟩ => Post.ret P A _ E
theorem pxs_continue : PXS X ca W (.Continue pos) sCnt := PS.imp ps_continue fun D σ H ⟨ν, ρ, h, A, E, P⟩ => Post.ret P A _ E
theorem pxs_never : PXS X ca W st sNev := PS.imp ps_never fun D σ H ⟨ν, ρ, h, A, E, P⟩ => P.elim
theorem wipe_in {v : V} : ∀ {vs : List Nat} {σ : L2.St} {i : Nat}, i ∈ vs → wipe (σ.set i (some v)) vs = wipe σ vs
  | w :: vs, σ, i, h => by
    show (wipe (σ.set i (some v)) vs).set w none = (wipe σ vs).set w none
    by_cases hi : i ∈ vs
    · rw [wipe_in hi]
    · have hw : i = w := (List.mem_cons.mp h).resolve_right hi
      subst hw
      have aux : ∀ (us : List Nat) (τ : L2.St), (wipe (τ.set i (some v)) us).set i none = (wipe τ us).set i none := by
        intro us
        induction us with
        | nil => intro τ; show (τ.set i (some v)).set i none = τ.set i none; rw [List.set_set]
        | cons a us ih =>
          intro τ
          show ((wipe (τ.set i (some v)) us).set a none).set i none = ((wipe τ us).set a none).set i none
          by_cases ha : a = i
          · rw [ha, List.set_set, List.set_set, ih τ]
          · rw [List.set_comm _ _ ha, List.set_comm _ _ ha, ih τ]
      exact aux vs σ
theorem pxg_name (i : Nat) {x : Str} (hi' : i ∈ vs) (hN : X.N.Nodup) (hi : X.N[i]? = some x := by rfl) (hx : Loc X.env.scope x := by first | exact Or.inl rfl | exact Or.inr rfl) (hf : X.fn x = true ∨ X.env.scope.names.lookup x = some .local := by first | exact .inl rfl | exact .inr rfl | assumption) :
    PXG X ca W vs (.Name x pos) (gSet i) :=
  PG.imp (pg_name hN hi hx hf) fun v σ H Q ⟨ν, ρ, h, x, A, E, r, P⟩ => Post.ret P A _ (E.set r i) (wipe_in hi')
/-- several targets -/
def tGs (ca : Ca) (W : WX) (K : PySem.W.Frag) (vs : List Nat) (gs : List GF) : TGs := fun ws σ H Q => ∃ ν ρ h xs, Ab K ca ν h H ∧ EnvR K ν H ρ σ ∧ RepL K ν H xs ws ∧ Post K ca W σ ν H (gAll gs xs ρ h) fun ν' H' _ ρ' => ∀ σ', EnvR K ν' H' ρ' σ' → wipe σ' vs = wipe σ vs → Q σ' H'
def PXGs (X : Cx) (ca : Ca) (W : WX) (vs : List Nat) (es : List Expr) (gs : List GF) : Prop := PGs X es (tGs ca W X.K vs gs)
theorem PGs.imp {es : List Expr} {t t' : TGs} (h : PGs X es t) (f : ∀ v σ H Q, t' v σ H Q → t v σ H Q) : PGs X es t' := ⟨fun pins s σ H v u Q I r q => h.run pins s σ H v u Q I r (f _ _ _ _ q)⟩
theorem pxgs_nil : PXGs X ca W vs [] [] := PGs.imp pgs_nil fun ws σ H Q ⟨ν, ρ, h, xs, A, E, r, P⟩ => by
  cases r with
  | nil => exact ⟨rfl, Post.ret P A _ E rfl⟩
  | cons _ _ => exact P.elim
theorem pxgs_cons {es : List Expr} {gs : List GF} {X : Cx} {W : WX} (hW : ∀ c d σ σ' H, W c d σ H → W c d σ' H) (h1 : PXG X ca W vs e g) (h2 : PXGs X ca W vs es gs) (hs : (assignEach (e :: es) X.env).map (·.2) = assign e X.env :: (assignEach es X.env).map (·.2) := by rfl) : PXGs X ca W vs (e :: es) (g :: gs) :=
  PGs.imp (pgs_cons h1 h2 hs) fun ws σ H Q ⟨ν, ρ, h, xs, A, E, r, P⟩ => by
    cases r with
    | nil => exact P.elim
    | @cons x0 v0 xs0 vs0 r t =>
      refine ⟨v0, vs0, rfl, ν, ρ, h, x0, A, E, r, (Post.bind P).mono fun ν1 H1 h1 ρ1 e1 A1 P1 σ1 E1 w1 => ?_⟩
      refine ⟨ν1, ρ1, h1, xs0, A1, E1, t.ext e1, ?_⟩
      have P2 : Post X.K ca W σ1 ν1 H1 (gAll gs xs0 ρ1 h1) fun ν' H' _ ρ' => ∀ σ', EnvR X.K ν' H' ρ' σ' → wipe σ' vs = wipe σ vs → Q σ' H' := by
        revert P1
        cases gAll gs xs0 ρ1 h1 with
        | ok x h => exact fun p => p
        | exc c x h => exact fun p ν' H' d v a b c' r' => hW _ _ _ _ _ (p ν' H' d v a b c' r')
        | bad => exact fun p => p
      exact P2.mono fun _ _ _ _ _ _ q σ' hE hw => q σ' hE (hw.trans w1)
theorem pxg_tup {es : List Expr} {k n : Nat} {gs : List GF} (hc : X.calm = true) (h : PXGs X ca W vs es gs) (hl : gs.length = n := by rfl)
    (hn : (assignEach es X.env).length = n := by rfl) (hst : (assignEach es X.env).findIdx? (·.1) = none := by rfl) : PXG X ca W vs (.Tuple es k pos) (fun x ρ => match x with
      | .tup xs => if xs.length = n then gAll gs xs ρ else M.bad
      | _ => M.bad) :=
  PG.imp (pg_tup (n := n) hc h hn hst) fun v σ H Q ⟨ν, ρ, h, x, A, E, r, P⟩ => by
    cases r with
    | @tup xs a ws q r =>
      by_cases hx : xs.length = n
      · have P' : Post X.K ca W σ ν H (gAll gs xs ρ h) fun ν' H' _ ρ' => ∀ σ', EnvR X.K ν' H' ρ' σ' → wipe σ' vs = wipe σ vs → Q σ' H' := by
          have e : (if xs.length = n then gAll gs xs ρ else M.bad) = gAll gs xs ρ := if_pos hx
          rw [← e]; exact P
        exact ⟨a, ws, rfl, .of q, by rw [← r.length]; exact hx, ν, ρ, h, xs, A, E, r, P'⟩
      · have e : (if xs.length = n then gAll gs xs ρ else M.bad) = M.bad := if_neg hx
        have P' : Post X.K ca W σ ν H ((M.bad : M Env) h) fun ν' H' _ ρ' => ∀ σ', EnvR X.K ν' H' ρ' σ' → wipe σ' vs = wipe σ vs → Q σ' H' := by
          rw [← e]; exact P
        exact P'.elim
    | _ => exact P.elim
theorem pxs_asg {tg : Expr} (he : PX X ca W e f) (hg : PXG X ca W vs tg g) (hs : swapsWithSole [tg] e pos.line X.env = pure false := by rfl) (hw : swappedStores [tg] e X.env = pure none := by rfl)
    (h1 : (assignEach [tg] X.env).map (·.2) = [assign tg X.env] := by rfl) : PXS X ca W (.Assign [tg] e pos) (sAsg f g) :=
  PS.imp (ps_asg he hg hs hw h1) fun D σ H ⟨ν, ρ, h, A, E, P⟩ => ⟨ν, ρ, h, A, E, (sThen_post E P).mono fun ν1 H1 h1 x e1 A1 P1 v rv => ⟨ν1, ρ, h1, x, A1, E.ext e1, rv, (sThen_post (E.ext e1) P1).mono fun ν2 H2 h2 ρ2 e2 A2 P2 σ2 E2 _ => Post.ret P2 A2 σ2 E2⟩⟩
theorem pxs_set (i : Nat) {x : Str} {pos' : Pos} (hN : X.N.Nodup) (he : PX X ca W e f) (hi : X.N[i]? = some x := by rfl) (hx : Loc X.env.scope x := by first | exact Or.inl rfl | exact Or.inr rfl)
    (hs : swapsWith e (some (.Name x pos')) pos.line X.env = pure false := by rfl) (hf : X.fn x = true ∨ X.env.scope.names.lookup x = some .local := by first | exact .inl rfl | exact .inr rfl | assumption) : PXS X ca W (.Assign [.Name x pos'] e pos) (sAsg f (gSet i)) :=
  PS.imp (ps_set hN hi hx he hs hf) fun D σ H ⟨ν, ρ, h, A, E, P⟩ => ⟨ν, ρ, h, A, E, (sThen_post E P).mono fun ν1 H1 h1 x e1 A1 P1 v rv => Post.ret P1 A1 _ ((E.ext e1).set rv i)⟩
theorem pxss_nil : PXSs X ca W [] sPass := PSs.imp pss_nil fun D σ H ⟨ν, ρ, h, A, E, P⟩ => Post.ret P A _ E
theorem pxss_one (h : PXS X ca W st s) : PXSs X ca W [st] s := pss_one h
theorem pxss_cons (h1 : PXS X ca W st s) (h2 : PXSs X ca W sts u) : PXSs X ca W (st :: sts) (sSeq s u) :=
  PSs.imp (pss_cons h1 h2) fun D σ H ⟨ν, ρ, h, A, E, P⟩ => ⟨ν, ρ, h, A, E, (Post.bind P).mono fun ν1 H1 h1 o e1 A1 P1 => by
    cases o with
    | nx ρ1 => exact fun σ1 E1 => ⟨ν1, ρ1, h1, A1, E1, P1.w0⟩
    | rt x => exact Post.ret P1 A1
    | bk ρ1 => exact Post.ret P1 A1
    | ct ρ1 => exact Post.ret P1 A1
    | xc c x ρ1 => exact Post.ret P1 A1⟩
theorem pxs_if {c : Expr} {a b : List Stmt} (hc : PXT X ca W c t) (ha : PXSs X ca W a s) (hb : PXSs X ca W b u) : PXS X ca W (.If c a b pos) (sIf t s u) :=
  PS.imp (ps_if hc ha hb) fun D σ H ⟨ν, ρ, h, A, E, P⟩ => ⟨ν, ρ, h, A, E, (sThen_post E P).mono fun ν1 H1 h1 k e1 A1 P1 => by
    cases k with
    | true => exact ⟨ν1, ρ, h1, A1, E.ext e1, P1⟩
    | false => exact ⟨ν1, ρ, h1, A1, E.ext e1, P1⟩⟩
theorem pxs_while {c : Expr} {body : List Stmt} (hp : PassesOwn (model X.prog X.w) X.A X.env X.xe) (hc : PXT X ca W c t) (hb : PXSs X ca W body s) : PXS X ca W (.While c body [] pos) (sWh t s) :=
  PS.imp (ps_while hp hc hb) fun D σ H ⟨ν, ρ, h, A, E, P⟩ => by
    refine ⟨fun m σ H => ∃ ν ρ h, Ab X.K ca ν h H ∧ EnvR X.K ν H ρ σ ∧ Post X.K ca W0 σ ν H (wN t s m ρ h) fun ν' H' _ o => Done ca W X.K D ν' H' o, ⟨_, ν, ρ, h, A, E, P⟩, ?_⟩
    rintro m σ H ⟨ν, ρ, h, A, E, P⟩
    cases m with
    | zero => exact P.elim
    | succ n =>
      refine ⟨ν, ρ, h, A, E, (sThen_post E P).mono fun ν1 H1 h1 k e1 A1 P1 => ?_⟩
      cases k with
      | false => exact Post.ret P1 A1 σ (E.ext e1)
      | true =>
        refine ⟨fun σ H => ∃ ν ρ h, Ab X.K ca ν h H ∧ EnvR X.K ν H ρ σ ∧ Post X.K ca W0 σ ν H (wN t s n ρ h) fun ν' H' _ o => Done ca W X.K D ν' H' o, fun σ' H' w => ⟨n, Nat.lt_succ_self n, w⟩, ν1, ρ, h1, A1, E.ext e1, (Post.bind P1).mono fun ν2 H2 h2 o e2 A2 P2 => ?_⟩
        cases o with
        | nx ρ1 => exact fun σ1 E1 => ⟨ν2, ρ1, h2, A2, E1, P2.w0⟩
        | rt x => exact Post.ret P2 A2
        | bk ρ1 => exact Post.ret P2 A2
        | ct ρ1 => exact fun σ1 E1 => ⟨ν2, ρ1, h2, A2, E1, P2.w0⟩
        | xc c x ρ1 => exact Post.ret P2 A2
/-- an iteration of HandS's is as the source tells, from (ν0, H0) on -/
def SrcR (K : PySem.W.Frag) (ca : Ca) (ν0 : Nu) (H0 : Hp) (J : It) (nxt : Src) : Prop := ∀ ν h H i, Ext ν0 ν H0 H → Ab K ca ν h H → (nxt i h = some none → J.stop i H) ∧
  ∀ x, nxt i h = some (some x) → J.go i H ∧ ∀ y H', J.yld i H y H' → ∃ ν', Ext ν ν' H H' ∧ Ab K ca ν' h H' ∧ Rep K ν' H' x y
def tI (ca : Ca) (W : WX) (K : PySem.W.Frag) (f : IF) : TI := fun σ H Rr => ∃ ν ρ h, Ab K ca ν h H ∧ EnvR K ν H ρ σ ∧ Post K ca W σ ν H (f ρ h) fun ν' H' _ nxt => ∀ J, SrcR K ca ν' H' J nxt → Rr J H'
def PXI (X : Cx) (ca : Ca) (W : WX) (tg it : Expr) (f : IF) : Prop := PI X tg it (tI ca W X.K f)
theorem PI.imp {tg it : Expr} {t t' : TI} (h : PI X tg it t) (f : ∀ σ H Q, t' σ H Q → t σ H Q) : PI X tg it t' := ⟨fun pins s σ H R I q => h.run pins s σ H R I (f _ _ _ q)⟩
theorem pxs_for {tg iter : Expr} {body : List Stmt} {i : IF} (hp : PassesOwn (model X.prog X.w) X.A X.env X.xe) (hc : X.calm = true) (hi : PXI X ca W tg iter i) (hg : PXG X ca W vs tg g) (hb : PXSs X ca W body s)
    (hs : ∀ x, foldedSetIterable iter X.env x = pure x := by intro _; rfl) : PXS X ca W (.For tg iter body [] pos) (sFor i g s) :=
  PS.imp (ps_for hp hc hi hg hb hs) fun D σ H ⟨ν, ρ, h, A, E, P⟩ => by
    refine ⟨ν, ρ, h, A, E, (sThen_post E P).mono fun ν0 H0 h0 nxt e0 A0 P0 J hJ => ?_⟩
    refine ⟨fun i m σ H => ∃ ν ρ h, Ext ν0 ν H0 H ∧ Ab X.K ca ν h H ∧ EnvR X.K ν H ρ σ ∧ Post X.K ca W0 σ ν H (forN nxt g s m i ρ h) fun ν' H' _ o => Done ca W X.K D ν' H' o, ⟨_, ν0, ρ, h0, Ext.refl _ _, A0, E.ext e0, P0⟩, ?_⟩
    rintro i m σ H ⟨ν, ρ, h, x0, A, E, P⟩
    cases m with
    | zero => exact P.elim
    | succ n =>
      obtain ⟨hstop, hgo⟩ := hJ ν h H i x0 A
      unfold forN at P
      generalize nxt i h = z at P hstop hgo
      rcases z with _ | _ | x
      · exact P.elim
      · exact .inl ⟨hstop rfl, Post.ret P A σ E⟩
      · obtain ⟨hg1, hy⟩ := hgo x rfl
        refine .inr ⟨hg1, fun σ H => ∃ ν ρ h, Ext ν0 ν H0 H ∧ Ab X.K ca ν h H ∧ EnvR X.K ν H ρ σ ∧ Post X.K ca W0 σ ν H (forN nxt g s n (i + 1) ρ h) fun ν' H' _ o => Done ca W X.K D ν' H' o, fun σ' H' w => ⟨n, Nat.lt_succ_self n, w⟩, fun y H' hyl => ?_⟩
        obtain ⟨ν1, e1, A1, r1⟩ := hy y H' hyl
        have E1 := E.ext e1
        have P1 := Post.bind (Post.ext P e1)
        have x1 := x0.trans e1
        refine ⟨ν1, ρ, h, x, A1, E1, r1, (sThen_post (σ0 := σ) (D := { D with nx := fun σ H => ∃ ν ρ h, Ext ν0 ν H0 H ∧ Ab X.K ca ν h H ∧ EnvR X.K ν H ρ σ ∧ Post X.K ca W0 σ ν H (forN nxt g s n (i + 1) ρ h) fun ν' H' _ o => Done ca W X.K D ν' H' o, ct := fun σ H => ∃ ν ρ h, Ext ν0 ν H0 H ∧ Ab X.K ca ν h H ∧ EnvR X.K ν H ρ σ ∧ Post X.K ca W0 σ ν H (forN nxt g s n (i + 1) ρ h) fun ν' H' _ o => Done ca W X.K D ν' H' o, bk := D.nx }) E1 ?_).mono fun ν2 H2 h2 ρ2 e2 A2 P2 σ2 E2 _ => ⟨ν2, ρ2, h2, A2, E2, P2.w0⟩⟩
        have key : ∀ (r : R Out) (ν9 : Nu) (H9 : Hp), Ext ν0 ν9 H0 H9 → Post X.K ca W0 σ ν9 H9 r (fun ν1 H1 h1 o => Post X.K ca W0 σ ν1 H1 ((match o with
            | .nx ρ' => forN nxt g s n (i + 1) ρ'
            | .ct ρ' => forN nxt g s n (i + 1) ρ'
            | .bk ρ' => M.ret (.nx ρ')
            | o => M.ret o : M Out) h1) fun ν' H' _ o => Done ca W X.K D ν' H' o) →
          Post X.K ca W0 σ ν9 H9 r fun ν' H' _ o => Done ca W X.K { D with nx := fun σ H => ∃ ν ρ h, Ext ν0 ν H0 H ∧ Ab X.K ca ν h H ∧ EnvR X.K ν H ρ σ ∧ Post X.K ca W0 σ ν H (forN nxt g s n (i + 1) ρ h) fun ν' H' _ o => Done ca W X.K D ν' H' o, ct := fun σ H => ∃ ν ρ h, Ext ν0 ν H0 H ∧ Ab X.K ca ν h H ∧ EnvR X.K ν H ρ σ ∧ Post X.K ca W0 σ ν H (forN nxt g s n (i + 1) ρ h) fun ν' H' _ o => Done ca W X.K D ν' H' o, bk := D.nx } ν' H' o := fun r ν9 H9 x9 p => p.mono fun ν2 H2 h2 o e2 A2 P2 => by
            cases o with
            | nx ρ1 => exact fun σ1 E1 => ⟨ν2, ρ1, h2, x9.trans e2, A2, E1, P2.w0⟩
            | rt x => exact Post.ret P2 A2
            | bk ρ1 => exact Post.ret P2 A2
            | ct ρ1 => exact fun σ1 E1 => ⟨ν2, ρ1, h2, x9.trans e2, A2, E1, P2.w0⟩
            | xc c x ρ1 => exact Post.ret P2 A2
        exact key _ _ _ x1 P1
end
end FX

set_option Elab.async false
set_option linter.all false
set_option maxRecDepth 100000
set_option maxHeartbeats 2000000
namespace PySem
open Sem (wp)
open AutoSeq1 (wpAny_loadPart')
theorem fx_meets_enumT (l : Addr) (items : Array Value) (n : Nat) (dct : Option Addr) (sl : Array (Option Value)) :
    Meets (Builtin.«enumerate.__new__» ⟨[.type "enumerate", .ref l], []⟩) (fun _ R s => s.heap.get? l = some { cls := .type "tuple", dict := dct, data := .seq items n, slots := sl } ∧
      R (.ok (.ret (.ref (s.heap.push { cls := .type "tuple_iterator", data := .fields #[.ref l, .int 0 0] }).objs.size)))
        { s with heap := (s.heap.push { cls := .type "tuple_iterator", data := .fields #[.ref l, .int 0 0] }).push { cls := .type "enumerate", data := .fields #[.none, .bool false, .ref s.heap.objs.size, rawInt 0, .none, .none] } }) :=
  .of_wp fun prog w A R s h => by
    obtain ⟨hp, g, d, tk, os⟩ := s; obtain ⟨hl, h⟩ := h
    have hsub := sub_enumerate
    have hL : Heap.IsTuple (Shared.heap ⟨hp, g, d, tk, os⟩) l items := ⟨_, hl, rfl, n, rfl⟩
    wp_walk using wpAny_loadPart' hl
    refine wpAny_stack_any fun st => wpAny_pure ?_
    split
    · rename_i c _ _ _ _ _
      cases (c == Value.type "enumerate")
      · wp_walk using wpAny_loadPart' hl, wpAny_pyIter_tuple hL
        exact ⟨_, rfl, h⟩
      · wp_walk using wpAny_loadPart' hl, wpAny_pyIter_tuple hL
        exact ⟨_, rfl, h⟩
    · wp_walk using wpAny_loadPart' hl, wpAny_pyIter_tuple hL
      exact ⟨_, rfl, h⟩
theorem fx_call_enumT {prog : Program} {w : World} {A : Around} {E : Value → Shared → Prop} {s : Shared} {l : Addr} {items : Array Value} {Q : Value → Shared → Prop} (hL : s.heap.IsTuple l items)
    (h : ∀ h', IsEnum h' (s.heap.objs.size + 1) s.heap.objs.size 0 .none → h'.IsTupleIter s.heap.objs.size l 0 → h'.objs.size = s.heap.objs.size + 2 →
      (∀ b o, s.heap.get? b = some o → h'.get? b = some o) → Q (.ref (s.heap.objs.size + 1)) { s with heap := h' }) :
    wpAny (model prog w) A (call (.type "enumerate") [.ref l]) Q E s := by
  obtain ⟨⟨c, dct, dt, sl⟩, hl, hc, n, hd⟩ := hL
  replace hc : c = .type "tuple" := hc
  replace hd : dt = .seq items n := hd
  subst hc hd
  refine callType_new F.called_enumerate (by decide) (F.typeCall_enumerate_1 _) (F.newCall_enumerate_1 _) (fun obj => F.args_object_init_2 obj _) F.entry_enumerate_new
    (fx_meets_enumT l items n dct sl) ⟨hl, ?_⟩
  have hz : (s.heap.push { cls := .type "tuple_iterator", data := .fields #[.ref l, .int 0 0] }).objs.size = s.heap.objs.size + 1 := Heap.size_push ..
  show _ ∧ _
  rw [hz]
  have he : IsEnum ((s.heap.push { cls := .type "tuple_iterator", data := .fields #[.ref l, .int 0 0] }).push
      { cls := .type "enumerate", data := .fields #[.none, .bool false, .ref s.heap.objs.size, rawInt 0, .none, .none] }) (s.heap.objs.size + 1) s.heap.objs.size 0 .none := by
    have := Heap.get?_push_size (s.heap.push { cls := .type "tuple_iterator", data := .fields #[.ref l, .int 0 0] })
      (o := { cls := .type "enumerate", data := .fields #[.none, .bool false, .ref s.heap.objs.size, rawInt 0, .none, .none] }) rfl
    rw [hz] at this; exact this
  refine ⟨⟨_, he, rfl⟩, h _ he ⟨_, Heap.get?_push_of_some _ (Heap.get?_push_size _ rfl), rfl, rfl⟩ (by rw [Heap.size_push, hz]) fun b o x => Heap.get?_push_of_some _ (Heap.get?_push_of_some _ x)⟩
end PySem
namespace FX
open PySem PySem.Spec PyProof.Rows L2 SlX
def IteT (K : PySem.W.Frag) (a : Addr) : It :=
  ⟨fun i H => ∃ (xs : List V) (x : V), SqT K H a xs ∧ xs[i]? = some x, fun i H v H' => ∃ T x, v = .ref T ∧ H T = none ∧ H' = upd H T (.tup [.int (i : Nat), x]) ∧ ∀ xs, SqT K H a xs → xs[i]? = some x, fun i H => ∃ xs : List V, SqT K H a xs ∧ xs.length ≤ i⟩
theorem turn_enumT {P : Program} {w : World} {K : PySem.W.Frag} {elts : List Expr} {kk : Nat} {tpos : Pos} (a e it : Addr) :
    Turn P w K (.Tuple elts kk tpos) (IteT K a) [e, it] e (fun i h => (∃ old, IsEnum h e it ((i : Nat) : Int) old) ∧ h.IsTupleIter it a i ∧ e ≠ it ∧ a ≠ e ∧ a ≠ it) where
  mem := by simp
  obj := fun i h st b hb => by
    obtain ⟨⟨old, he⟩, ⟨o, ho, hc, hd⟩, _⟩ := st
    have e' : b = e ∨ b = it := by simpa using hb
    rcases e' with z | z
    · rw [z]; exact ⟨_, he, fun v q => nomatch q⟩
    · rw [z]; exact ⟨o, ho, fun v q => by rw [hd] at q; cases q⟩
  keep := fun i h h' st k => let ⟨⟨old, he⟩, hi, hne⟩ := st; ⟨⟨old, k e (by simp) _ he⟩, hi.at fun o q => k it (by simp) o q, hne⟩
  item := by
    intro X hP hw hK hc i pins s σ H E I hf st hg
    subst hP hw hK
    obtain ⟨⟨old, he⟩, hit, hne, hae, hai⟩ := st
    obtain ⟨xs, x, hq, hx⟩ := hg
    obtain ⟨its, rv, p, hz⟩ := I.tuple hq
    obtain ⟨u, hu, ru⟩ := rv.get hx
    have hel : e < s.heap.objs.size := Heap.lt_size he
    have hil : it < s.heap.objs.size := by obtain ⟨_, q, _⟩ := hit; exact Heap.lt_size q
    have hlt : i < its.toArray.size := by
      rw [List.size_toArray]
      exact (List.getElem?_eq_some_iff.mp hu).1
    refine wpAny_pyNext_enum_itemD (Draws.tuple (show X.A.in1.handled = none from I.ok.hd hc) it a hai its.toArray) he ⟨hit, show s.heap.IsTuple a its.toArray from p⟩ hlt hne (by simp [hne, Ne.symm hae]) fun y h' tk hy ho hst hT hsz hk => ?_
    have ey : y = u := by
      have : its.toArray[i]? = some y := hy
      simp only [List.getElem?_toArray] at this
      rw [hu] at this
      exact (Option.some.inj this).symm
    subst ey
    refine ⟨_, rfl, wpAny_letOwnedTupleGo_enum (s := { s with heap := h', toks := tk + 1 }) ho fun h'' he' sb => ?_⟩
    have hT2 : h''.get? s.heap.objs.size = some { cls := .type "tuple", data := .seq #[.int i tk, y] } := (sb.2 _ (Nat.ne_of_gt hel)).trans hT
    have new : ObjOk X.prog X.w (upd H s.heap.objs.size (.tup [.int (i : Nat), x])) h'' s.heap.objs.size (.tup [.int (i : Nat), x]) :=
      ⟨by show 2 ≤ sizeLine; decide, [.int i tk, y], .cons ⟨_, rfl⟩ (.cons ru .nil), ⟨_, hT2, rfl, _, rfl⟩⟩
    have I1 : Inv X pins σ (upd H s.heap.objs.size (.tup [.int (i : Nat), x])) { s with heap := h'', toks := tk + 1 } :=
      I.turnedNew (ch := [e, it]) (fun b ob hb q => (sb.2 b (fun z => hb (by simp [z]))).trans (hk b ob (fun z => hb (by simp [z])) (fun z => hb (by simp [z])) q)) hf (Nat.le_refl _) new
    refine ⟨.ref s.heap.objs.size, _, I1, rfl, ⟨_, x, rfl, I.hok.fresh (Nat.le_refl _), rfl, fun ys hy => by rw [I.tuple_inj hy hq]; exact hx⟩, ⟨⟨y, ?_⟩, hst.1.at fun o q => (sb.2 it (Ne.symm hne)).trans q, hne, hae, hai⟩, fun b hb => ?_⟩
    · have e1 : ((i + 1 : Nat) : Int) = (i : Int) + 1 := by omega
      rw [e1]; exact he'
    · have hb' : b < s.heap.objs.size := by
        have e' : b = e ∨ b = it := by simpa using hb
        rcases e' with z | z
        · rw [z]; exact hel
        · rw [z]; exact hil
      rw [upd_ne (Nat.ne_of_lt hb')]
      exact (hf b hb).1
  done := by
    intro X hP hw hK hc i pins s σ H E I hf st hg
    subst hP hw hK
    obtain ⟨⟨old, he⟩, hit, hne, hae, hai⟩ := st
    obtain ⟨xs, hq, hx⟩ := hg
    obtain ⟨its, rv, p, hz⟩ := I.tuple hq
    obtain ⟨f0, f1, f2, f3, f4, f5⟩ := hf it (by simp)
    have hl := rv.length
    unfold pyNext
    have hT : s.TypeIs (.ref e) "enumerate" := ⟨_, he, rfl⟩
    refine wpAny_bind (wpAny_attempt (wpAny_callSpecial?_slot (name := Str.ofString "__next__") hT F.slot_enumerate_next
      (wpAny_call_entry F.slot_enumerate_next hT F.entry_enumerate_next ?_ (F.args_enumerate_next_1 _))))
    show wpAny _ _ (field (.ref e) 2 >>= _) _ _ _
    refine wpAny_bind (wpAny_field he rfl (x := .ref it) rfl ?_)
    refine wpAny_bind (wpAny_nextOf_tuple_end (show X.A.in1.handled = none from I.ok.hd hc) hit (show s.heap.IsTuple a its.toArray from p) (by simp; omega) fun h' y he' hy => ?_)
    obtain ⟨o, ho, hc'⟩ := hy
    refine wpAny_bind (wpAny_isInstance (T := "StopIteration") (b := true) ⟨o, ho, hc'⟩ isSubtype_stop ?_)
    exact wpAny_pure ⟨rfl, I.turned (t' := s.toks) (fun b o hb q => he' b o hb q) f0 f1 f3 f4 f5⟩
  self := fun A i s Q E st h => let ⟨⟨_, he⟩, _⟩ := st; wpAny_pyIter_enum he h
def iEnumA (K : PySem.W.Frag) (ta : TA) : TI := fun σ H R => ta σ H fun vs H1 => ∃ a xs, vs = [.ref a] ∧ ((SqL K H1 a xs ∧ R (Ite K a) H1) ∨ (SqT K H1 a xs ∧ R (IteT K a) H1))
theorem pi_enumA {X : Cx} {e : Expr} {ta : TA} {p pos tpos : Pos} {elts : List Expr} {kk : Nat} (hg : Gl X "enumerate") (hm : X.mg "enumerate" = none) (ha : PA X [e] ta) (hs : starEach [e] X.env = [(false, eval e X.env)] := by rfl) :
    PI X (.Tuple elts kk tpos) (.Call (.Name "enumerate" p) [e] [] pos) (iEnumA X.K ta) := by
  refine ⟨fun pins s σ H R I h => ?_⟩
  refine Call_ (ld_blt I hg hm boot_enumerate (PyProof.Rows.callWith_type1 (thn (ha.run pos pins s σ H _ I h) fun us s1 ⟨vs, H1, I1, r1, q1⟩ => ?_) hs rfl))
  obtain ⟨a, xs, ex, q1⟩ := q1
  subst ex
  cases r1 with
  | cons r rr =>
    cases rr
    cases r
    have fresh2 : ∀ b, b ∈ [s1.heap.objs.size + 1, s1.heap.objs.size] → FpOk X pins H1 b := fun b hb => by
      have e' : b = s1.heap.objs.size + 1 ∨ b = s1.heap.objs.size := by simpa using hb
      have hle : s1.heap.objs.size ≤ b := by
        rcases e' with z | z
        · rw [z]; exact Nat.le_add_right _ _
        · rw [z]; exact Nat.le_refl _
      exact I1.fpOk hle (I1.hok.fresh hle)
    rcases q1 with ⟨hq, q⟩ | ⟨hq, q⟩
    · obtain ⟨its, rv, p', hz⟩ := I1.list hq
      refine call_enumerate_list p'.isList fun h' he hit hsz hk => wpAny_pyIter_enum he ?_
      have I2 : Inv X pins σ H1 { s1 with heap := h' } := I1.kept (t' := s1.toks) hk
      exact ⟨s1.heap.objs.size + 1, [s1.heap.objs.size + 1, s1.heap.objs.size], _, _, H1, rfl, I2, turn_enum a (s1.heap.objs.size + 1) s1.heap.objs.size, ⟨⟨.none, he⟩, hit, Nat.succ_ne_self _⟩, fresh2, q⟩
    · obtain ⟨its, rv, p', hz⟩ := I1.tuple hq
      have hlt : a < s1.heap.objs.size := by
        obtain ⟨o, ho, _⟩ := id p'
        exact Heap.lt_size ho
      refine fx_call_enumT (show s1.heap.IsTuple a its.toArray from p') fun h' he hit hsz hk => wpAny_pyIter_enum he ?_
      have I2 : Inv X pins σ H1 { s1 with heap := h' } := I1.kept (t' := s1.toks) hk
      exact ⟨s1.heap.objs.size + 1, [s1.heap.objs.size + 1, s1.heap.objs.size], _, _, H1, rfl, I2, turn_enumT a (s1.heap.objs.size + 1) s1.heap.objs.size, ⟨⟨.none, he⟩, hit, Nat.succ_ne_self _, Nat.ne_of_lt (Nat.lt_succ_of_lt hlt), Nat.ne_of_lt hlt⟩, fresh2, q⟩
def iSeqA (K : PySem.W.Frag) (te : TE) : TI := fun σ H R => te σ H fun x H1 => ∃ a, x = .ref a ∧ (((∃ xs, SqL K H1 a xs) ∧ R (Itl K a) H1) ∨ ((∃ xs, SqT K H1 a xs) ∧ R (Itt K a) H1))
theorem pi_seqA {X : Cx} {tg l : Expr} {tl : TE} (hl : PE X l tl) : PI X tg l (iSeqA X.K tl) := by
  refine ⟨fun pins s σ H R I h => ?_⟩
  refine thn (hl.run pins s σ H _ I h) fun v s1 ⟨x, H1, I1, r1, q1⟩ => ?_
  obtain ⟨a, e, q1⟩ := q1
  subst e
  cases r1
  have fresh1 : ∀ b, b ∈ [s1.heap.objs.size] → FpOk X pins H1 b := fun b hb => by
    have e : b = s1.heap.objs.size := by simpa using hb
    subst e
    exact I1.fpOk (Nat.le_refl _) (I1.hok.fresh (Nat.le_refl _))
  rcases q1 with ⟨⟨xs, hq⟩, q⟩ | ⟨⟨xs, hq⟩, q⟩
  · obtain ⟨its, rv, p, hz⟩ := I1.list hq
    refine wpAny_pyIter_list p.isList ?_
    exact ⟨s1.heap.objs.size, [s1.heap.objs.size], _, _, H1, rfl, I1.kept (t' := s1.toks) fun b o e => Heap.get?_push_of_some _ e, turn_list a _, ⟨_, Heap.get?_push_size _ rfl, rfl, rfl⟩, fresh1, q⟩
  · obtain ⟨its, rv, p, hz⟩ := I1.tuple hq
    refine wpAny_pyIter_tuple (show s1.heap.IsTuple a its.toArray from p) ?_
    exact ⟨s1.heap.objs.size, [s1.heap.objs.size], _, _, H1, rfl, I1.kept (t' := s1.toks) fun b o e => Heap.get?_push_of_some _ e, turn_tuple a _, ⟨_, Heap.get?_push_size _ rfl, rfl, rfl⟩, fresh1, q⟩
def srcOf : PV → M Src
  | .tup xs => M.ret (srcL xs)
  | .kl _ xs => M.ret (srcL xs)
  | .ref n => mAt n fun o => match o with
    | .lst _ => M.ret (srcH n)
    | _ => M.bad
  | _ => M.bad
def iSeq (f : EF) : IF := fun ρ => (f ρ).bind srcOf
def iEnu (f : EF) : IF := fun ρ => (f ρ).bind fun x => (srcOf x).bind fun s => M.ret (enumS s)
def rngOk (i : Int) : Bool := decide (-(2 ^ 62) ≤ i ∧ i < 2 ^ 62)
def iRg1 (f : EF) : IF := fun ρ => (f ρ).bind fun x => match x with
  | .int j => if rngOk j then M.ret (srcR 0 j.toNat) else M.bad
  | _ => M.bad
def iRg2 (f g : EF) : IF := fun ρ => (f ρ).bind fun x => (g ρ).bind fun y => match x, y with
  | .int i, .int j => if rngOk i && rngOk j then M.ret (srcR i (j - i).toNat) else M.bad
  | _, _ => M.bad
/-- both lists, both tuples -/
def zipOf (x y : PV) : M Src := match x, y with
  | .tup xs, .tup ys => M.ret (zipS (srcL xs) (srcL ys))
  | .ref n, .ref m => mAt n fun o => match o with
    | .lst _ => mAt m fun o' => match o' with
      | .lst _ => M.ret (zipS (srcH n) (srcH m))
      | _ => M.bad
    | _ => M.bad
  | _, _ => M.bad
def iZip (f g : EF) : IF := fun ρ => (f ρ).bind fun x => (g ρ).bind fun y => zipOf x y
section
variable {X : Cx} {ca : Ca} {W : WX} {e e2 tg : Expr} {f f2 : EF} {K : PySem.W.Frag} {ν0 ν : Nu} {H0 H : Hp} {h : MH}
/-- what a value that is walked is -/
theorem srcOf_post {x : PV} {v : V} {σ : L2.St} {Φ : Nu → Hp → MH → Src → Prop} (A : Ab K ca ν h H) (r : Rep K ν H x v) (P : Post K ca W σ ν H (srcOf x h) Φ) :
    ∃ a s, v = .ref a ∧ Φ ν H h s ∧ (((∃ xs, SqL K H a xs) ∧ SrcR K ca ν H (Itl K a) s ∧ SrcR K ca ν H (Ite K a) (enumS s)) ∨ ((∃ xs, SqT K H a xs) ∧ SrcR K ca ν H (Itt K a) s ∧ SrcR K ca ν H (IteT K a) (enumS s))) := by
  -- both walks, given what stands at a
  have both : ∀ (s : Src) (a : Addr), (∀ ν' h' H' i, Ext ν ν' H H' → Ab K ca ν' h' H' → ∃ xs vs, s i h' = some xs[i]? ∧ SqL K H' a vs ∧ RepL K ν' H' xs vs) → SrcR K ca ν H (Itl K a) s ∧ SrcR K ca ν H (Ite K a) (enumS s) := by
    intro s a hs
    constructor
    · intro ν' h' H' i e' A'
      obtain ⟨xs, vs, e1, q, rl⟩ := hs ν' h' H' i e' A'
      rw [e1]
      refine ⟨fun z => ⟨vs, q, ?_⟩, fun x z => ?_⟩
      · have := Option.some.inj z
        rw [← rl.length]; exact List.getElem?_eq_none_iff.mp this
      · obtain ⟨w, hw, rw'⟩ := rl.get (Option.some.inj z)
        refine ⟨⟨vs, w, q, hw⟩, fun y H'' hy => ?_⟩
        obtain ⟨rfl, hy2⟩ := hy
        have := hy2 vs q
        rw [hw] at this; cases this
        exact ⟨ν', Ext.refl _ _, A', rw'⟩
    · intro ν' h' H' i e' A'
      obtain ⟨xs, vs, e1, q, rl⟩ := hs ν' h' H' i e' A'
      unfold enumS
      rw [e1]
      refine ⟨fun z => ⟨vs, q, ?_⟩, fun x z => ?_⟩
      · cases ex : xs[i]? with
        | none => rw [← rl.length]; exact List.getElem?_eq_none_iff.mp ex
        | some w => rw [ex] at z; cases z
      · cases ex : xs[i]? with
        | none => rw [ex] at z; cases z
        | some w0 =>
          rw [ex] at z
          cases z
          obtain ⟨w, hw, rw'⟩ := rl.get ex
          refine ⟨⟨vs, w, q, hw⟩, fun y H'' hy => ?_⟩
          obtain ⟨T, u, rfl, hT, rfl, hy2⟩ := hy
          have := hy2 vs q
          rw [hw] at this; cases this
          obtain ⟨e3, A3⟩ := A'.oth (o := .tup [.int (i : Nat), w]) hT
          exact ⟨ν', e3, A3, .tup upd_same (.cons .int (.cons (rw'.ext e3) .nil))⟩
  have bothT : ∀ (s : Src) (a : Addr), (∀ ν' h' H' i, Ext ν ν' H H' → Ab K ca ν' h' H' → ∃ xs vs, s i h' = some xs[i]? ∧ SqT K H' a vs ∧ RepL K ν' H' xs vs) → SrcR K ca ν H (Itt K a) s ∧ SrcR K ca ν H (IteT K a) (enumS s) := by
    intro s a hs
    constructor
    · intro ν' h' H' i e' A'
      obtain ⟨xs, vs, e1, q, rl⟩ := hs ν' h' H' i e' A'
      rw [e1]
      refine ⟨fun z => ⟨vs, q, ?_⟩, fun x z => ?_⟩
      · have := Option.some.inj z
        rw [← rl.length]; exact List.getElem?_eq_none_iff.mp this
      · obtain ⟨w, hw, rw'⟩ := rl.get (Option.some.inj z)
        refine ⟨⟨vs, w, q, hw⟩, fun y H'' hy => ?_⟩
        obtain ⟨rfl, hy2⟩ := hy
        have := hy2 vs q
        rw [hw] at this; cases this
        exact ⟨ν', Ext.refl _ _, A', rw'⟩
    · intro ν' h' H' i e' A'
      obtain ⟨xs, vs, e1, q, rl⟩ := hs ν' h' H' i e' A'
      unfold enumS
      rw [e1]
      refine ⟨fun z => ⟨vs, q, ?_⟩, fun x z => ?_⟩
      · cases ex : xs[i]? with
        | none => rw [← rl.length]; exact List.getElem?_eq_none_iff.mp ex
        | some w => rw [ex] at z; cases z
      · cases ex : xs[i]? with
        | none => rw [ex] at z; cases z
        | some w0 =>
          rw [ex] at z
          cases z
          obtain ⟨w, hw, rw'⟩ := rl.get ex
          refine ⟨⟨vs, w, q, hw⟩, fun y H'' hy => ?_⟩
          obtain ⟨T, u, rfl, hT, rfl, hy2⟩ := hy
          have := hy2 vs q
          rw [hw] at this; cases this
          obtain ⟨e3, A3⟩ := A'.oth (o := .tup [.int (i : Nat), w]) hT
          exact ⟨ν', e3, A3, .tup upd_same (.cons .int (.cons (rw'.ext e3) .nil))⟩
  cases r with
  | @tup xs a vs q rl => exact ⟨a, _, rfl, Post.ret P A, .inr ⟨⟨vs, .of q⟩, bothT _ a fun ν' h' H' i e' A' => ⟨xs, vs, rfl, e'.toMon.sqT (.of q), rl.ext e'⟩⟩⟩
  | @kl a xs vs q rl => exact ⟨a, _, rfl, Post.ret P A, .inl ⟨⟨vs, q.sq⟩, both _ a fun ν' h' H' i e' A' => ⟨xs, vs, rfl, (e'.toMon.sqC q).sq, rl.ext e'⟩⟩⟩
  | @ref n a l e =>
    cases ho : h.get n with
    | none =>
      have P' : Post K ca W σ ν H (mAt n (fun o => match o with
        | .lst _ => M.ret (srcH n)
        | _ => M.bad) h) Φ := P
      unfold mAt at P'
      rw [ho] at P'
      exact P'.elim
    | some o =>
      have P' : Post K ca W σ ν H (mAt n (fun o => match o with
        | .lst _ => M.ret (srcH n)
        | _ => M.bad) h) Φ := P
      rw [mAt_ok ho] at P'
      have q := A.at_ _ o ho
      rw [e] at q
      cases o with
      | lst xs =>
        obtain ⟨a', vs, e1, e2, rl⟩ := q
        cases e1
        refine ⟨a, _, rfl, Post.ret P' A, ?_⟩
        -- the list as it stands at each turn
        have J1 : SrcR K ca ν H (Itl K a) (srcH n) := by
          intro ν' h' H' i e' A'
          have en : ν' n = [a] := (e'.nu n (by rw [e]; exact List.cons_ne_nil _ _)).trans e
          unfold srcH
          cases ho' : h'.get n with
          | none => exact ⟨fun z => (nomatch z), fun x z => (nomatch z)⟩
          | some o' =>
            have q' := A'.at_ n o' ho'
            rw [en] at q'
            cases o' with
            | lst ys =>
              obtain ⟨a2, ws, e3, e4, rl'⟩ := q'
              cases e3
              refine ⟨fun z => ⟨ws, .of e4, ?_⟩, fun x z => ?_⟩
              · have := Option.some.inj z
                rw [← rl'.length]; exact List.getElem?_eq_none_iff.mp this
              · obtain ⟨w, hw, rw'⟩ := rl'.get (Option.some.inj z)
                refine ⟨⟨ws, w, .of e4, hw⟩, fun y H'' hy => ?_⟩
                obtain ⟨rfl, hy2⟩ := hy
                have := hy2 ws (.of e4)
                rw [hw] at this; cases this
                exact ⟨ν', Ext.refl _ _, A', rw'⟩
            | _ => exact ⟨fun z => (nomatch z), fun x z => (nomatch z)⟩
        have J2 : SrcR K ca ν H (Ite K a) (enumS (srcH n)) := by
          intro ν' h' H' i e' A'
          have en : ν' n = [a] := (e'.nu n (by rw [e]; exact List.cons_ne_nil _ _)).trans e
          unfold enumS srcH
          cases ho' : h'.get n with
          | none => exact ⟨fun z => (nomatch z), fun x z => (nomatch z)⟩
          | some o' =>
            have q' := A'.at_ n o' ho'
            rw [en] at q'
            cases o' with
            | lst ys =>
              obtain ⟨a2, ws, e3, e4, rl'⟩ := q'
              cases e3
              refine ⟨fun z => ⟨ws, .of e4, ?_⟩, fun x z => ?_⟩
              · cases ex : ys[i]? with
                | none => rw [← rl'.length]; exact List.getElem?_eq_none_iff.mp ex
                | some w =>
                  have z' : (match (some ys[i]? : Option (Option PV)) with
                    | some (some x) => some (some (PV.tup [.int i, x]))
                    | r => r) = some none := z
                  rw [ex] at z'; cases z'
              · cases ex : ys[i]? with
                | none =>
                  have z' : (match (some ys[i]? : Option (Option PV)) with
                    | some (some x) => some (some (PV.tup [.int i, x]))
                    | r => r) = some (some x) := z
                  rw [ex] at z'; cases z'
                | some w0 =>
                  have z' : (match (some ys[i]? : Option (Option PV)) with
                    | some (some x) => some (some (PV.tup [.int i, x]))
                    | r => r) = some (some x) := z
                  rw [ex] at z'
                  cases z'
                  obtain ⟨w, hw, rw'⟩ := rl'.get ex
                  refine ⟨⟨ws, w, .of e4, hw⟩, fun y H'' hy => ?_⟩
                  obtain ⟨T, u, rfl, hT, rfl, hy2⟩ := hy
                  have := hy2 ws (.of e4)
                  rw [hw] at this; cases this
                  obtain ⟨e5, A5⟩ := A'.oth (o := .tup [.int (i : Nat), w]) hT
                  exact ⟨ν', e5, A5, .tup upd_same (.cons .int (.cons (rw'.ext e5) .nil))⟩
            | _ => exact ⟨fun z => (nomatch z), fun x z => (nomatch z)⟩
        exact .inl ⟨⟨vs, .of e2⟩, J1, J2⟩
      | _ => exact P'.elim
  | _ => exact P.elim
theorem pxi_seq (he : PX X ca W e f) : PXI X ca W tg e (iSeq f) :=
  PI.imp (pi_seqA he) fun σ H Rr ⟨ν, ρ, h, A, E, P⟩ => ⟨ν, ρ, h, A, E, (Post.bind P).mono fun ν1 H1 h1 x e1 A1 P1 v rv => by
    obtain ⟨a, s, rfl, q, z⟩ := srcOf_post A1 rv P1
    rcases z with ⟨z1, z2, _⟩ | ⟨z1, z2, _⟩
    · exact ⟨a, rfl, .inl ⟨z1, q _ z2⟩⟩
    · exact ⟨a, rfl, .inr ⟨z1, q _ z2⟩⟩⟩
theorem pxa_one (he : PX X ca W e f) (hs : starEach [e] X.env = (false, eval e X.env) :: starEach [] X.env := by rfl) : PXA X ca W [e] (aCons f aNil) := pxa_cons he pxa_nil hs
theorem aOne_post {ρ : Env} {σ : L2.St} {Φ : Nu → Hp → MH → List PV → Prop} (P : Post K ca W σ ν H ((f ρ).bind (fun x => M.ret [x]) h) Φ) : Post K ca W σ ν H (aCons f aNil ρ h) Φ := P
theorem pxi_enum {p pos tpos : Pos} {elts : List Expr} {kk : Nat} (hg : Gl X "enumerate") (hm : X.mg "enumerate" = none) (he : PX X ca W e f) (hs : starEach [e] X.env = [(false, eval e X.env)] := by rfl) :
    PXI X ca W (.Tuple elts kk tpos) (.Call (.Name "enumerate" p) [e] [] pos) (iEnu f) :=
  PI.imp (pi_enumA hg hm (pa_cons he pa_nil hs) hs) fun σ H Rr ⟨ν, ρ, h, A, E, P⟩ => ⟨ν, ρ, h, A, E, (Post.bind P).mono fun ν1 H1 h1 x e1 A1 P1 v rv => by
    obtain ⟨a, s, rfl, q, z⟩ := srcOf_post A1 rv (Post.bind P1)
    have q' := Post.ret q A1
    rcases z with ⟨⟨xs, z1⟩, _, z2⟩ | ⟨⟨xs, z1⟩, _, z2⟩
    · exact ⟨a, xs, rfl, .inl ⟨z1, q' _ z2⟩⟩
    · exact ⟨a, xs, rfl, .inr ⟨z1, q' _ z2⟩⟩⟩
theorem srcR_range {lo : Int} {n : Nat} : SrcR K ca ν H (Itr lo n) (srcR lo n) := by
  intro ν' h' H' i e' A'
  unfold srcR
  constructor
  · intro z
    by_cases hi : i < n
    · rw [if_pos hi] at z; cases z
    · exact Nat.le_of_not_lt hi
  · intro x z
    by_cases hi : i < n
    · rw [if_pos hi] at z
      cases z
      refine ⟨hi, fun y H'' hy => ?_⟩
      obtain ⟨rfl, rfl⟩ := hy
      exact ⟨ν', Ext.refl _ _, A', .int⟩
    · rw [if_neg hi] at z; cases z
theorem pxi_range1 {p pos : Pos} (hg : Gl X "range") (hm : X.mg "range" = none) (he : PX X ca W e f) (hs : starEach [e] X.env = [(false, eval e X.env)] := by rfl) : PXI X ca W tg (.Call (.Name "range" p) [e] [] pos) (iRg1 f) :=
  PI.imp (pi_range1 hg hm (pa_cons he pa_nil hs) hs) fun σ H Rr ⟨ν, ρ, h, A, E, P⟩ => ⟨ν, ρ, h, A, E, (Post.bind P).mono fun ν1 H1 h1 x e1 A1 P1 v rv => by
    cases rv with
    | @int j =>
      have P2 : Post X.K ca W σ ν1 H1 ((if rngOk j then M.ret (srcR 0 j.toNat) else M.bad : M Src) h1) fun ν' H' _ nxt => ∀ J, SrcR X.K ca ν' H' J nxt → Rr J H' := P1
      cases hj : rngOk j with
      | false => rw [hj] at P2; exact P2.elim
      | true =>
        rw [hj] at P2
        obtain ⟨h1, h2⟩ := of_decide_eq_true hj
        exact ⟨j, rfl, h1, h2, Post.ret P2 A1 _ srcR_range⟩
    | _ => exact P1.elim⟩
theorem pxi_range2 {p pos : Pos} (hg : Gl X "range") (hm : X.mg "range" = none) (he : PX X ca W e f) (he2 : PX X ca W e2 f2) (hs : starEach [e, e2] X.env = [(false, eval e X.env), (false, eval e2 X.env)] := by rfl) (hs2 : starEach [e2] X.env = [(false, eval e2 X.env)] := by rfl) :
    PXI X ca W tg (.Call (.Name "range" p) [e, e2] [] pos) (iRg2 f f2) :=
  PI.imp (pi_range2 hg hm (pa_cons he (pa_cons he2 pa_nil hs2) (hs.trans (by rw [hs2]))) hs hs2) fun σ H Rr ⟨ν, ρ, h, A, E, P⟩ => ⟨ν, ρ, h, A, E, (Post.bind P).mono fun ν1 H1 h1 x e1 A1 P1 v rv => ⟨ν1, ρ, h1, A1, E.ext e1, (Post.bind P1).mono fun ν2 H2 h2 y e2 A2 P2 w rw' => by
    cases rv with
    | @int i =>
      cases rw' with
      | @int j =>
        have P3 : Post X.K ca W σ ν2 H2 ((if rngOk i && rngOk j then M.ret (srcR i (j - i).toNat) else M.bad : M Src) h2) fun ν' H' _ nxt => ∀ J, SrcR X.K ca ν' H' J nxt → Rr J H' := P2
        cases hj : (rngOk i && rngOk j) with
        | false => rw [hj] at P3; exact P3.elim
        | true =>
          rw [hj] at P3
          obtain ⟨hi, hj⟩ := Bool.and_eq_true_iff.mp hj
          obtain ⟨h1, h2⟩ := of_decide_eq_true hi
          obtain ⟨h3, h4⟩ := of_decide_eq_true hj
          exact ⟨i, j, rfl, ⟨h1, h2, h3, h4⟩, Post.ret P3 A2 _ srcR_range⟩
      | _ => exact P2.elim
    | _ => exact P2.elim⟩⟩
end
end FX

set_option Elab.async false
set_option linter.all false
set_option maxRecDepth 100000
set_option maxHeartbeats 2000000
namespace FX
open PySem PySem.Spec PyProof.Rows L2 SlX
section
variable {K : PySem.W.Frag} {ν : Nu} {H : Hp}
theorem wipeE_length (ρ : Env) : ∀ vs : List Nat, (wipeE ρ vs).length = ρ.length
  | [] => rfl
  | v :: vs => by
    show ((wipeE ρ vs).set v none).length = _
    rw [List.length_set, wipeE_length ρ vs]
theorem EnvR.none {ρ : Env} {σ : L2.St} (r : EnvR K ν H ρ σ) (i : Nat) : EnvR K ν H (ρ.set i none) (σ.set i none) := by
  refine ⟨by rw [List.length_set, List.length_set]; exact r.1, fun j y hy => ?_⟩
  by_cases hj : j = i
  · subst hj
    by_cases hl : j < ρ.length
    · rw [List.getElem?_set_self hl] at hy; cases hy
    · rw [List.getElem?_eq_none_iff.mpr (by rw [List.length_set]; omega)] at hy; cases hy
  · rw [List.getElem?_set_ne (Ne.symm hj)] at hy
    obtain ⟨w, h1, h2⟩ := r.2 j y hy
    exact ⟨w, by rw [List.getElem?_set_ne (Ne.symm hj)]; exact h1, h2⟩
theorem EnvR.wipe {ρ : Env} {σ : L2.St} (r : EnvR K ν H ρ σ) : ∀ vs : List Nat, EnvR K ν H (wipeE ρ vs) (L2.wipe σ vs)
  | [] => r
  | v :: vs => (EnvR.wipe r vs).none v
end
/-- in a comprehension's block -/
abbrev Blk (X : Cx) (scope : Scope) (P : Cx → Prop) : Prop := ∀ (s : Shared) (H : Hp) (C : Addr) (cl : List (Str × Addr)) (fp : List Addr), P (X.blk s H scope (compEnvC scope cl C X.env) fp)
def PXTs (X : Cx) (ca : Ca) (W : WX) (ts : List Expr) (t : TF) : Prop := PTs X ts (tT ca W X.K t)
section
variable {X : Cx} {ca : Ca} {W : WX} {t : TF} {a : Expr}
theorem pxts_nil : PXTs X ca W [] tYes := by
  have h := pts_nil (X := X)
  exact ⟨fun pins s σ H Q I ⟨ν, ρ, hp, A, E, P⟩ => h.run pins s σ H Q I (Post.ret P A)⟩
theorem pxts_one (ha : PXT X ca W a t) : PXTs X ca W [a] t := pts_one ha
end
section
variable {X : Cx} {ca : Ca} {W : WX} {elt tg iter : Expr} {ifs : List Expr} {scope : Scope} {own : List (Str × Nat)} {pos : Pos} {i : IF} {g : GF} {t : TF} {e : EF}
/-- an object that stands already becomes ours -/
theorem Ab.adopt {K : PySem.W.Frag} {ν1 ν : Nu} {H1 H : Hp} {h : MH} {D : Addr} {acc : List PV} {vacc : List V} (x : Ext ν1 ν H1 H) (A : Ab K ca ν h H) (hD : H1 D = none) (dead : ∀ n, D ∉ ν n) (hl : H D = some (.lst vacc)) (r : RepL K ν H acc vacc) :
    Ext ν1 (nuN ν h.nx [D]) H1 H ∧ Ab K ca (nuN ν h.nx [D]) (h.new (.lst acc)) H ∧ ∀ n, ν n ≠ [] → nuN ν h.nx [D] n = ν n := by
  have nx : ν h.nx = [] := A.dom _ MH.get_nx
  have keep : ∀ n, ν n ≠ [] → nuN ν h.nx [D] n = ν n := fun n hn => nuN_ne fun z => hn (by rw [z]; exact nx)
  have m : Mon ν (nuN ν h.nx [D]) H H := ⟨keep, fun _ _ z => z, fun _ _ _ z => z⟩
  refine ⟨⟨⟨fun n hn => ?_, x.tups, x.frzs⟩, x.fr, fun n a h1 h2 => ?_, x.live⟩, ⟨fun n hn => ?_, fun n om hm => ?_, fun n k a h1 h2 => ?_⟩, keep⟩
  · have e := x.nu n hn
    rw [keep n (by rw [e]; exact hn), e]
  · by_cases hn : n = h.nx
    · rw [hn, nuN_same] at h2
      rw [List.mem_singleton.mp h2]; exact hD
    · rw [nuN_ne hn] at h2
      exact x.new n a h1 h2
  · by_cases hm : n = h.nx
    · rw [hm, MH.get_new] at hn; cases hn
    · rw [MH.get_new_ne hm] at hn
      rw [nuN_ne hm]; exact A.dom n hn
  · by_cases hmn : n = h.nx
    · subst hmn
      rw [MH.get_new] at hm
      cases hm
      rw [nuN_same]
      exact ⟨D, vacc, rfl, hl, r.mon m⟩
    · rw [MH.get_new_ne hmn] at hm
      rw [nuN_ne hmn]
      exact (A.at_ n om hm).mon m fun _ _ => rfl
  · by_cases h3 : n = h.nx
    · by_cases h4 : k = h.nx
      · rw [h3, h4]
      · rw [h3, nuN_same] at h1
        rw [nuN_ne h4, List.mem_singleton.mp h1] at h2
        exact absurd h2 (dead k)
    · rw [nuN_ne h3] at h1
      by_cases h4 : k = h.nx
      · rw [h4, nuN_same] at h2
        rw [List.mem_singleton.mp h2] at h1
        exact absurd h1 (dead n)
      · rw [nuN_ne h4] at h2
        exact A.inj n k a h1 h2
theorem wipe_set {x : Option V} : ∀ (us : List Nat) (τ : L2.St) (i : Nat), (L2.wipe (τ.set i x) us).set i none = (L2.wipe τ us).set i none
  | [], τ, i => by
    show (τ.set i x).set i none = τ.set i none
    rw [List.set_set]
  | a :: us, τ, i => by
    show ((L2.wipe (τ.set i x) us).set a none).set i none = ((L2.wipe τ us).set a none).set i none
    by_cases ha : a = i
    · rw [ha, List.set_set, List.set_set, wipe_set us τ i]
    · rw [List.set_comm _ _ ha, List.set_comm _ _ ha, wipe_set us τ i]
theorem wipe_wipe : ∀ (vs : List Nat) (σ : L2.St), L2.wipe (L2.wipe σ vs) vs = L2.wipe σ vs
  | [], _ => rfl
  | v :: vs, σ => by
    show (L2.wipe ((L2.wipe σ vs).set v none) vs).set v none = (L2.wipe σ vs).set v none
    rw [wipe_set vs (L2.wipe σ vs) v, wipe_wipe vs σ]
theorem lst_line {n : Nat} (h : n < 10000000) : n < sizeLine := by
  rw [sizeLine_eq]; omega
/-- the reading of a comprehension: from the list that is walked to the list that is made -/
theorem lc_read {K : PySem.W.Frag} {ν : Nu} {ρ : Env} {h : MH} {σ : L2.St} {H : Hp} {Q : VK} {vs : List Nat} (A : Ab K ca ν h H) (E : EnvR K ν H ρ σ) (P : Post K ca W σ ν H (eLc i vs g t e ρ h) fun ν' H' _ x => ∀ v, Rep K ν' H' x v → Q v H') :
    tLc (tI ca W K i) (tG ca W0 K vs g) (tT ca W0 K t) (tE ca W0 K e) vs σ H Q := by
  refine ⟨ν, ρ, h, A, E, (Post.bind P).mono fun ν1 H1 h1 nxt e1 A1 P1 J hJ D hD => ?_⟩
  have E1 := (E.ext e1).wipe vs
  have dead : ∀ n, D ∉ ν1 n := fun n hn => A1.live hn hD
  let Tot (acc : List PV) (r : R (List PV)) : Prop := match r with
    | .ok xs h' => Post K ca W σ ν1 H1 (mNew (.lst (acc ++ xs)) h') fun ν' H' _ x => ∀ v, Rep K ν' H' x v → Q v H'
    | _ => False
  have P2 : Tot [] (compN nxt g t e fuel 0 0 (wipeE ρ vs) h1) := by
    unfold M.bind noX at P1
    revert P1
    show _ → Tot [] _
    cases compN nxt g t e fuel 0 0 (wipeE ρ vs) h1 with
    | ok xs h' => exact fun p => p
    | exc c x h' => exact fun p => p
    | bad => exact fun p => p
  let Wi (j m : Nat) (H : Hp) : Prop := ∃ ν h acc vacc, Ext ν1 ν H1 H ∧ Ab K ca ν h H ∧ (∀ n, D ∉ ν n) ∧ H D = some (.lst vacc) ∧ RepL K ν H acc vacc ∧ Tot acc (compN nxt g t e m j vacc.length (wipeE ρ vs) h)
  obtain ⟨e2, A2⟩ := A1.oth (o := .lst []) hD
  refine ⟨Wi, ⟨fuel, ν1, h1, [], [], e2, A2, dead, upd_same, .nil, P2⟩, ?_⟩
  rintro j m Hc ⟨νc, hc, acc, vacc, xc, Ac, dc, lc, rc, T⟩
  cases m with
  | zero => exact T.elim
  | succ m =>
    obtain ⟨hstop, hgo⟩ := hJ νc hc Hc j xc Ac
    unfold compN at T
    generalize nxt j hc = z at T hstop hgo
    rcases z with _ | _ | x
    · exact T.elim
    · refine .inl ⟨hstop rfl, ?_⟩
      have T' : Post K ca W σ ν1 H1 (mNew (.lst (acc ++ [])) hc) fun ν' H' _ x => ∀ v, Rep K ν' H' x v → Q v H' := T
      rw [List.append_nil] at T'
      obtain ⟨x3, A3, _⟩ := Ab.adopt xc Ac hD dc lc rc
      exact T' _ _ x3 A3 _ (.ref (l := []) nuN_same)
    · obtain ⟨hg1, hy⟩ := hgo x rfl
      refine .inr ⟨hg1, Wi (j + 1) m, fun H' w => ⟨m, Nat.lt_succ_self m, w⟩, fun y H' hyl => ?_⟩
      obtain ⟨ν2, x2, A2, r2⟩ := hy y H' hyl
      have d2 : ∀ n, D ∉ ν2 n := fun n hn => by
        by_cases hz : νc n = []
        · have := x2.new n D hz hn
          rw [lc] at this; cases this
        · rw [x2.nu n hz] at hn
          exact dc n hn
      have l2 : H' D = some (.lst vacc) := x2.fr D _ lc dc
      have E2 := E1.ext (xc.trans x2)
      refine ⟨ν2, wipeE ρ vs, hc, x, A2, E2, r2, ?_⟩
      have T1 : Tot acc (((g x (wipeE ρ vs)).bind fun ρ2 => (t ρ2).bind fun b => if b then (e ρ2).bind fun y => if vacc.length < 10000000 then (compN nxt g t e m (j + 1) (vacc.length + 1) (wipeE ρ vs)).bind fun ys => M.ret (y :: ys) else M.bad
        else compN nxt g t e m (j + 1) vacc.length (wipeE ρ vs)) hc) := T
      unfold M.bind at T1
      cases eg : g x (wipeE ρ vs) hc with
      | exc c x h' => rw [eg] at T1; exact T1.elim
      | bad => rw [eg] at T1; exact T1.elim
      | ok ρ2 h2 =>
        rw [eg] at T1
        intro ν3 H3 x3 A3 σ3 E3 hw
        have d3 : ∀ n, D ∉ ν3 n := fun n hn => by
          by_cases hz : ν2 n = []
          · have := x3.new n D hz hn
            rw [l2] at this; cases this
          · rw [x3.nu n hz] at hn
            exact d2 n hn
        have l3 : H3 D = some (.lst vacc) := x3.fr D _ l2 d2
        refine ⟨hw.trans (wipe_wipe vs σ), ν3, ρ2, h2, A3, E3, ?_⟩
        cases et : t ρ2 h2 with
        | exc c x h' =>
          have T2 := T1
          simp only [et] at T2
          exact (show False from T2).elim
        | bad =>
          have T2 := T1
          simp only [et] at T2
          exact (show False from T2).elim
        | ok b h4 =>
          intro ν4 H4 x4 A4
          have d4 : ∀ n, D ∉ ν4 n := fun n hn => by
            by_cases hz : ν3 n = []
            · have := x4.new n D hz hn
              rw [l3] at this; cases this
            · rw [x4.nu n hz] at hn
              exact d3 n hn
          have l4 : H4 D = some (.lst vacc) := x4.fr D _ l3 d3
          have T2 := T1
          simp only [et] at T2
          have x14 := ((xc.trans x2).trans x3).trans x4
          cases b with
          | false =>
            exact ⟨ν4, h4, acc, vacc, x14, A4, d4, l4, ((rc.ext x2).ext x3).ext x4, T2⟩
          | true =>
            refine ⟨ν4, ρ2, h4, A4, E3.ext x4, ?_⟩
            cases ee : e ρ2 h4 with
            | exc c x h' =>
              have T3 := T2
              simp only [ee, if_true] at T3
              exact (show False from T3).elim
            | bad =>
              have T3 := T2
              simp only [ee, if_true] at T3
              exact (show False from T3).elim
            | ok yv h5 =>
              intro ν5 H5 x5 A5 v rv
              have d5 : ∀ n, D ∉ ν5 n := fun n hn => by
                by_cases hz : ν4 n = []
                · have := x5.new n D hz hn
                  rw [l4] at this; cases this
                · rw [x5.nu n hz] at hn
                  exact d4 n hn
              have l5 : H5 D = some (.lst vacc) := x5.fr D _ l4 d4
              have T3 := T2
              simp only [ee, if_true] at T3
              have x15 := x14.trans x5
              have r5 := (((rc.ext x2).ext x3).ext x4).ext x5
              by_cases hl : vacc.length < 10000000
              · rw [if_pos hl] at T3
                refine ⟨vacc, l5, lst_line hl, ?_⟩
                obtain ⟨m6, A6⟩ := A5.side (o := .lst (vacc ++ [v])) d5 l5
                refine ⟨ν5, h5, acc ++ [yv], vacc ++ [v], x15.side hD, A6, d5, upd_same, (r5.append (.cons rv .nil)).mon m6, ?_⟩
                rw [List.length_append]
                show Tot (acc ++ [yv]) (compN nxt g t e m (j + 1) (vacc.length + 1) (wipeE ρ vs) h5)
                revert T3
                cases compN nxt g t e m (j + 1) (vacc.length + 1) (wipeE ρ vs) h5 with
                | ok xs h' =>
                  intro T3
                  have T4 : Post K ca W σ ν1 H1 (mNew (.lst (acc ++ (yv :: xs))) h') fun ν' H' _ x => ∀ v, Rep K ν' H' x v → Q v H' := T3
                  show Post K ca W σ ν1 H1 (mNew (.lst ((acc ++ [yv]) ++ xs)) h') fun ν' H' _ x => ∀ v, Rep K ν' H' x v → Q v H'
                  rw [List.append_assoc]
                  exact T4
                | exc c x h' => exact fun p => p
                | bad => exact fun p => p
              · rw [if_neg hl] at T3
                exact T3.elim
theorem px_lc (hc : X.calm = true) (hN : X.N.Nodup) (hi : PXI X ca W tg iter i) (ok : BlkOk X.N X.env.scope scope own) (hg : Blk X scope fun Y => PXG Y ca W0 (own.map (·.2)) tg g) (ht : Blk X scope fun Y => PXTs Y ca W0 ifs t) (he : Blk X scope fun Y => PX Y ca W0 elt e)
    (hs : ∀ x, foldedSetIterable iter X.env x = pure x := by intro _; rfl) : PX X ca W (.ListComp elt [⟨tg, iter, ifs, 0⟩] scope pos) (eLc i (own.map (·.2)) g t e) :=
  PE.imp (pe_lc (g := tG ca W0 X.K (List.map (fun p : Str × Nat => p.2) own) g) (tt := tT ca W0 X.K t) (te := tE ca W0 X.K e) hc hN hi ok hg ht he hs) fun σ H Q ⟨ν, ρ, h, A, E, P⟩ => lc_read A E P
theorem pxs_setLc {k : Nat} {y : Str} {py spos : Pos} (hc : X.calm = true) (hN : X.N.Nodup) (hy : X.N[k]? = some y) (hyl : X.env.scope.names.lookup y = some .local)
    (hsw : swapsWith (.ListComp elt [⟨tg, iter, ifs, 0⟩] scope pos) (some (.Name y py)) spos.line X.env = pure true) (hi : PXI X ca W tg iter i) (ok : BlkOk X.N X.env.scope scope own) (hg : Blk X scope fun Y => PXG Y ca W0 (own.map (·.2)) tg g) (ht : Blk X scope fun Y => PXTs Y ca W0 ifs t) (he : Blk X scope fun Y => PX Y ca W0 elt e)
    (hs : ∀ x, foldedSetIterable iter X.env x = pure x := by intro _; rfl) : PXS X ca W (.Assign [.Name y py] (.ListComp elt [⟨tg, iter, ifs, 0⟩] scope pos) spos) (sAsg (eLc i (own.map (·.2)) g t e) (gSet k)) :=
  PS.imp (ps_setLc (i := k) (g := tG ca W0 X.K (List.map (fun p : Str × Nat => p.2) own) g) (tt := tT ca W0 X.K t) (te := tE ca W0 X.K e) hc hN hy hyl hsw hi ok hg ht he hs) fun D σ H ⟨ν, ρ, h, A, E, P⟩ => by
    refine lc_read (W := W) A E ((sThen_post E P).mono fun ν1 H1 h1 x e1 A1 P1 v rv => ?_)
    exact Post.ret P1 A1 _ ((E.ext e1).set rv k)
end
end FX

set_option Elab.async false
set_option linter.all false
set_option maxRecDepth 100000
set_option maxHeartbeats 2000000
namespace FX
open PySem PySem.Spec PyProof.Rows L2 SlX
abbrev FF := List PV → M PV
/-- what stands at a place, if it is an instance of the class c -/
def mIns {α : Type} (c : Nat) (x : PV) (k : Nat → List (Option PV) → M α) : M α := match x with
  | .ref n => mAt n fun o => match o with
    | .ins c' fs => if c' = c then k n fs else M.bad
    | _ => M.bad
  | _ => M.bad
def slGet (i : Nat) (fs : List (Option PV)) : M PV := match fs[i]? with
  | some (some y) => M.ret y
  | _ => M.bad
def putE (i : Nat) (y : PV) (fs : List (Option PV)) : List (Option PV) := (fs ++ List.replicate (i + 1 - fs.length) none).set i (some y)
/-- an attribute: a slot, a property -/
def atSl (c i : Nat) : PV → M PV := fun x => mIns c x fun _ fs => slGet i fs
def atPr (c : Nat) (F : FF) : PV → M PV := fun x => mIns c x fun _ _ => noX (F [x])
/-- by the class -/
def isC (c : Nat) (x : PV) (h : MH) : Bool := match x with
  | .ref n => (match h.get n with
    | some (.ins c' _) => c' == c
    | _ => false)
  | _ => false
def atOr (c : Nat) (g g' : PV → M PV) : PV → M PV := fun x h => if isC c x h then g x h else g' x h
/-- o.f = y -/
def slPut (c i : Nat) (x y : PV) : M Unit := mIns c x fun n fs => mPut n (.ins c (putE i y fs))
def sFld (c i : Nat) (fo fv : EF) : SF := fun ρ => sThen (fv ρ) ρ fun y => sThen (fo ρ) ρ fun x => sThen (slPut c i x y) ρ fun _ => M.ret (.nx ρ)
/-- o.m(..) -/
def eMet (c : Nat) (F : FF) (fo : EF) (ra : AF) : EF := fun ρ => (fo ρ).bind fun x => (mIns c x fun _ _ => M.ret ()).bind fun _ => (ra ρ).bind fun xs => F (x :: xs)
/-- C(..) -/
def mMake (c : Nat) (F : FF) : FF := fun xs => (mNew (.ins c [])).bind fun x => (F (x :: xs)).bind fun r => match r with
  | .non => M.ret x
  | _ => M.bad
section
variable (P : Program) (w : World) (K : PySem.W.Frag) (mg : Str → Option Value) (base : Heap) (ca : Ca)
def spM (F : FF) : Sp := fun vs H Q E => ∃ ν h xs, Ab K ca ν h H ∧ RepL K ν H xs vs ∧ Post K ca (fun c d _ H => E c d H) [] ν H (F xs h) fun ν' H' _ x => ∀ v, Rep K ν' H' x v → Q v H'
structure FnX (k : Nat) (f : Addr) (F : FF) : Prop where
  fn : FnR P w K mg base (L2.CX P w) k f (spM K ca F)
  kp : PySem.W.keepIn K (.ref f) = true
end
section
variable {P : Program} {w : World} {K : PySem.W.Frag} {mg : Str → Option Value} {base : Heap} {ca : Ca} {j k : Nat} {f : Addr} {F F' : FF}
theorem FnX.mono (h : FnX P w K mg base ca j f F) (l : j ≤ k) : FnX P w K mg base ca k f F := ⟨h.fn.mono l, h.kp⟩
/-- a less defined meaning -/
def Less (F' F : FF) : Prop := ∀ xs h, F' xs h = .bad ∨ F' xs h = F xs h
theorem FnX.less (h : FnX P w K mg base ca k f F) (l : Less F' F) : FnX P w K mg base ca k f F' := ⟨h.fn.imp fun vs H Q E ⟨ν, hp, xs, A, r, p⟩ => by
  rcases l xs hp with e | e
  · rw [e] at p; exact p.elim
  · rw [e] at p; exact ⟨ν, hp, xs, A, r, p⟩, h.kp⟩
end
section
variable {X : Cx} {ca : Ca} {W : WX} {pins : List (Addr × Obj)} {σ : L2.St} {H : Hp} {s : Shared} {k : Nat} {f C : Addr} {F : FF}
theorem Post.sig {α : Type} {K : PySem.W.Frag} {W' : WX} {σ' : L2.St} {ν : Nu} {r : R α} {Φ : Nu → Hp → MH → α → Prop} (p : Post K ca W σ ν H r Φ) (hw : ∀ c d H, W c d σ H → W' c d σ' H) : Post K ca W' σ' ν H r Φ := by
  cases r with
  | ok x h => exact p
  | exc c x h => exact fun ν' H' d v e A hd r => hw _ _ _ (p ν' H' d v e A hd r)
  | bad => exact p
theorem run_fnS {sp : Sp} {E : XK} {Q : VK} {us : List Value} {vs : List V} {CX : CXT} (Fn : FnR X.prog X.w X.K X.mg X.base CX k f sp) (hr : Room k X.A) (hx : PassesAt CX X σ E) (I : Inv X pins σ H s) (r : Vals vs us) (h : sp vs H Q E) :
    codeAny (model X.prog X.w) X.A (.call (.ref f) ⟨us, []⟩) (fun r s' => match r with | .ok (.ret v) => EP X pins σ Q v s' | .ok _ => False | .error e => X.xe e s') s := by
  refine codeAny_mono (Fn X.A X.stack s H us vs Q E hr I.env0 r h) fun r s' hq => ?_
  cases r with
  | error e => exact hx pins H s e s' I hq
  | ok fl =>
    cases fl with
    | ret u => exact I.after hq
    | next => exact False.elim hq
    | brk => exact False.elim hq
    | cont => exact False.elim hq
/-- a call with values -/
theorem call_x {Q : VK} {us : List Value} {vs : List V} {xs : List PV} {ν : Nu} {h : MH} (Fn : FnX X.prog X.w X.K X.mg X.base ca k f F) (hr : Room k X.A) (tk : Takes X W) (I : Inv X pins σ H s) (r : Vals vs us) (A : Ab X.K ca ν h H) (rx : RepL X.K ν H xs vs)
    (P : Post X.K ca W σ ν H (F xs h) fun ν' H' _ x => ∀ v, Rep X.K ν' H' x v → Q v H') :
    codeAny (model X.prog X.w) X.A (.call (.ref f) ⟨us, []⟩) (fun r s' => match r with | .ok (.ret v) => EP X pins σ Q v s' | .ok _ => False | .error e => X.xe e s') s :=
  run_fnS Fn.fn hr (passAt tk σ) I r ⟨ν, h, xs, A, rx, P.sig fun _ _ _ h => h⟩
section
variable {x : Str} {e o : Expr} {es : List Expr} {p pos apos : Pos} {ra : AF} {fo : EF}
theorem app_post {ρ : Env} {ν : Nu} {h : MH} {Q : VK} (A : Ab X.K ca ν h H) (E : EnvR X.K ν H ρ σ) (P : Post X.K ca W σ ν H (eApp F ra ρ h) fun ν' H' _ x => ∀ v, Rep X.K ν' H' x v → Q v H') :
    tA ca W X.K ra σ H fun vs H1 => ∃ ν1 h1 xs, Ab X.K ca ν1 h1 H1 ∧ RepL X.K ν1 H1 xs vs ∧ Post X.K ca W σ ν1 H1 (F xs h1) fun ν' H' _ x => ∀ v, Rep X.K ν' H' x v → Q v H' :=
  ⟨ν, ρ, h, A, E, (Post.bind P).mono fun ν1 H1 h1 xs e1 A1 P1 vs r => ⟨ν1, h1, xs, A1, r, P1⟩⟩
theorem px_call (Fn : FnX X.prog X.w X.K X.mg X.base ca k f F) (hr : Room k X.A) (tk : Takes X W) (hg : Gl X x) (hm : X.mg x = some (.ref f)) (ha : PXA X ca W (e :: es) ra)
    (hdb : (x == ("__debug__" : Str)) = false := by decide) (he : starEach (e :: es) X.env = (false, eval e X.env) :: starEach es X.env := by rfl) (hpl : (backTo pos (starEach es X.env)).any (·.1) = false := by rfl) :
    PX X ca W (.Call (.Name x p) (e :: es) [] pos) (eApp F ra) := by
  refine ⟨fun pins s σ H Q I ⟨ν, ρ, h, A, E, P⟩ => ?_⟩
  refine wpAny_Call_Name_kw (ld_glob I hg hm ?_ hdb)
  refine PySem.W.callWith_K (h₀ := X.base) I.ok.mod.kin Fn.kp (thn (ha.run pos pins s σ H _ I (app_post A E P)) fun us s1 ⟨vs, H1, I1, r, ν1, h1, xs, A1, rx, P1⟩ => ⟨I1.kIn, ?_⟩) he hpl
  exact wpAny_call (call_x Fn hr tk I1 r A1 rx P1)
theorem px_call0 (Fn : FnX X.prog X.w X.K X.mg X.base ca k f F) (hr : Room k X.A) (tk : Takes X W) (hg : Gl X x) (hm : X.mg x = some (.ref f)) (hdb : (x == ("__debug__" : Str)) = false := by decide) :
    PX X ca W (.Call (.Name x p) [] [] pos) (eApp F aNil) := by
  refine ⟨fun pins s σ H Q I ⟨ν, ρ, h, A, E, P⟩ => ?_⟩
  refine wpAny_Call_Name_kw (ld_glob I hg hm ?_ hdb)
  exact PySem.W.callWith_K0 I.kIn Fn.kp (wpAny_call (call_x (us := []) (vs := []) (xs := []) Fn hr tk I .nil A .nil P))
theorem new_ins {K : PySem.W.Frag} {ν : Nu} {h : MH} {c : Nat} {a dx : Addr} (A : Ab K ca ν h H) (ha : H a = none) (hd : H dx = none) (ne : dx ≠ a) :
    Ext ν (nuN ν h.nx [a, dx]) H (upd (upd H dx (.own a)) a (.ins (ca c) dx [])) ∧ Ab K ca (nuN ν h.nx [a, dx]) (h.new (.ins c [])) (upd (upd H dx (.own a)) a (.ins (ca c) dx [])) := by
  refine A.nw (fun b hb => ?_) (fun b hb => ?_) (fun b hb => ?_) fun x => ⟨a, dx, [], rfl, ⟨.inl ⟨upd_same, rfl⟩, .inl (by rw [upd_ne ne, upd_same])⟩, fun i y hy => by simp at hy⟩
  · rcases List.mem_cons.mp hb with rfl | hb
    · exact ha
    · rw [List.mem_singleton.mp hb]; exact hd
  · have h1 : b ≠ a := fun z => hb (by rw [z]; exact List.mem_cons_self)
    have h2 : b ≠ dx := fun z => hb (by rw [z]; exact List.mem_cons_of_mem _ List.mem_cons_self)
    rw [upd_ne h1, upd_ne h2]
  · rcases List.mem_cons.mp hb with rfl | hb
    · rw [upd_same]; exact fun z => nomatch z
    · rw [List.mem_singleton.mp hb, upd_ne ne, upd_same]; exact fun z => nomatch z
theorem make_x {c : Nat} {Q : VK} {us : List Value} {vs : List V} {xs : List PV} {ν : Nu} {h : MH} (Mk' : Mk X.K (ca c) f) (Fn : FnX X.prog X.w X.K X.mg X.base ca k f F) (hr : Room (k + 1) X.A) (tk : Takes X W) (I : Inv X pins σ H s) (r : Vals vs us) (A : Ab X.K ca ν h H)
    (rx : RepL X.K ν H xs vs) (P : Post X.K ca W σ ν H (mMake c F xs h) fun ν' H' _ x => ∀ v, Rep X.K ν' H' x v → Q v H') : wpAny (model X.prog X.w) X.A (call (.ref (ca c)) us) (EP X pins σ Q) X.xe s := by
  have ha := I.hok.fresh (Nat.le_succ s.heap.objs.size)
  have hd := I.hok.fresh (Nat.le_refl s.heap.objs.size)
  obtain ⟨e1, A1⟩ := new_ins (c := c) A ha hd (Nat.ne_of_lt (Nat.lt_succ_self _))
  have P1 : Post X.K ca W σ ν H ((mNew (.ins c [])).bind (fun x => (F (x :: xs)).bind fun r => match r with
    | .non => M.ret x
    | _ => M.bad) h) fun ν' H' _ x => ∀ v, Rep X.K ν' H' x v → Q v H' := P
  have P2 := Post.bind ((Post.bind P1) _ _ e1 A1)
  have I2 := Inv.made (C := ca c) I
  have r2 : Vals (V.ref (s.heap.objs.size + 1) :: vs) (Value.ref (s.heap.objs.size + 1) :: us) := .cons rfl r
  have rn : Rep X.K (nuN ν h.nx [s.heap.objs.size + 1, s.heap.objs.size]) (upd (upd H s.heap.objs.size (.own (s.heap.objs.size + 1))) (s.heap.objs.size + 1) (.ins (ca c) s.heap.objs.size [])) (.ref h.nx) (.ref (s.heap.objs.size + 1)) := .ref (l := [s.heap.objs.size]) nuN_same
  have q : spM X.K ca F (V.ref (s.heap.objs.size + 1) :: vs) (upd (upd H s.heap.objs.size (.own (s.heap.objs.size + 1))) (s.heap.objs.size + 1) (.ins (ca c) s.heap.objs.size [])) (fun v H2 => v = .non ∧ Q (.ref (s.heap.objs.size + 1)) H2) (WE W σ) := by
    refine ⟨_, _, _, A1, .cons rn (rx.ext e1), (P2.mono fun ν3 H3 h3 z e3 A3 P3 v rv => ?_).sig fun _ _ _ h => h⟩
    cases rv with
    | non => exact ⟨rfl, Post.ret P3 A3 _ (rn.ext e3)⟩
    | _ => exact P3.elim
  refine wpAny_call (make_map (f := f) I.kIn Mk'.makes Mk'.init (beq_iff_eq.mp Mk'.fn) (codeAny_mono (Fn.fn _ X.stack _ _ (Value.ref (s.heap.objs.size + 1) :: us) _ _ (WE W σ) (hr.make (ca c) us []) (I2.env0.make (ca c) us []) r2 q) fun r s' hq' => ?_))
  cases r with
  | error e => exact (passAt tk σ) pins _ _ e s' I2 hq'
  | ok fl =>
    cases fl with
    | ret u =>
      obtain ⟨v, H', I3, rv, ev, q3⟩ := I2.after hq'
      subst ev
      exact ⟨rv, ⟨V.ref (s.heap.objs.size + 1), H', I3, rfl, q3⟩⟩
    | next => exact False.elim hq'
    | brk => exact False.elim hq'
    | cont => exact False.elim hq'
theorem px_make {c : Nat} (Mk' : Mk X.K (ca c) f) (Fn : FnX X.prog X.w X.K X.mg X.base ca k f F) (hr : Room (k + 1) X.A) (tk : Takes X W) (hg : Gl X x) (hm : X.mg x = some (.ref (ca c))) (ha : PXA X ca W (e :: es) ra)
    (hdb : (x == ("__debug__" : Str)) = false := by decide) (he : starEach (e :: es) X.env = (false, eval e X.env) :: starEach es X.env := by rfl) (hpl : (backTo pos (starEach es X.env)).any (·.1) = false := by rfl) :
    PX X ca W (.Call (.Name x p) (e :: es) [] pos) (eApp (mMake c F) ra) := by
  refine ⟨fun pins s σ H Q I ⟨ν, ρ, h, A, E, P⟩ => ?_⟩
  refine wpAny_Call_Name_kw (ld_glob I hg hm ?_ hdb)
  refine PySem.W.callWith_K (h₀ := X.base) I.ok.mod.kin Mk'.kp (thn (ha.run pos pins s σ H _ I (app_post A E P)) fun us s1 ⟨vs, H1, I1, r, ν1, h1, xs, A1, rx, P1⟩ => ⟨I1.kIn, ?_⟩) he hpl
  exact make_x Mk' Fn hr tk I1 r A1 rx P1
end
theorem mIns_post {α : Type} {K : PySem.W.Frag} {c : Nat} {x : PV} {v : V} {kk : Nat → List (Option PV) → M α} {ν : Nu} {h : MH} {Φ : Nu → Hp → MH → α → Prop} (A : Ab K ca ν h H) (r : Rep K ν H x v) (P : Post K ca W σ ν H (mIns c x kk h) Φ) :
    ∃ n a dx vs fs, x = .ref n ∧ v = .ref a ∧ h.get n = some (.ins c fs) ∧ ν n = [a, dx] ∧ Slt H a (ca c) dx vs ∧ (H dx = some (.own a) ∨ H dx = some (.xd [])) ∧ RepO K ν H fs vs ∧ Post K ca W σ ν H (kk n fs h) Φ := by
  cases r with
  | @ref n a l e =>
    cases ho : h.get n with
    | none =>
      have P' : Post K ca W σ ν H (mAt n (fun o => match o with
        | .ins c' fs => if c' = c then kk n fs else M.bad
        | _ => M.bad) h) Φ := P
      unfold mAt at P'
      rw [ho] at P'
      exact P'.elim
    | some o =>
      have P' : Post K ca W σ ν H (mAt n (fun o => match o with
        | .ins c' fs => if c' = c then kk n fs else M.bad
        | _ => M.bad) h) Φ := P
      rw [mAt_ok ho] at P'
      have q := A.at_ _ o ho
      rw [e] at q
      cases o with
      | ins c' fs =>
        have P2 : Post K ca W σ ν H ((if c' = c then kk n fs else M.bad : M α) h) Φ := P'
        by_cases hc : c' = c
        · subst hc
          rw [if_pos rfl] at P2
          obtain ⟨a', dx, vs, e1, ⟨e2, e3⟩, ro⟩ := q
          cases e1
          exact ⟨n, _, dx, vs, fs, rfl, rfl, ho, e, e2, e3, ro, P2⟩
        · rw [if_neg hc] at P2
          exact P2.elim
      | _ => exact P'.elim
  | _ => exact P.elim
variable (X ca W) in
/-- an attribute that is read -/
def AtM (fl : Str) (g : PV → M PV) : Prop := ∀ b pins s σ H ν h x xv v Q, Inv X pins σ H s → RelV xv v → Ab X.K ca ν h H → Rep X.K ν H x xv →
  Post X.K ca W σ ν H (g x h) (fun ν' H' _ z => ∀ w, Rep X.K ν' H' z w → Q w H') → wpAny (model X.prog X.w) X.A (getAttr v fl b) (EP X pins σ Q) X.xe s
theorem at_slot {c i : Nat} {fl : Str} {p : Addr} (sc : SCls X.K (ca c)) (sl : Slot1 X.K (ca c) fl p i) : AtM X ca W fl (atSl c i) := by
  intro b pins s σ H ν h x xv v Q I rv A r P
  obtain ⟨n, a, dx, vs, fs, rfl, rfl, ho, en, hs, hd, ro, P1⟩ := mIns_post A r P
  cases rv
  unfold slGet at P1
  cases ef : fs[i]? with
  | none => rw [ef] at P1; exact P1.elim
  | some oy =>
    cases oy with
    | none => rw [ef] at P1; exact P1.elim
    | some y =>
      rw [ef] at P1
      obtain ⟨u, hu, ru⟩ := ro i y ef
      exact getslot_ok I hs sc sl hu fun w s' I' rw' => ⟨u, H, I', rw', Post.ret P1 A u ru⟩
theorem cx_false {P : Program} {w : World} {outer : List PySem.Env} {H : Hp} {s s' : Shared} {e : Value} (h : L2.CX P w outer H s (fun _ _ _ => False) e s') : False := by
  obtain ⟨_, _, _, _, _, _, _, _, _, _, _, _, z⟩ := h
  exact z
theorem noX_post {α : Type} {K : PySem.W.Frag} {m : M α} {ν : Nu} {h : MH} {W' : WX} {σ' : L2.St} {Φ : Nu → Hp → MH → α → Prop} (P : Post K ca W σ ν H (noX m h) Φ) : Post K ca W' σ' ν H (m h) Φ := by
  unfold noX at P
  revert P
  cases m h with
  | ok x h' => exact fun p => p
  | exc c x h' => exact fun p => p.elim
  | bad => exact fun p => p
/-- a property of a class with slots -/
structure PrS (K : PySem.W.Frag) (C : Addr) (fl : Str) (p g : Addr) : Prop where
  at_ : PySem.W.findIn K (.ref C) fl = some (some (.ref p))
  get : PySem.W.specialIn K (.ref p) "__get__" = some (some (.builtin "property.__get__"))
  tk : PySem.W.takesIn K (.ref p) = some true
  rc : ∃ rest, PySem.W.recIn K p "property" = some (.ref g :: rest)
theorem at_prop {c : Nat} {fl : Str} {p : Addr} (sc : SCls X.K (ca c)) (pr : PrS X.K (ca c) fl p f) (Fn : FnX X.prog X.w X.K X.mg X.base ca k f F) (hr : Room (k + 1) X.A) : AtM X ca W fl (atPr c F) := by
  intro b pins s σ H ν h x xv v Q I rv A r P
  obtain ⟨n, a, dx, vs, fs, rfl, rfl, ho, en, hs, hd, ro, P1⟩ := mIns_post A r P
  cases rv
  refine getprop_sl (CX := L2.CX X.prog X.w) (E := fun _ _ _ => False) I hs sc pr.at_ pr.get pr.tk pr.rc Fn.fn hr (fun _ _ _ _ z => cx_false z) ⟨ν, h, [.ref n], A, .cons r .nil, noX_post P1⟩
theorem at_or {c : Nat} {fl : Str} {g g' : PV → M PV} (h1 : AtM X ca W fl g) (h2 : AtM X ca W fl g') : AtM X ca W fl (atOr c g g') := by
  intro b pins s σ H ν h x xv v Q I rv A r P
  unfold atOr at P
  cases e : isC c x h with
  | true => rw [e] at P; exact h1 b pins s σ H ν h x xv v Q I rv A r P
  | false => rw [e] at P; exact h2 b pins s σ H ν h x xv v Q I rv A r P
section
variable {e o : Expr} {fl m : Str} {pos apos pos' : Pos} {fe fo fv : EF} {g : PV → M PV} {es : List Expr} {ra : AF} {c i : Nat}
theorem px_attr (ha : AtM X ca W fl g) (he : PX X ca W e fe) (hb : attributeBase e fl X.env (eval e X.env) = eval e X.env := by rfl) : PX X ca W (.Attribute e fl pos) (eUn g fe) := by
  refine ⟨fun pins s σ H Q I ⟨ν, ρ, h, A, E, P⟩ => ?_⟩
  refine attr_of hb (thn (he.run pins s σ H _ I ⟨ν, ρ, h, A, E, (Post.bind P).mono fun ν1 H1 h1 px e1 A1 P1 v rv => (⟨ν1, h1, px, A1, rv, P1⟩ : ∃ ν1 h1 px, Ab X.K ca ν1 h1 H1 ∧ Rep X.K ν1 H1 px v ∧ Post X.K ca W σ ν1 H1 (g px h1) fun ν' H' _ x => ∀ v, Rep X.K ν' H' x v → Q v H')⟩) fun w s1 ⟨x, H1, I1, rx, ν1, h1, px, A1, rp, P1⟩ => ?_)
  exact ha _ pins s1 σ H1 ν1 h1 px x w Q I1 rx A1 rp P1
theorem RepO.put {K : PySem.W.Frag} {ν : Nu} {fs : List (Option PV)} {vs : List (Option V)} (ro : RepO K ν H fs vs) {y : PV} {v : V} (r : Rep K ν H y v) (i : Nat) : RepO K ν H (putE i y fs) (putS i v vs) := by
  intro j z hz
  by_cases hj : j = i
  · subst hj
    have hl : j < (fs ++ List.replicate (j + 1 - fs.length) none).length := by
      rw [List.length_append, List.length_replicate]; omega
    have : (putE j y fs)[j]? = some (some y) := List.getElem?_set_self hl
    rw [this] at hz
    cases hz
    exact ⟨v, putS_get j v vs, r⟩
  · have e1 : (putE i y fs)[j]? = (fs ++ List.replicate (i + 1 - fs.length) none)[j]? := List.getElem?_set_ne (Ne.symm hj)
    rw [e1] at hz
    have e2 : fs[j]? = some (some z) := by
      by_cases hl : j < fs.length
      · rw [List.getElem?_append_left hl] at hz; exact hz
      · rw [List.getElem?_append_right (by omega), List.getElem?_replicate] at hz
        split at hz <;> cases hz
    obtain ⟨u, hu, ru⟩ := ro j z e2
    exact ⟨u, (putS_ne hj).mpr hu, ru⟩
theorem pxs_fld {p : Addr} (sc : SCls X.K (ca c)) (sl : Slot1 X.K (ca c) fl p i) (ho : PX X ca W o fo) (hv : PX X ca W e fv) (hs : swapsWith e (some (.Attribute o fl pos')) pos.line X.env = pure false := by rfl) : PXS X ca W (.Assign [.Attribute o fl pos'] e pos) (sFld c i fo fv) := by
  refine PS.imp (ps_sl ho hv hs) fun D σ H ⟨ν, ρ, h, A, E, P⟩ => ?_
  refine ⟨ν, ρ, h, A, E, (sThen_post E P).mono fun ν1 H1 h1 y e1 A1 P1 v rv => ⟨ν1, ρ, h1, A1, E.ext e1, (sThen_post (E.ext e1) P1).mono fun ν2 H2 h2 x e2 A2 P2 u ru => ?_⟩⟩
  have P3 := sThen_post ((E.ext e1).ext e2) P2
  obtain ⟨n, a, dx, vs, fs, rfl, rfl, hn, en, hs, hd, ro, P4⟩ := mIns_post (W := W) A2 ru P3
  have ne : dx ≠ a := by
    rintro rfl
    rcases hs with ⟨h1, _⟩ | ⟨h1, _⟩
    · rcases hd with h2 | h2 <;> (rw [h1] at h2; cases h2)
    · rcases hd with h2 | h2 <;> (rw [h1] at h2; unfold SlO at h2; cases h2)
  refine ⟨a, ca c, dx, p, vs, i, rfl, hs, sc, sl, ?_⟩
  have wr : Ext ν2 ν2 H2 (slH H2 a (ca c) dx (putS i v vs)) ∧ Ab X.K ca ν2 (h2.put n (.ins c (putE i y fs))) (slH H2 a (ca c) dx (putS i v vs)) := by
    refine A2.wr hn (fun b hb => ?_) (fun b hb => ?_) fun x => ?_
    · rw [en] at hb
      exact slH_ne (fun z => hb (by rw [z]; exact List.mem_cons_self)) fun z => hb (by rw [z]; exact List.mem_cons_of_mem _ List.mem_cons_self)
    · rw [en] at hb
      rcases List.mem_cons.mp hb with rfl | hb
      · unfold slH; rw [upd_same]; exact fun z => nomatch z
      · rw [List.mem_singleton.mp hb]; unfold slH; rw [upd_ne ne, upd_same]; exact fun z => nomatch z
    · rw [en]
      refine ⟨a, dx, putS i v vs, rfl, ⟨slH_slt ne, .inr (by unfold slH; rw [upd_ne ne, upd_same])⟩, ?_⟩
      exact (ro.put (rv.ext e2) i).mon x.toMon
  have P5 := P4 ν2 _ wr.1 wr.2
  exact Post.ret P5 wr.2 σ (((E.ext e1).ext e2).ext wr.1)
theorem px_meth {pl : Sem Bool} (sc : SCls X.K (ca c)) (hm : Meth X.K (ca c) m f) (Fn : FnX X.prog X.w X.K X.mg X.base ca k f F) (hr : Room k X.A) (tk : Takes X W) (ho : PX X ca W o fo) (ha : PXA X ca W (e :: es) ra)
    (hst : starEach (e :: es) X.env = (false, eval e X.env) :: starEach es X.env := by rfl) (hpl : (backTo pos (starEach es X.env)).any (·.1) = false := by rfl)
    (ht : eval (.Call (.Attribute o m apos) (e :: es) [] pos) X.env = (do
      let ov ← eval o X.env
      standAt apos.atName
      let (f, first) ← holding [ov] (getMethod ov m pl)
      callWith pos f first (backTo pos (starEach (e :: es) X.env)) (backToKw pos (keywordEach [] X.env))) := by rfl) :
    PX X ca W (.Call (.Attribute o m apos) (e :: es) [] pos) (eMet c F fo ra) := by
  refine ⟨fun pins s σ H Q I ⟨ν, ρ, h, A, E, P⟩ => ?_⟩
  refine PySem.W.methodCall_KW (pl := pl) (thn (ho.run pins s σ H _ I ⟨ν, ρ, h, A, E, (Post.bind P).mono fun ν1 H1 h1 px e1 A1 P1 v rv => (⟨ν1, h1, px, A1, E.ext e1, rv, P1⟩ : ∃ ν1 h1 px, Ab X.K ca ν1 h1 H1 ∧ EnvR X.K ν1 H1 ρ σ ∧ Rep X.K ν1 H1 px v ∧ Post X.K ca W σ ν1 H1 (((mIns c px fun _ _ => M.ret ()).bind fun _ => (ra ρ).bind fun xs => F (px :: xs)) h1) fun ν' H' _ x => ∀ v, Rep X.K ν' H' x v → Q v H')⟩) fun u s1 ⟨x, H1, I1, rx, ν1, h1, px, A1, E1, rp, P1⟩ => ?_) ht
  obtain ⟨n, a, dx, vs, fs, rfl, rfl, hn, en, hs, hd, ro, P2⟩ := mIns_post A1 rp (Post.bind P1)
  cases rx
  refine getmethsl_ok I1 hs sc hm ?_
  have P3 := Post.ret P2 A1
  refine PySem.W.callWith_K (first := [.ref a]) (h₀ := X.base) I.ok.mod.kin hm.kp (thn (ha.run pos pins s1 σ H1 _ I1 ⟨ν1, ρ, h1, A1, E1, (Post.bind P3).mono fun ν2 H2 h2 xs e2 A2 P4 ws rws => (⟨ν2, h2, xs, A2, rp.ext e2, rws, P4⟩ : ∃ ν2 h2 xs, Ab X.K ca ν2 h2 H2 ∧ Rep X.K ν2 H2 (.ref n) (.ref a) ∧ RepL X.K ν2 H2 xs ws ∧ Post X.K ca W σ ν2 H2 (F (.ref n :: xs) h2) fun ν' H' _ x => ∀ v, Rep X.K ν' H' x v → Q v H')⟩) fun us s2 ⟨ws, H2, I2, r, ν2, h2, xs, A2, r2, rws, P4⟩ => ⟨I2.kIn, ?_⟩) hst hpl
  exact wpAny_call (call_x (us := .ref a :: us) (vs := .ref a :: ws) Fn hr tk I2 (.cons rfl r) A2 (.cons r2 rws) P4)
theorem px_meth0 {pl : Sem Bool} (sc : SCls X.K (ca c)) (hm : Meth X.K (ca c) m f) (Fn : FnX X.prog X.w X.K X.mg X.base ca k f F) (hr : Room k X.A) (tk : Takes X W) (ho : PX X ca W o fo)
    (ht : eval (.Call (.Attribute o m apos) [] [] pos) X.env = (do
      let ov ← eval o X.env
      standAt apos.atName
      let (f, first) ← holding [ov] (getMethod ov m pl)
      callWith pos f first (backTo pos (starEach [] X.env)) (backToKw pos (keywordEach [] X.env))) := by rfl) :
    PX X ca W (.Call (.Attribute o m apos) [] [] pos) (eMet c F fo aNil) := by
  refine ⟨fun pins s σ H Q I ⟨ν, ρ, h, A, E, P⟩ => ?_⟩
  refine PySem.W.methodCall_KW (pl := pl) (thn (ho.run pins s σ H _ I ⟨ν, ρ, h, A, E, (Post.bind P).mono fun ν1 H1 h1 px e1 A1 P1 v rv => (⟨ν1, h1, px, A1, E.ext e1, rv, P1⟩ : ∃ ν1 h1 px, Ab X.K ca ν1 h1 H1 ∧ EnvR X.K ν1 H1 ρ σ ∧ Rep X.K ν1 H1 px v ∧ Post X.K ca W σ ν1 H1 (((mIns c px fun _ _ => M.ret ()).bind fun _ => (aNil ρ).bind fun xs => F (px :: xs)) h1) fun ν' H' _ x => ∀ v, Rep X.K ν' H' x v → Q v H')⟩) fun u s1 ⟨x, H1, I1, rx, ν1, h1, px, A1, E1, rp, P1⟩ => ?_) ht
  obtain ⟨n, a, dx, vs, fs, rfl, rfl, hn, en, hs, hd, ro, P2⟩ := mIns_post A1 rp (Post.bind P1)
  cases rx
  refine getmethsl_ok I1 hs sc hm ?_
  have P3 : Post X.K ca W σ ν1 H1 (F (.ref n :: []) h1) fun ν' H' _ x => ∀ v, Rep X.K ν' H' x v → Q v H' := Post.ret P2 A1
  exact PySem.W.callWith_K0 (first := [.ref a]) I1.kIn hm.kp (wpAny_call (call_x (us := [.ref a]) (vs := [.ref a]) Fn hr tk I1 (.cons rfl .nil) A1 (.cons rp .nil) P3))
end
end
/-- a def's meaning by its body: n slots, m parameters that are given, the others' defaults -/
def defB (n m : Nat) (dxs : List PV) (b : SF) : FF := fun xs => if xs.length = m then runB n b (xs ++ dxs) else M.bad
section
variable {P : Program} {w : World} {K : PySem.W.Frag} {mg : Str → Option Value} {base : Heap} {ca : Ca}
theorem body_read {K : PySem.W.Frag} {n : Nat} {g : SF} {vs : List V} {H : Hp} {Q : VK} {E : XK} {ν : Nu} {h : MH} {xs : List PV} {σ : L2.St} (A : Ab K ca ν h H) (r : RepL K ν H xs vs)
    (p : Post K ca (fun c d _ H => E c d H) σ ν H (runB n g xs h) fun ν' H' _ x => ∀ v, Rep K ν' H' x v → Q v H') {N : List Str} (hN : N.length = n) : tS ca (fun c d _ H => E c d H) K g { nx := fun _ H' => Q .non H', rt := Q } (L2.start N vs) H := by
  subst hN
  refine ⟨ν, xs.map some ++ List.replicate (N.length - xs.length) none, h, A, ⟨?_, ?_⟩, ?_⟩
  · unfold L2.start
    rw [List.length_append, List.length_append, List.length_map, List.length_map, List.length_replicate, List.length_replicate, r.length]
  · intro i x hx
    have hi : i < xs.length := by
      by_cases hi : i < xs.length
      · exact hi
      · rw [List.getElem?_append_right (by rw [List.length_map]; omega), List.getElem?_replicate] at hx
        split at hx <;> cases hx
    rw [List.getElem?_append_left (by rw [List.length_map]; exact hi), List.getElem?_map] at hx
    cases ex : xs[i]? with
    | none => rw [ex] at hx; cases hx
    | some y =>
      rw [ex] at hx
      have : y = x := by simpa using hx
      subst this
      obtain ⟨v, hv, rv⟩ := r.get ex
      refine ⟨v, ?_, rv⟩
      unfold L2.start
      rw [List.getElem?_append_left (by rw [List.length_map, ← r.length]; exact hi), List.getElem?_map, hv]
      rfl
  · unfold runB at p
    have q := noX_post (W' := W0) (σ' := σ) (Post.bind p)
    refine q.mono fun ν1 H1 h1 o e1 A1 q1 => ?_
    cases o with
    | nx ρ => exact fun σ' _ => Post.ret q1 A1 _ .non
    | rt x => exact fun v rv => Post.ret q1 A1 v rv
    | bk ρ => exact q1.elim
    | ct ρ => exact q1.elim
    | xc c x ρ => exact fun σ' d v _ hd rv => q1 ν1 H1 d v (Ext.refl _ _) A1 hd rv
/-- THE RULE: a def by its body. F: the def stands; b: how its arguments bind, the last ones by the defaults ds -/
theorem fnX_of {name qual : Str} {params : Arguments} {body : List Stmt} {scope : Scope} {dvs : List V} {kws : List (Str × V)} {f : Addr} {fd : FuncData} {N ps : List Str} {k m : Nat} {g : SF} {ds : List Value} {dws : List V} {dxs : List PV}
    (Fd : FunD K name qual params body scope dvs kws f fd) (S : FnScope N ps scope) (b : Binds K fd ps ds) (hd : Vals dws ds) (hx : ∀ ν H, RepL K ν H dxs dws) (hm : m + dxs.length = ps.length)
    (hb : ∀ (cdv : Value) (A : Around) (outer : List PySem.Env) (s : Shared) (H : Hp) (E : XK), Room k (A.deeper (envOfC qual scope s.heap.objs.size f cdv)) → Takes (cxOf (L2.CX P w) P w K mg base N qual scope f cdv A outer s H E) (fun c d _ H => E c d H) →
      PassesOwn (model P w) (A.deeper (envOfC qual scope s.heap.objs.size f cdv)) (envOfC qual scope s.heap.objs.size f cdv) (cxOf (L2.CX P w) P w K mg base N qual scope f cdv A outer s H E).xe →
      PXSs (cxOf (L2.CX P w) P w K mg base N qual scope f cdv A outer s H E) ca (fun c d _ H => E c d H) body g) : FnX P w K mg base ca (k + 1) f (defB N.length m dxs g) := by
  have ok : FnOk P w K mg base (L2.CX P w) (k + 1) f fd ps (fun vs H Q E => vs.length = ps.length ∧ ∃ ν h xs, Ab K ca ν h H ∧ RepL K ν H xs vs ∧ Post K ca (fun c d _ H => E c d H) [] ν H (runB N.length g xs h) fun ν' H' _ x => ∀ v, Rep K ν' H' x v → Q v H') := by
    refine Fd.ok S (fun vs H Q E h => h.1) fun cdv A outer s H vs Q E hr h => ?_
    obtain ⟨hl, ν, hp, xs, A1, r, p⟩ := h
    exact ⟨_, hb cdv A outer s H E hr (takes_of rfl rfl rfl rfl) (passes_of (X := cxOf (L2.CX P w) P w K mg base N qual scope f cdv A outer s H E) rfl), body_read A1 r p rfl⟩
  refine ⟨(ok.raw b hd).imp fun vs H Q E ⟨ν, hp, xs, A, r, p⟩ => ?_, Fd.kp⟩
  unfold defB at p
  by_cases hl : xs.length = m
  · rw [if_pos hl] at p
    refine ⟨?_, ν, hp, xs ++ dxs, A, r.append (hx ν H), p⟩
    rw [List.length_append, ← r.length, ← (hx ν H).length, hl, hm]
  · rw [if_neg hl] at p
    exact p.elim
end
end FX

set_option Elab.async false
set_option linter.all false
set_option maxRecDepth 100000
set_option maxHeartbeats 2000000
namespace FX
open PySem PySem.Spec PyProof.Rows L2 SlX
/-- plain data of depth below n -/
def okD : Nat → PV → Bool
  | _, .non => true
  | _, .bl _ => true
  | _, .int _ => true
  | _, .str x => x.all fun c => decide (c < 0x110000)
  | n + 1, .tup xs => xs.all (okD n)
  | _, _ => false
def pdOf : Nat → PV → PyData
  | _, .bl b => .bool b
  | _, .int i => .int i
  | _, .str x => .str (mkS x)
  | n + 1, .tup xs => .tuple (xs.map (pdOf n))
  | _, _ => .none
def eqL : List Nat → List Nat → Bool
  | [], [] => true
  | a :: x, b :: y => Nat.beq a b && eqL x y
  | _, _ => false
mutual
/-- == of data -/
def eqv : PV → PV → Bool
  | .non, .non => true
  | .bl a, .bl b => a == b
  | .bl a, .int j => (if a then 1 else 0) == j
  | .int i, .bl b => i == (if b then 1 else 0)
  | .int i, .int j => decide (i = j)
  | .str x, .str y => eqL x y
  | .tup xs, .tup ys => eqvL xs ys
  | _, _ => false
def eqvL : List PV → List PV → Bool
  | [], [] => true
  | x :: xs, y :: ys => eqv x y && eqvL xs ys
  | _, _ => false
end
theorem eqL_iff : ∀ {x y : List Nat}, eqL x y = true ↔ x = y
  | [], [] => by simp [eqL]
  | [], _ :: _ => by simp [eqL]
  | _ :: _, [] => by simp [eqL]
  | a :: x, b :: y => by
    unfold eqL
    rw [Bool.and_eq_true, eqL_iff (x := x) (y := y), Nat.beq_eq]
    simp
theorem eqL_dec (x y : List Nat) : eqL x y = decide (x = y) := by
  by_cases h : x = y
  · rw [decide_eq_true h]; exact eqL_iff.mpr h
  · rw [decide_eq_false h]
    cases e : eqL x y
    · rfl
    · exact absurd (eqL_iff.mp e) h
theorem mkS_inj {x y : List Nat} (h : mkS x = mkS y) : x = y := by
  unfold mkS at h
  injection h with h
  simpa using congrArg Array.toList h
theorem mkS_eq {x y : List Nat} : (mkS x == mkS y) = eqL x y := by
  rw [eqL_dec]
  by_cases h : x = y
  · subst h; simp
  · rw [decide_eq_false h]
    exact beq_eq_false_iff_ne.mpr fun e => h (mkS_inj e)
section
variable {K : PySem.W.Frag} {ν : Nu} {H : Hp}
theorem strOk_of {x : List Nat} (h : (x.all fun c => decide (c < 0x110000)) = true) : PyData.strOk (mkS x) = true := by
  unfold PyData.strOk mkS
  simp only [List.all_toArray]
  exact h
mutual
theorem dp_of : ∀ (n : Nat) (x : PV) (v : V), okD n x = true → Rep K ν H x v → Dp K H v (pdOf n x)
  | 0, .non, _, _, .non => .non
  | _ + 1, .non, _, _, .non => .non
  | 0, .bl b, _, _, .bl => .bl _
  | _ + 1, .bl b, _, _, .bl => .bl _
  | 0, .int b, _, _, .int => .int _
  | _ + 1, .int b, _, _, .int => .int _
  | 0, .str b, _, _, .str => .str _
  | _ + 1, .str b, _, _, .str => .str _
  | n + 1, .tup xs, _, h, .tup q r => .tup (.of q) (dpL_of n xs _ (by simpa [okD] using h) r)
theorem dpL_of : ∀ (n : Nat) (xs : List PV) (vs : List V), (∀ x ∈ xs, okD n x = true) → RepL K ν H xs vs → DpAll K H vs (xs.map (pdOf n))
  | _, [], _, _, .nil => .nil
  | n, x :: xs, _, h, .cons r t => .cons (dp_of n x _ (h x List.mem_cons_self) r) (dpL_of n xs _ (fun y hy => h y (List.mem_cons_of_mem _ hy)) t)
end
mutual
theorem lay_of : ∀ (n : Nat) (x : PV), okD n x = true → (pdOf n x).canLay0 = true ∧ (pdOf n x).depth ≤ n
  | 0, .non, _ => ⟨rfl, Nat.zero_le _⟩
  | _ + 1, .non, _ => ⟨rfl, Nat.zero_le _⟩
  | 0, .bl b, _ => ⟨rfl, Nat.zero_le _⟩
  | _ + 1, .bl b, _ => ⟨rfl, Nat.zero_le _⟩
  | 0, .int b, _ => ⟨rfl, Nat.zero_le _⟩
  | _ + 1, .int b, _ => ⟨rfl, Nat.zero_le _⟩
  | 0, .str b, h => ⟨strOk_of (by simpa [okD] using h), Nat.zero_le _⟩
  | _ + 1, .str b, h => ⟨strOk_of (by simpa [okD] using h), Nat.zero_le _⟩
  | n + 1, .tup xs, h => by
    obtain ⟨h1, h2⟩ := layL_of n xs (by simpa [okD] using h)
    exact ⟨h1, Nat.succ_le_succ h2⟩
  | 0, .tup xs, h => by simp [okD] at h
  | 0, .ref _, h => by simp [okD] at h
  | 0, .ty _, h => by simp [okD] at h
  | 0, .kl _ _, h => by simp [okD] at h
  | _ + 1, .ref _, h => by simp [okD] at h
  | _ + 1, .ty _, h => by simp [okD] at h
  | _ + 1, .kl _ _, h => by simp [okD] at h
theorem layL_of : ∀ (n : Nat) (xs : List PV), (∀ x ∈ xs, okD n x = true) → PyData.canLayAll0 (xs.map (pdOf n)) = true ∧ PyData.depthAll (xs.map (pdOf n)) ≤ n
  | _, [], _ => ⟨rfl, Nat.zero_le _⟩
  | n, x :: xs, h => by
    obtain ⟨h1, h2⟩ := lay_of n x (h x List.mem_cons_self)
    obtain ⟨h3, h4⟩ := layL_of n xs fun y hy => h y (List.mem_cons_of_mem _ hy)
    refine ⟨?_, Nat.max_le.mpr ⟨h2, h4⟩⟩
    show ((pdOf n x).canLay0 && PyData.canLayAll0 (xs.map (pdOf n))) = true
    rw [h1, h3]; rfl
end
theorem shaped_of {n : Nat} {x : PV} (h : okD n x = true) (hn : n ≤ 64) : SeqAt.shaped (pdOf n x) = true := by
  obtain ⟨h1, h2⟩ := lay_of n x h
  unfold SeqAt.shaped
  rw [h1, decide_eq_true (Nat.le_trans h2 hn)]; rfl
mutual
theorem eqv_of : ∀ (n : Nat) (x y : PV), okD n x = true → okD n y = true → PyData.eqv (pdOf n x) (pdOf n y) = eqv x y
  | n, x, y, hx, hy => by
    cases x with
    | non => cases y <;> cases n <;> first | rfl | simp [okD] at hy
    | bl a => cases y <;> cases n <;> first | rfl | simp [okD] at hy
    | int i =>
      cases y with
      | int j =>
        have e : PyData.eqv (.int i) (.int j) = decide (i = j) := by
          show (i == j) = decide (i = j)
          rw [Bool.beq_eq_decide_eq]
        cases n <;> exact e
      | _ => cases n <;> first | rfl | simp [okD] at hy
    | str a =>
      cases y with
      | str b =>
        have e : PyData.eqv (.str (mkS a)) (.str (mkS b)) = eqL a b := mkS_eq
        cases n <;> exact e
      | _ => cases n <;> first | rfl | simp [okD] at hy
    | tup xs =>
      cases n with
      | zero => simp [okD] at hx
      | succ n =>
        cases y with
        | tup ys => exact eqvL_of n xs ys (by simpa [okD] using hx) (by simpa [okD] using hy)
        | _ => first | rfl | simp [okD] at hy
    | ref _ => cases n <;> simp [okD] at hx
    | ty _ => cases n <;> simp [okD] at hx
    | kl _ _ => cases n <;> simp [okD] at hx
theorem eqvL_of : ∀ (n : Nat) (xs ys : List PV), (∀ x ∈ xs, okD n x = true) → (∀ y ∈ ys, okD n y = true) → PyData.eqvAll (xs.map (pdOf n)) (ys.map (pdOf n)) = eqvL xs ys
  | _, [], [], _, _ => rfl
  | _, [], _ :: _, _, _ => rfl
  | _, _ :: _, [], _, _ => rfl
  | n, x :: xs, y :: ys, hx, hy => by
    show (PyData.eqv (pdOf n x) (pdOf n y) && PyData.eqvAll (xs.map (pdOf n)) (ys.map (pdOf n))) = (eqv x y && eqvL xs ys)
    rw [eqv_of n x y (hx x List.mem_cons_self) (hy y List.mem_cons_self), eqvL_of n xs ys (fun z hz => hx z (List.mem_cons_of_mem _ hz)) fun z hz => hy z (List.mem_cons_of_mem _ hz)]
end
end
def lim : Nat := 10000000
def pEq : PV → PV → M PV := fun x y => if okD 40 x && okD 40 y then M.ret (.bl (eqv x y)) else M.bad
def pNe : PV → PV → M PV := fun x y => if okD 40 x && okD 40 y then M.ret (.bl (!eqv x y)) else M.bad
def pLt : PV → PV → M PV
  | .int i, .int j => M.ret (.bl (decide (i < j)))
  | _, _ => M.bad
def pLe : PV → PV → M PV
  | .int i, .int j => M.ret (.bl (decide (i ≤ j)))
  | _, _ => M.bad
def pGt : PV → PV → M PV
  | .int i, .int j => M.ret (.bl (decide (j < i)))
  | _, _ => M.bad
def pGe : PV → PV → M PV
  | .int i, .int j => M.ret (.bl (decide (j ≤ i)))
  | _, _ => M.bad
def isNon : PV → Bool
  | .non => true
  | _ => false
def pIsN : PV → PV → M PV
  | x, .non => M.ret (.bl (isNon x))
  | _, _ => M.bad
def pNotN : PV → PV → M PV
  | x, .non => M.ret (.bl (!isNon x))
  | _, _ => M.bad
/-- a list or a tuple -/
def mSeq {α : Type} (x : PV) (k : List PV → M α) : M α := match x with
  | .tup xs => k xs
  | .kl _ xs => k xs
  | .ref n => mAt n fun o => match o with
    | .lst xs => k xs
    | _ => M.bad
  | _ => M.bad
/-- a list -/
def mLst {α : Type} (x : PV) (k : List PV → M α) : M α := match x with
  | .kl _ xs => k xs
  | .ref n => mAt n fun o => match o with
    | .lst xs => k xs
    | _ => M.bad
  | _ => M.bad
/-- a list that may be changed -/
def mMut {α : Type} (x : PV) (k : Nat → List PV → M α) : M α := match x with
  | .ref n => mAt n fun o => match o with
    | .lst xs => k n xs
    | _ => M.bad
  | _ => M.bad
def pAdd : PV → PV → M PV
  | .int i, .int j => M.ret (.int (i + j))
  | .tup xs, .tup ys => if xs.length + ys.length ≤ lim then M.ret (.tup (xs ++ ys)) else M.bad
  | .str x, .str y => if x.length + y.length ≤ lim then M.ret (.str (x ++ y)) else M.bad
  | x, y => mMut x fun _ xs => mMut y fun _ ys => if xs.length + ys.length ≤ lim then mNew (.lst (xs ++ ys)) else M.bad
def pSub : PV → PV → M PV
  | .int i, .int j => M.ret (.int (i - j))
  | _, _ => M.bad
def smallI (i : Int) : Bool := decide (-(2 ^ 64) < i ∧ i < 2 ^ 64)
def pMul : PV → PV → M PV
  | .int i, .int j => if smallI i || smallI j then M.ret (.int (i * j)) else M.bad
  | _, _ => M.bad
def pDiv : PV → PV → M PV
  | .int i, .int j => if decide (0 < j ∧ j < 1073741824) then M.ret (.int (i / j)) else M.bad
  | _, _ => M.bad
def pMod : PV → PV → M PV
  | .int i, .int j => if decide (0 < j) then M.ret (.int (i % j)) else M.bad
  | _, _ => M.bad
def pPow : PV → PV → M PV
  | .int i, .int j => if decide (0 ≤ j ∧ (Builtin.Int.intBits i : Int) * j ≤ 2 ^ 27) then M.ret (.int (i ^ j.toNat)) else M.bad
  | _, _ => M.bad
def pNeg : PV → M PV
  | .int i => M.ret (.int (-i))
  | _ => M.bad
def pLen : FF := fun xs => match xs with
  | [.str y] => if y.length ≤ lim then M.ret (.int y.length) else M.bad
  | [x] => mSeq x fun ys => M.ret (.int ys.length)
  | _ => M.bad
def pAbs : FF := fun xs => match xs with
  | [.int i] => M.ret (.int (if i < 0 then -i else i))
  | _ => M.bad
def pMax2 : FF := fun xs => match xs with
  | [.int i, .int j] => M.ret (.int (if j > i then j else i))
  | _ => M.bad
def pMin2 : FF := fun xs => match xs with
  | [.int i, .int j] => M.ret (.int (if j < i then j else i))
  | _ => M.bad
def pInt : FF := fun xs => match xs with
  | [.int i] => M.ret (.int i)
  | [.bl b] => M.ret (.int (if b then 1 else 0))
  | _ => M.bad
def toBs : List PV → Option (List Bool)
  | [] => some []
  | .bl b :: xs => (toBs xs).map (b :: ·)
  | _ :: _ => none
def pAll : FF := fun xs => match xs with
  | [x] => mLst x fun ys => match toBs ys with
    | some bs => M.ret (.bl (bs.all id))
    | none => M.bad
  | _ => M.bad
def pAny : FF := fun xs => match xs with
  | [x] => mLst x fun ys => match toBs ys with
    | some bs => M.ret (.bl (bs.any id))
    | none => M.bad
  | _ => M.bad
def pTuple : FF := fun xs => match xs with
  | [.tup ys] => M.ret (.tup ys)
  | [x] => mLst x fun ys => M.ret (.tup ys)
  | _ => M.bad
def pList : FF := fun xs => match xs with
  | [x] => mSeq x fun ys => mNew (.lst ys)
  | _ => M.bad
/-- xs[i] -/
def pIx : PV → PV → M PV := fun x y => match y with
  | .int i => mSeq x fun xs => match atI xs i with
    | some z => M.ret z
    | none => M.bad
  | _ => M.bad
def mApp : FF := fun xs => match xs with
  | [x, y] => mMut x fun n ys => if ys.length < lim then (mPut n (.lst (ys ++ [y]))).bind fun _ => M.ret .non else M.bad
  | _ => M.bad
def mExt : FF := fun xs => match xs with
  | [x, y] => mMut x fun n ys => mMut y fun _ zs => if ys.length + zs.length ≤ lim then (mPut n (.lst (ys ++ zs))).bind fun _ => M.ret .non else M.bad
  | _ => M.bad
/-- xs[i] = v -/
def stIx : PV → PV → PV → M Unit := fun x y v => match y with
  | .int i => mMut x fun n xs => match ixN xs.length i with
    | some j => mPut n (.lst (xs.set j v))
    | none => M.bad
  | _ => M.bad
/-- isinstance with a built-in class -/
def isTy (T : String) : PV → MH → Bool := fun x h => match x with
  | .bl _ => T == "bool" || T == "int"
  | .int _ => T == "int"
  | .str _ => T == "str"
  | .tup _ => T == "tuple"
  | .kl _ _ => T == "list"
  | .ref n => (match h.get n with
    | some (.lst _) => T == "list"
    | some (.dct _) => T == "dict"
    | _ => false)
  | _ => false
def pIsi (T : String) : FF := fun xs => match xs with
  | [x, _] => fun h => .ok (.bl (isTy T x h)) h
  | _ => M.bad
section
variable {K : PySem.W.Frag} {ca : Ca} {W : WX} {σ : L2.St} {ν : Nu} {H : Hp} {h : MH} {α : Type}
theorem mAt_none {n : Nat} {f : MO → M α} (e : h.get n = none) : mAt n f h = .bad := by unfold mAt; rw [e]
theorem mAt_post {n : Nat} {f : MO → M α} {Φ : Nu → Hp → MH → α → Prop} (P : Post K ca W σ ν H (mAt n f h) Φ) : ∃ o, h.get n = some o ∧ Post K ca W σ ν H (f o h) Φ := by
  cases ho : h.get n with
  | none => rw [mAt_none ho] at P; exact P.elim
  | some o => rw [mAt_ok ho] at P; exact ⟨o, rfl, P⟩
theorem mSeq_post {x : PV} {v : V} {k : List PV → M α} {Φ : Nu → Hp → MH → α → Prop} (A : Ab K ca ν h H) (r : Rep K ν H x v) (P : Post K ca W σ ν H (mSeq x k h) Φ) :
    ∃ a xs vs, v = .ref a ∧ (SqL K H a vs ∨ SqT K H a vs) ∧ RepL K ν H xs vs ∧ Post K ca W σ ν H (k xs h) Φ := by
  cases r with
  | @tup xs a vs q r => exact ⟨a, xs, vs, rfl, .inr (.of q), r, P⟩
  | @kl a xs vs q r => exact ⟨a, xs, vs, rfl, .inl q.sq, r, P⟩
  | @ref n a l e =>
    unfold mSeq at P
    obtain ⟨o, ho, P⟩ := mAt_post P
    have q := A.at_ _ o ho
    rw [e] at q
    cases o with
    | lst xs =>
      obtain ⟨a', vs, e1, e2, rl⟩ := q
      cases e1
      exact ⟨_, xs, vs, rfl, .inl (.of e2), rl, P⟩
    | _ => exact P.elim
  | _ => exact P.elim
theorem mLst_post {x : PV} {v : V} {k : List PV → M α} {Φ : Nu → Hp → MH → α → Prop} (A : Ab K ca ν h H) (r : Rep K ν H x v) (P : Post K ca W σ ν H (mLst x k h) Φ) :
    ∃ a xs vs, v = .ref a ∧ SqL K H a vs ∧ RepL K ν H xs vs ∧ Post K ca W σ ν H (k xs h) Φ := by
  cases r with
  | @kl a xs vs q r => exact ⟨a, xs, vs, rfl, q.sq, r, P⟩
  | @ref n a l e =>
    unfold mLst at P
    obtain ⟨o, ho, P⟩ := mAt_post P
    have q := A.at_ _ o ho
    rw [e] at q
    cases o with
    | lst xs =>
      obtain ⟨a', vs, e1, e2, rl⟩ := q
      cases e1
      exact ⟨_, xs, vs, rfl, .of e2, rl, P⟩
    | _ => exact P.elim
  | _ => exact P.elim
theorem mMut_post {x : PV} {v : V} {k : Nat → List PV → M α} {Φ : Nu → Hp → MH → α → Prop} (A : Ab K ca ν h H) (r : Rep K ν H x v) (P : Post K ca W σ ν H (mMut x k h) Φ) :
    ∃ n a xs vs, x = .ref n ∧ v = .ref a ∧ h.get n = some (.lst xs) ∧ ν n = [a] ∧ H a = some (.lst vs) ∧ RepL K ν H xs vs ∧ Post K ca W σ ν H (k n xs h) Φ := by
  cases r with
  | @ref n a l e =>
    unfold mMut at P
    obtain ⟨o, ho, P⟩ := mAt_post P
    have q := A.at_ _ o ho
    rw [e] at q
    cases o with
    | lst xs =>
      obtain ⟨a', vs, e1, e2, rl⟩ := q
      cases e1
      exact ⟨n, _, xs, vs, rfl, rfl, ho, e, e2, rl, P⟩
    | _ => exact P.elim
  | _ => exact P.elim
/-- a list written -/
theorem wr_lst {n : Nat} {a : Addr} {xs ys : List PV} {vs : List V} (A : Ab K ca ν h H) (ho : h.get n = some (.lst xs)) (e : ν n = [a]) (r : RepL K ν H ys vs) : Ext ν ν H (upd H a (.lst vs)) ∧ Ab K ca ν (h.put n (.lst ys)) (upd H a (.lst vs)) := by
  refine A.wr ho (fun b hb => ?_) (fun b hb => ?_) fun x => ?_
  · rw [e] at hb
    exact upd_ne fun z => hb (by rw [z]; exact List.mem_cons_self)
  · rw [e] at hb
    rw [List.mem_singleton.mp hb, upd_same]; exact fun z => nomatch z
  · rw [e]
    exact ⟨a, vs, rfl, upd_same, r.ext x⟩
theorem RepL.atI {xs : List PV} {vs : List V} {i : Int} {z : PV} (r : RepL K ν H xs vs) (e : L2.atI xs i = some z) : ∃ u, L2.atI vs i = some u ∧ Rep K ν H z u := by
  unfold L2.atI at e ⊢
  rw [← r.length]
  cases q : ixN xs.length i with
  | none => rw [q] at e; cases e
  | some j =>
    rw [q] at e
    obtain ⟨u, hu, ru⟩ := r.get (show xs[j]? = some z from e)
    exact ⟨u, hu, ru⟩
theorem lim_line {n : Nat} (h : n ≤ lim) : n ≤ sizeLine := small_line h
theorem toBs_map : ∀ {xs : List PV} {bs : List Bool} {vs : List V}, toBs xs = some bs → RepL K ν H xs vs → vs = bs.map V.bl
  | [], _, _, e, .nil => by
    cases e; rfl
  | x :: xs, bs, _, e, .cons r t => by
    cases r with
    | @bl b =>
      cases q : toBs xs with
      | none => simp [toBs, q] at e
      | some bs' =>
        simp [toBs, q] at e
        subst e
        rw [toBs_map q t]
        rfl
    | _ => simp [toBs] at e
end
end FX

set_option Elab.async false
set_option linter.all false
set_option maxRecDepth 100000
set_option maxHeartbeats 2000000
namespace FX
open PySem PySem.Spec PyProof.Rows L2 SlX
def ckLst : PV → M Unit := fun x => mLst x fun _ => M.ret ()
def ckStr : PV → M Unit := fun x => match x with
  | .str _ => M.ret ()
  | _ => M.bad
def eBm (ck : PV → M Unit) (g : FF) (fo : EF) (ra : AF) : EF := fun ρ => (fo ρ).bind fun x => (ck x).bind fun _ => (ra ρ).bind fun xs => g (x :: xs)
def sSub (fo fi fv : EF) (st : PV → PV → PV → M Unit) : SF := fun ρ => sThen (fv ρ) ρ fun v => sThen (fo ρ) ρ fun o => sThen (fi ρ) ρ fun i => sThen (st o i v) ρ fun _ => M.ret (.nx ρ)
section
variable (X : Cx) (ca : Ca) (W : WX)
def CaM (f : Value) (g : FF) : Prop := ∀ pins s σ H ν h xs vs us Q, Inv X pins σ H s → Vals vs us → Ab X.K ca ν h H → RepL X.K ν H xs vs →
  Post X.K ca W σ ν H (g xs h) (fun ν' H' _ z => ∀ w, Rep X.K ν' H' z w → Q w H') → wpAny (model X.prog X.w) X.A (call f us) (EP X pins σ Q) X.xe s
def IxM (g : PV → PV → M PV) : Prop := ∀ (value slice : Expr) pins s σ H ν h x y xv yv v u Q, Inv X pins σ H s → RelV xv v → RelV yv u → Ab X.K ca ν h H → Rep X.K ν H x xv → Rep X.K ν H y yv →
  Post X.K ca W σ ν H (g x y h) (fun ν' H' _ z => ∀ w, Rep X.K ν' H' z w → Q w H') → subscripted slice false v u = operate [v, u] (getItem v u) → wpAny (model X.prog X.w) X.A (subscriptTail value slice v u) (EP X pins σ Q) X.xe s
def StM (st : PV → PV → PV → M Unit) : Prop := ∀ pins s σ H ν h x y z xv yv zv v u w (Q : Hp → Prop), Inv X pins σ H s → RelV xv v → RelV yv u → RelV zv w → Ab X.K ca ν h H → Rep X.K ν H x xv → Rep X.K ν H y yv → Rep X.K ν H z zv →
  Post X.K ca W σ ν H (st x y z h) (fun _ H' _ _ => Q H') → wpAny (model X.prog X.w) X.A (setItem v u w) (fun _ s' => ∃ H', Inv X pins σ H' s' ∧ Q H') X.xe s
end
section
variable {X : Cx} {ca : Ca} {W : WX}
theorem CaM.of {f : Value} {g : FF} {r : List V → Hp → VK → Prop} (h : CallR X f r) (hr : ∀ σ H ν hp xs vs Q, Ab X.K ca ν hp H → RepL X.K ν H xs vs → Post X.K ca W σ ν H (g xs hp) (fun ν' H' _ z => ∀ w, Rep X.K ν' H' z w → Q w H') → r vs H Q) : CaM X ca W f g :=
  fun pins s σ H ν hp xs vs us Q I rv A rx P => h pins s σ H vs us Q I rv (hr σ H ν hp xs vs Q A rx P)
theorem OpM.of {f : Value → Value → Sem Value} {g : PV → PV → M PV} {r : R2} (h : OpR X f r) (hr : ∀ σ H ν hp x y xv yv Q, Ab X.K ca ν hp H → Rep X.K ν H x xv → Rep X.K ν H y yv → Post X.K ca W σ ν H (g x y hp) (fun ν' H' _ z => ∀ w, Rep X.K ν' H' z w → Q w H') → r xv yv H Q) : OpM X ca W f g :=
  fun pins s σ H ν hp x y xv yv v u Q I rv ru A rx ry P => h pins s σ H xv yv v u Q I rv ru (hr σ H ν hp x y xv yv Q A rx ry P)
theorem om_eq (hu : X.A.units + 64 < cLine) : OpM X ca W (compareOp .Eq) pEq := OpM.of (op_eqD hu) fun σ H ν hp x y xv yv Q A rx ry P => by
  have P' : Post X.K ca W σ ν H ((if (okD 40 x && okD 40 y) = true then M.ret (.bl (eqv x y)) else M.bad : M PV) hp) (fun ν' H' _ z => ∀ w, Rep X.K ν' H' z w → Q w H') := P
  by_cases hc : (okD 40 x && okD 40 y) = true
  · rw [if_pos hc] at P'
    obtain ⟨h1, h2⟩ := Bool.and_eq_true_iff.mp hc
    refine ⟨_, _, dp_of 40 x xv h1 rx, dp_of 40 y yv h2 ry, shaped_of h1 (by decide), shaped_of h2 (by decide), ?_⟩
    rw [eqv_of 40 x y h1 h2]
    exact Post.ret P' A _ .bl
  · rw [if_neg hc] at P'
    exact P'.elim
theorem om_ne (hu : X.A.units + 64 < cLine) : OpM X ca W (compareOp .NotEq) pNe := OpM.of (op_neD hu) fun σ H ν hp x y xv yv Q A rx ry P => by
  have P' : Post X.K ca W σ ν H ((if (okD 40 x && okD 40 y) = true then M.ret (.bl (!eqv x y)) else M.bad : M PV) hp) (fun ν' H' _ z => ∀ w, Rep X.K ν' H' z w → Q w H') := P
  by_cases hc : (okD 40 x && okD 40 y) = true
  · rw [if_pos hc] at P'
    obtain ⟨h1, h2⟩ := Bool.and_eq_true_iff.mp hc
    refine ⟨_, _, dp_of 40 x xv h1 rx, dp_of 40 y yv h2 ry, shaped_of h1 (by decide), shaped_of h2 (by decide), ?_⟩
    rw [eqv_of 40 x y h1 h2]
    exact Post.ret P' A _ .bl
  · rw [if_neg hc] at P'
    exact P'.elim
theorem om_lt : OpM X ca W (compareOp .Lt) pLt := OpM.of op_lt fun σ H ν hp x y xv yv Q A rx ry P => by
  cases rx <;> cases ry <;> first | exact ⟨_, _, rfl, rfl, Post.ret P A _ .bl⟩ | exact P.elim
theorem om_le : OpM X ca W (compareOp .LtE) pLe := OpM.of op_le fun σ H ν hp x y xv yv Q A rx ry P => by
  cases rx <;> cases ry <;> first | exact ⟨_, _, rfl, rfl, Post.ret P A _ .bl⟩ | exact P.elim
theorem om_gt : OpM X ca W (compareOp .Gt) pGt := OpM.of op_gt fun σ H ν hp x y xv yv Q A rx ry P => by
  cases rx <;> cases ry <;> first | exact ⟨_, _, rfl, rfl, Post.ret P A _ .bl⟩ | exact P.elim
theorem om_ge : OpM X ca W (compareOp .GtE) pGe := OpM.of op_ge fun σ H ν hp x y xv yv Q A rx ry P => by
  cases rx <;> cases ry <;> first | exact ⟨_, _, rfl, rfl, Post.ret P A _ .bl⟩ | exact P.elim
theorem isNon_dec {K : PySem.W.Frag} {ν : Nu} {H : Hp} {x : PV} {v : V} (r : Rep K ν H x v) : decide (v = .non) = isNon x := by
  cases r <;> rfl
theorem om_isN : OpM X ca W (compareOp .Is) pIsN := OpM.of op_isN fun σ H ν hp x y xv yv Q A rx ry P => by
  cases ry with
  | non =>
    refine ⟨rfl, ?_⟩
    rw [isNon_dec rx]
    exact Post.ret (x := PV.bl (isNon x)) P A _ .bl
  | _ => exact P.elim
theorem om_notN : OpM X ca W (compareOp .IsNot) pNotN := OpM.of op_notN fun σ H ν hp x y xv yv Q A rx ry P => by
  cases ry with
  | non =>
    refine ⟨rfl, ?_⟩
    rw [isNon_dec rx]
    exact Post.ret (x := PV.bl (!isNon x)) P A _ .bl
  | _ => exact P.elim
theorem om_sub : OpM X ca W (binaryOp .Sub) pSub := OpM.of op_sub fun σ H ν hp x y xv yv Q A rx ry P => by
  cases rx <;> cases ry <;> first | exact ⟨_, _, rfl, rfl, Post.ret P A _ .int⟩ | exact P.elim
theorem post_if {α : Type} {K : PySem.W.Frag} {σ : L2.St} {ν : Nu} {H : Hp} {h : MH} {c : Bool} {m : M α} {Φ : Nu → Hp → MH → α → Prop} (P : Post K ca W σ ν H ((if c = true then m else M.bad : M α) h) Φ) : c = true ∧ Post K ca W σ ν H (m h) Φ := by
  cases c with
  | true => exact ⟨rfl, P⟩
  | false => exact P.elim
theorem post_ifp {α : Type} {K : PySem.W.Frag} {σ : L2.St} {ν : Nu} {H : Hp} {h : MH} {c : Prop} [Decidable c] {m : M α} {Φ : Nu → Hp → MH → α → Prop} (P : Post K ca W σ ν H ((if c then m else M.bad : M α) h) Φ) : c ∧ Post K ca W σ ν H (m h) Φ := by
  by_cases hc : c
  · rw [if_pos hc] at P; exact ⟨hc, P⟩
  · rw [if_neg hc] at P; exact P.elim
theorem om_mul : OpM X ca W (binaryOp .Mult) pMul := OpM.of op_mul fun σ H ν hp x y xv yv Q A rx ry P => by
  cases rx with
  | @int i =>
    cases ry with
    | @int j =>
      obtain ⟨hc, P'⟩ := post_if P
      refine ⟨i, j, rfl, rfl, ?_, Post.ret P' A _ .int⟩
      rcases Bool.or_eq_true_iff.mp hc with h | h
      · exact .inl (of_decide_eq_true h)
      · exact .inr (of_decide_eq_true h)
    | _ => exact P.elim
  | _ => exact P.elim
theorem om_div : OpM X ca W (binaryOp .FloorDiv) pDiv := OpM.of op_fdiv fun σ H ν hp x y xv yv Q A rx ry P => by
  cases rx with
  | @int i =>
    cases ry with
    | @int j =>
      obtain ⟨hc, P'⟩ := post_if P
      exact ⟨i, j, rfl, rfl, (show CDiv i j from of_decide_eq_true (p := 0 < j ∧ j < 1073741824) hc), Post.ret P' A _ .int⟩
    | _ => exact P.elim
  | _ => exact P.elim
theorem om_mod : OpM X ca W (binaryOp .Mod) pMod := OpM.of op_mod fun σ H ν hp x y xv yv Q A rx ry P => by
  cases rx with
  | @int i =>
    cases ry with
    | @int j =>
      obtain ⟨hc, P'⟩ := post_if P
      exact ⟨i, j, rfl, rfl, of_decide_eq_true hc, Post.ret P' A _ .int⟩
    | _ => exact P.elim
  | _ => exact P.elim
theorem op_powW : OpR X (binaryOp .Pow) (rI (fun i j => 0 ≤ j ∧ (Builtin.Int.intBits i : Int) * j ≤ 2 ^ 27) fun i j => .int (i ^ j.toNat)) := opI fun _ _ _ _ _ _ _ hc q => pow_int hc.1 hc.2 q
theorem om_pow : OpM X ca W (binaryOp .Pow) pPow := OpM.of op_powW fun σ H ν hp x y xv yv Q A rx ry P => by
  cases rx with
  | @int i =>
    cases ry with
    | @int j =>
      obtain ⟨hc, P'⟩ := post_if P
      exact ⟨i, j, rfl, rfl, of_decide_eq_true hc, Post.ret P' A _ .int⟩
    | _ => exact P.elim
  | _ => exact P.elim
theorem um_neg : UnM X ca W (unaryOp .USub) pNeg := fun pins s σ H ν h x xv v Q I rv A rx P => un_neg pins s σ H xv v Q I rv (by
  cases rx <;> first | exact ⟨_, rfl, Post.ret P A _ .int⟩ | exact P.elim)
theorem cat_lists {σ : L2.St} {ν : Nu} {H : Hp} {hp : MH} {x y : PV} {xv yv : V} {Q : VK} (A : Ab X.K ca ν hp H) (rx : Rep X.K ν H x xv) (ry : Rep X.K ν H y yv)
    (P : Post X.K ca W σ ν H ((mMut x fun _ xs => mMut y fun _ ys => if xs.length + ys.length ≤ lim then mNew (.lst (xs ++ ys)) else M.bad) hp) (fun ν' H' _ z => ∀ w, Rep X.K ν' H' z w → Q w H')) :
    ∃ a b vs us, xv = .ref a ∧ yv = .ref b ∧ H a = some (.lst vs) ∧ H b = some (.lst us) ∧ vs.length + us.length ≤ sizeLine ∧ ∀ p, H p = none → Q (.ref p) (upd H p (.lst (vs ++ us))) := by
  obtain ⟨_, a, xs, vs, rfl, rfl, _, _, q1, r1, P1⟩ := mMut_post A rx P
  obtain ⟨_, b, ys, us, rfl, rfl, _, _, q2, r2, P2⟩ := mMut_post A ry P1
  obtain ⟨hl, P3⟩ := post_ifp P2
  refine ⟨a, b, vs, us, rfl, rfl, q1, q2, by rw [← r1.length, ← r2.length]; exact lim_line hl, fun p hp => ?_⟩
  obtain ⟨q, r⟩ := new_lst A (r1.append r2) hp P3
  exact q _ r
theorem om_add : OpM X ca W (binaryOp .Add) pAdd := by
  intro pins s σ H ν hp x y xv yv v u Q I rv ru A rx ry P
  -- two lists
  have lists : (Post X.K ca W σ ν H ((mMut x fun _ xs => mMut y fun _ ys => if xs.length + ys.length ≤ lim then mNew (.lst (xs ++ ys)) else M.bad) hp) (fun ν' H' _ z => ∀ w, Rep X.K ν' H' z w → Q w H')) → wpAny (model X.prog X.w) X.A (binaryOp .Add v u) (EP X pins σ Q) X.xe s := fun P => by
    obtain ⟨a, b, vs, us, rfl, rfl, q1, q2, hz, q⟩ := cat_lists A rx ry P
    exact op_cat pins s σ H _ _ v u Q I rv ru ⟨a, b, vs, us, rfl, rfl, q1, q2, hz, q⟩
  cases rx with
  | @int i =>
    cases ry with
    | @int j => exact op_add pins s σ H _ _ v u Q I rv ru ⟨i, j, rfl, rfl, Post.ret P A _ .int⟩
    | _ => exact P.elim
  | @str i =>
    cases ry with
    | @str j =>
      obtain ⟨hl, P'⟩ := post_ifp P
      refine op_add_str pins s σ H _ _ v u Q I rv ru ⟨mkS i, mkS j, rfl, rfl, ?_, ?_⟩
      · show (i.toArray).size + (j.toArray).size ≤ sizeLine
        rw [List.size_toArray, List.size_toArray]
        exact lim_line hl
      · have e : mkS i ++ mkS j = mkS (i ++ j) := by
          unfold mkS
          show (⟨i.toArray ++ j.toArray⟩ : Str) = ⟨(i ++ j).toArray⟩
          simp
        rw [e]
        exact Post.ret P' A _ .str
    | _ => exact P.elim
  | @tup xs a vs q r =>
    cases ry with
    | @tup ys b us q2 r2 =>
      obtain ⟨hl, P'⟩ := post_ifp P
      refine op_catA pins s σ H _ _ v u Q I rv ru ⟨a, b, vs, us, rfl, rfl, .of q, .of q2, by rw [← r.length, ← r2.length]; exact lim_line hl, fun e => ?_, fun e e2 => ?_, fun e e2 p hp => ?_⟩
      · subst e
        cases r
        exact Post.ret P' A _ (.tup q2 r2)
      · subst e2
        cases r2
        rw [List.append_nil] at P'
        exact Post.ret P' A _ (.tup q r)
      · obtain ⟨x2, A2⟩ := A.oth (o := .tup (vs ++ us)) hp
        exact P' ν _ x2 A2 _ (.tup upd_same ((r.append r2).ext x2))
    | ref e => exact lists P
    | kl q r => exact lists P
    | _ => exact P.elim
  | ref e => cases ry <;> exact lists P
  | kl q r => cases ry <;> exact lists P
  | _ => cases ry <;> exact P.elim
section
variable {x id T : String} {nm : Str} {e o : Expr} {es : List Expr} {p pos apos cpos : Pos} {ra : AF} {fo fi fv : EF} {g : FF} {fa fb : EF} {a b : Expr}
theorem px_callB {id : String} (hc : CaM X ca W (.builtin id) g) (hg : Gl X nm) (hm : X.mg nm = none) (hv : bootBuiltins nm = some (.builtin id)) (ha : PXA X ca W (e :: es) ra) (hn : nm ≠ "__name__" := by decide) (hdb : (nm == ("__debug__" : Str)) = false := by decide)
    (he : starEach (e :: es) X.env = (false, eval e X.env) :: starEach es X.env := by rfl) (hpl : (backTo pos (starEach es X.env)).any (·.1) = false := by rfl) : PX X ca W (.Call (.Name nm p) (e :: es) [] pos) (eApp g ra) := by
  refine ⟨fun pins s σ H Q I ⟨ν, ρ, h, A, E, P⟩ => ?_⟩
  refine wpAny_Call_Name_kw (ld_blt I hg hm hv ?_ hn hdb)
  exact PyProof.Rows.callWith_builtin1 (thn (ha.run pos pins s σ H _ I (app_post A E P)) fun us s1 ⟨vs, H1, I1, r1, ν1, h1, xs, A1, rx, P1⟩ => hc pins s1 σ H1 ν1 h1 xs vs us Q I1 r1 A1 rx P1) he hpl
theorem px_callT {T : String} (hc : CaM X ca W (.type T) g) (hg : Gl X nm) (hm : X.mg nm = none) (hv : bootBuiltins nm = some (.type T)) (ha : PXA X ca W (e :: es) ra) (hn : nm ≠ "__name__" := by decide) (hdb : (nm == ("__debug__" : Str)) = false := by decide)
    (he : starEach (e :: es) X.env = (false, eval e X.env) :: starEach es X.env := by rfl) (hpl : (backTo pos (starEach es X.env)).any (·.1) = false := by rfl) : PX X ca W (.Call (.Name nm p) (e :: es) [] pos) (eApp g ra) := by
  refine ⟨fun pins s σ H Q I ⟨ν, ρ, h, A, E, P⟩ => ?_⟩
  refine wpAny_Call_Name_kw (ld_blt I hg hm hv ?_ hn hdb)
  exact PyProof.Rows.callWith_type1 (thn (ha.run pos pins s σ H _ I (app_post A E P)) fun us s1 ⟨vs, H1, I1, r1, ν1, h1, xs, A1, rx, P1⟩ => hc pins s1 σ H1 ν1 h1 xs vs us Q I1 r1 A1 rx P1) he hpl
/-- a method of a built-in type: id by values, the receiver first -/
theorem px_bm {ck : PV → M Unit} {T id : String} (pa : PlainAttrs T) (slot : Slot T nm id) (hty : typeOf (.builtin id) = pure (.type "method_descriptor")) (hck : ∀ σ H ν h x v Φ, Ab X.K ca ν h H → Rep X.K ν H x v → Post X.K ca W σ ν H (ck x h) Φ → tyV X.K T v H ∧ Φ ν H h ())
    (hc : CaM X ca W (.builtin id) g) (ho : PX X ca W o fo) (ha : PXA X ca W (e :: es) ra) (hbase : attributeBase o nm X.env (eval o X.env) = eval o X.env := by rfl)
    (hfew : ((backTo cpos (starEach (e :: es) X.env)).all (fun x => !x.1) && (backToKw cpos (keywordEach [] X.env)).all (fun x => x.1.isSome)
      && decide ((e :: es).length + ([] : List Keyword).length + (if ([] : List Keyword).isEmpty then 0 else 1) < 30)) = true := by rfl)
    (hline : (apos.endLine == cpos.line) = true := by rfl) (hs : starEach (e :: es) X.env = (false, eval e X.env) :: starEach es X.env := by rfl) (hplain : (backTo cpos (starEach es X.env)).any (·.1) = false := by rfl) :
    PX X ca W (.Call (.Attribute o nm apos) (e :: es) [] cpos) (eBm ck g fo ra) := by
  refine ⟨fun pins s σ H Q I ⟨ν, ρ, h, A, E, P⟩ => ?_⟩
  refine wpAny_Call_method_late hbase hfew hline rfl (thn (ho.run pins s σ H _ I ⟨ν, ρ, h, A, E, (Post.bind P).mono fun ν1 H1 h1 px e1 A1 P1 v rv => (⟨ν1, h1, px, A1, E.ext e1, rv, P1⟩ : ∃ ν1 h1 px, Ab X.K ca ν1 h1 H1 ∧ EnvR X.K ν1 H1 ρ σ ∧ Rep X.K ν1 H1 px v ∧ Post X.K ca W σ ν1 H1 (((ck px).bind fun _ => (ra ρ).bind fun xs => g (px :: xs)) h1) fun ν' H' _ x => ∀ v, Rep X.K ν' H' x v → Q v H')⟩) fun v s1 ⟨x, H1, I1, r1, ν1, h1, px, A1, E1, rp, P1⟩ => ?_)
  obtain ⟨ty, P2⟩ := hck σ H1 ν1 h1 px x _ A1 rp (Post.bind P1)
  obtain ⟨t1, t2⟩ := tyV_is I1 r1 ty
  refine ⟨T, id, pa, slot, hty, t1, t2, ?_⟩
  have hA := ha.run cpos pins s1 σ H1 _ I1 ⟨ν1, ρ, h1, A1, E1, (Post.bind P2).mono fun ν2 H2 h2 xs e2 A2 P4 ws rws => (⟨ν2, h2, xs, A2, rp.ext e2, rws, P4⟩ : ∃ ν2 h2 xs, Ab X.K ca ν2 h2 H2 ∧ Rep X.K ν2 H2 px x ∧ RepL X.K ν2 H2 xs ws ∧ Post X.K ca W σ ν2 H2 (g (px :: xs) h2) fun ν' H' _ x => ∀ v, Rep X.K ν' H' x v → Q v H')⟩
  rw [hs] at hA ⊢
  refine Calls.callWith_builtin (by show (false || (backTo cpos (starEach es X.env)).any (·.1)) = false; rw [hplain] <;> rfl) (Calls.evalArgs_plain ?_)
  exact thn hA fun us s2 ⟨vs, H2, I2, r2, ν2, h2, xs, A2, rp2, rxs, P4⟩ => hc pins s2 σ H2 ν2 h2 (px :: xs) (x :: vs) (v :: us) Q I2 (.cons r1 r2) A2 (.cons rp2 rxs) P4
theorem ckLst_ok {σ : L2.St} {H : Hp} {ν : Nu} {h : MH} {x : PV} {v : V} {Φ : Nu → Hp → MH → Unit → Prop} (A : Ab X.K ca ν h H) (r : Rep X.K ν H x v) (P : Post X.K ca W σ ν H (ckLst x h) Φ) : tyV X.K "list" v H ∧ Φ ν H h () := by
  obtain ⟨a, xs, vs, rfl, q, _, P'⟩ := mLst_post A r P
  exact ⟨.inl ⟨rfl, _, q⟩, Post.ret P' A⟩
theorem ckStr_ok {σ : L2.St} {H : Hp} {ν : Nu} {h : MH} {x : PV} {v : V} {Φ : Nu → Hp → MH → Unit → Prop} (A : Ab X.K ca ν h H) (r : Rep X.K ν H x v) (P : Post X.K ca W σ ν H (ckStr x h) Φ) : tyV X.K "str" v H ∧ Φ ν H h () := by
  cases r <;> first | exact ⟨rfl, Post.ret P A⟩ | exact P.elim
theorem px_ix {g : PV → PV → M PV} (hr : IxM X ca W g) (ha : PX X ca W a fa) (hb : PX X ca W b fb) (hs : PlainIx b := by intro _ _; rfl) : PX X ca W (.Subscript a b pos) (eOp g fa fb) := by
  refine ⟨fun pins s σ H Q I ⟨ν, ρ, h, A, E, P⟩ => ?_⟩
  exact Subscript_ (binT ha hb I (bind2 A E P) fun v u s2 x y H2 I2 rx ry ⟨ν2, h2, px, py, A2, r1, r2, P2⟩ => hr a b pins s2 σ H2 ν2 h2 px py x y v u Q I2 rx ry A2 r1 r2 P2 (hs _ _))
theorem ixm_seq : IxM X ca W pIx := by
  intro value slice pins s σ H ν h x y xv yv v u Q I rv ru A rx ry P hs
  cases ry with
  | @int i =>
    obtain ⟨a, xs, vs, rfl, q, r, P1⟩ := mSeq_post A rx P
    cases hz : atI xs i with
    | none =>
      have P2 : Post X.K ca W σ ν H ((match atI xs i with
        | some z => M.ret z
        | none => M.bad : M PV) h) (fun ν' H' _ z => ∀ w, Rep X.K ν' H' z w → Q w H') := P1
      rw [hz] at P2
      exact P2.elim
    | some z =>
      have P2 : Post X.K ca W σ ν H ((match atI xs i with
        | some z => M.ret z
        | none => M.bad : M PV) h) (fun ν' H' _ z => ∀ w, Rep X.K ν' H' z w → Q w H') := P1
      rw [hz] at P2
      obtain ⟨w, hw, rw'⟩ := r.atI hz
      have q' := Post.ret P2 A w rw'
      refine ix_seq value slice pins s σ H _ _ v u Q I rv ru ?_ hs
      rcases q with q | q
      · exact .inl ⟨a, vs, i, w, rfl, rfl, q, hw, q'⟩
      · exact .inr (.inl ⟨a, vs, i, w, rfl, rfl, q, hw, q'⟩)
  | _ => exact P.elim
theorem pxs_sub {st : PV → PV → PV → M Unit} {vE : Expr} (hst : StM X ca W st) (hv : PX X ca W vE fv) (ho : PX X ca W o fo) (hi : PX X ca W b fi)
    (ha : ∀ v, assign (.Subscript o b apos) X.env v = (do
      let ov ← holding [v] (eval o X.env)
      let iv ← holding [v, ov] (eval b X.env)
      standAt apos
      holding [v, ov, iv] (setItem ov iv v)
      release [v, ov, iv] []) := by intro _; rfl)
    (hs : swapsWithSole [.Subscript o b apos] vE pos.line X.env = pure false := by rfl) (hw : swappedStores [.Subscript o b apos] vE X.env = pure none := by rfl)
    (hq1 : (assignEach [.Subscript o b apos] X.env).map (·.2) = [assign (.Subscript o b apos) X.env] := by rfl) : PXS X ca W (.Assign [.Subscript o b apos] vE pos) (sSub fo fi fv st) := by
  refine ⟨fun pins s σ H D I ⟨ν, ρ, h, A, E, P⟩ => ?_⟩
  refine wpAny_Assign_stores (thn (hv.run pins s σ H _ I ⟨ν, ρ, h, A, E, (sThen_post E P).mono fun ν1 H1 h1 v e1 A1 P1 vv rv => (⟨ν1, h1, v, A1, E.ext e1, rv, P1⟩ : ∃ ν1 h1 v, Ab X.K ca ν1 h1 H1 ∧ EnvR X.K ν1 H1 ρ σ ∧ Rep X.K ν1 H1 v vv ∧ Post X.K ca W0 σ ν1 H1 (sThen (fo ρ) ρ (fun o => sThen (fi ρ) ρ fun i => sThen (st o i v) ρ fun _ => M.ret (.nx ρ)) h1) fun ν' H' _ o => Done ca W X.K D ν' H' o)⟩) fun w s1 ⟨zv, H1, I1, r1, ν1, h1, v, A1, E1, rv, P1⟩ => ?_) hs hw
  rw [hq1]
  show wpAny _ _ (assign (.Subscript o b apos) X.env w) _ _ _
  rw [ha]
  refine wpAny_bind (wpAny_holding (thn (ho.run pins s1 σ H1 _ I1 ⟨ν1, ρ, h1, A1, E1, (sThen_post E1 P1).mono fun ν2 H2 h2 x e2 A2 P2 xv rx => (⟨ν2, h2, x, A2, E1.ext e2, rv.ext e2, rx, P2⟩ : ∃ ν2 h2 x, Ab X.K ca ν2 h2 H2 ∧ EnvR X.K ν2 H2 ρ σ ∧ Rep X.K ν2 H2 v zv ∧ Rep X.K ν2 H2 x xv ∧ Post X.K ca W0 σ ν2 H2 (sThen (fi ρ) ρ (fun i => sThen (st x i v) ρ fun _ => M.ret (.nx ρ)) h2) fun ν' H' _ o => Done ca W X.K D ν' H' o)⟩) fun ov s2 ⟨xv, H2, I2, r2, ν2, h2, x, A2, E2, rv2, rx, P2⟩ => ?_))
  refine wpAny_bind (wpAny_holding (thn (hi.run pins s2 σ H2 _ I2 ⟨ν2, ρ, h2, A2, E2, (sThen_post E2 P2).mono fun ν3 H3 h3 y e3 A3 P3 yv ry => (⟨ν3, h3, y, A3, E2.ext e3, rv2.ext e3, rx.ext e3, ry, P3⟩ : ∃ ν3 h3 y, Ab X.K ca ν3 h3 H3 ∧ EnvR X.K ν3 H3 ρ σ ∧ Rep X.K ν3 H3 v zv ∧ Rep X.K ν3 H3 x xv ∧ Rep X.K ν3 H3 y yv ∧ Post X.K ca W0 σ ν3 H3 (sThen (st x y v) ρ (fun _ => M.ret (.nx ρ)) h3) fun ν' H' _ o => Done ca W X.K D ν' H' o)⟩) fun iv s3 ⟨yv, H3, I3, r3, ν3, h3, y, A3, E3, rv3, rx3, ry, P3⟩ => ?_))
  refine wpAny_bind (wpAny_standAt (wpAny_bind (wpAny_holding (thn (hst pins s3 σ H3 ν3 h3 x y v xv yv zv ov iv w (fun H' => D.nx σ H') I3 r2 r3 r1 A3 rx3 ry rv3 ((sThen_post E3 P3).mono fun ν4 H4 h4 _ e4 A4 P4 => Post.ret P4 A4 σ (E3.ext e4))) fun _ s4 ⟨H4, I4, q4⟩ => ?_))))
  exact wpAny_release ⟨σ, H4, I4, q4⟩
theorem stm_list : StM X ca W stIx := by
  intro pins s σ H ν h x y z xv yv zv v u w Q I rv ru rw' A rx ry rz P
  cases ry with
  | @int i =>
    obtain ⟨n, a, xs, vs, rfl, rfl, ho, e, ha, r, P1⟩ := mMut_post A rx P
    cases hj : ixN xs.length i with
    | none =>
      have P2 : Post X.K ca W σ ν H ((match ixN xs.length i with
        | some j => mPut n (.lst (xs.set j z))
        | none => M.bad : M Unit) h) (fun _ H' _ _ => Q H') := P1
      rw [hj] at P2
      exact P2.elim
    | some j =>
      have P2 : Post X.K ca W σ ν H ((match ixN xs.length i with
        | some j => mPut n (.lst (xs.set j z))
        | none => M.bad : M Unit) h) (fun _ H' _ _ => Q H') := P1
      rw [hj] at P2
      refine set_list pins s σ H _ _ _ v u w Q I rv ru rw' ⟨a, vs, i, j, rfl, rfl, ha, by rw [← r.length]; exact hj, ?_⟩
      obtain ⟨x2, A2⟩ := wr_lst A ho e (r.set rz j)
      exact P2 ν _ x2 A2
  | _ => exact P.elim
end
theorem ca_len : CaM X ca W (.builtin "len") pLen := CaM.of call_len fun σ H ν hp xs vs Q A r P => by
  cases r with
  | nil => exact P.elim
  | @cons x v xs vs r t =>
    cases t with
    | cons _ _ => cases r <;> exact P.elim
    | nil =>
      have seq : Post X.K ca W σ ν H ((mSeq x fun ys => M.ret (.int ys.length)) hp) (fun ν' H' _ z => ∀ w, Rep X.K ν' H' z w → Q w H') → ∃ x n, [v] = [x] ∧ LenV X.K x H n ∧ Q (.int n) H := fun P => by
        obtain ⟨a, ys, ws, rfl, q, rl, P1⟩ := mSeq_post A r P
        refine ⟨.ref a, ws.length, rfl, ?_, ?_⟩
        · rcases q with q | q
          · exact .inl ⟨_, q, rfl⟩
          · exact .inr ⟨_, q, rfl⟩
        · rw [← rl.length]
          exact Post.ret P1 A _ .int
      cases r with
      | @str y =>
        obtain ⟨hl, P'⟩ := post_ifp P
        have e : (mkS y).length = y.length := by
          show (y.toArray).size = y.length
          rw [List.size_toArray]
        refine ⟨_, y.length, rfl, ⟨by rw [e]; exact lim_line hl, e.symm⟩, Post.ret P' A _ .int⟩
      | _ => exact seq P
theorem ca_abs : CaM X ca W (.builtin "abs") pAbs := CaM.of call_abs fun σ H ν hp xs vs Q A r P => by
  cases r with
  | nil => exact P.elim
  | cons r t =>
    cases t with
    | nil => cases r <;> first | exact ⟨_, rfl, Post.ret P A _ .int⟩ | exact P.elim
    | cons _ _ => cases r <;> exact P.elim
theorem ca_max2 (hc : X.calm = true) : CaM X ca W (.builtin "max") pMax2 := CaM.of (call_max2 hc) fun σ H ν hp xs vs Q A r P => by
  cases r with
  | nil => exact P.elim
  | cons r t =>
    cases t with
    | nil => cases r <;> exact P.elim
    | cons r2 t2 =>
      cases t2 with
      | nil => cases r <;> cases r2 <;> first | exact ⟨_, _, rfl, Post.ret P A _ .int⟩ | exact P.elim
      | cons _ _ => cases r <;> cases r2 <;> exact P.elim
theorem ca_min2 (hc : X.calm = true) : CaM X ca W (.builtin "min") pMin2 := CaM.of (call_min2 hc) fun σ H ν hp xs vs Q A r P => by
  cases r with
  | nil => exact P.elim
  | cons r t =>
    cases t with
    | nil => cases r <;> exact P.elim
    | cons r2 t2 =>
      cases t2 with
      | nil => cases r <;> cases r2 <;> first | exact ⟨_, _, rfl, Post.ret P A _ .int⟩ | exact P.elim
      | cons _ _ => cases r <;> cases r2 <;> exact P.elim
theorem ca_int : CaM X ca W (.type "int") pInt := CaM.of call_int1 fun σ H ν hp xs vs Q A r P => by
  cases r with
  | nil => exact P.elim
  | cons r t =>
    cases t with
    | nil => cases r <;> first | exact .inl ⟨_, rfl, Post.ret P A _ .int⟩ | exact .inr ⟨_, rfl, Post.ret P A _ .int⟩ | exact P.elim
    | cons _ _ => cases r <;> exact P.elim
theorem ca_all (hc : X.calm = true) : CaM X ca W (.builtin "all") pAll := CaM.of (cr_all hc) fun σ H ν hp xs vs Q A r P => by
  cases r with
  | nil => exact P.elim
  | @cons x v xs vs r t =>
    cases t with
    | cons _ _ => exact P.elim
    | nil =>
      obtain ⟨a, ys, ws, rfl, q, rl, P1⟩ := mLst_post A r P
      cases hb : toBs ys with
      | none =>
        have P2 : Post X.K ca W σ ν H ((match toBs ys with
          | some bs => M.ret (.bl (bs.all id))
          | none => M.bad : M PV) hp) (fun ν' H' _ z => ∀ w, Rep X.K ν' H' z w → Q w H') := P1
        rw [hb] at P2
        exact P2.elim
      | some bs =>
        have P2 : Post X.K ca W σ ν H ((match toBs ys with
          | some bs => M.ret (.bl (bs.all id))
          | none => M.bad : M PV) hp) (fun ν' H' _ z => ∀ w, Rep X.K ν' H' z w → Q w H') := P1
        rw [hb] at P2
        have e := toBs_map hb rl
        subst e
        exact ⟨a, bs, rfl, q, Post.ret P2 A _ .bl⟩
theorem ca_any (hc : X.calm = true) : CaM X ca W (.builtin "any") pAny := CaM.of (cr_any hc) fun σ H ν hp xs vs Q A r P => by
  cases r with
  | nil => exact P.elim
  | @cons x v xs vs r t =>
    cases t with
    | cons _ _ => exact P.elim
    | nil =>
      obtain ⟨a, ys, ws, rfl, q, rl, P1⟩ := mLst_post A r P
      cases hb : toBs ys with
      | none =>
        have P2 : Post X.K ca W σ ν H ((match toBs ys with
          | some bs => M.ret (.bl (bs.any id))
          | none => M.bad : M PV) hp) (fun ν' H' _ z => ∀ w, Rep X.K ν' H' z w → Q w H') := P1
        rw [hb] at P2
        exact P2.elim
      | some bs =>
        have P2 : Post X.K ca W σ ν H ((match toBs ys with
          | some bs => M.ret (.bl (bs.any id))
          | none => M.bad : M PV) hp) (fun ν' H' _ z => ∀ w, Rep X.K ν' H' z w → Q w H') := P1
        rw [hb] at P2
        have e := toBs_map hb rl
        subst e
        exact ⟨a, bs, rfl, q, Post.ret P2 A _ .bl⟩
theorem ca_tuple : CaM X ca W (.type "tuple") pTuple := CaM.of call_tuple_of fun σ H ν hp xs vs Q A r P => by
  cases r with
  | nil => exact P.elim
  | @cons x v xs vs r t =>
    cases t with
    | cons _ _ => cases r <;> exact P.elim
    | nil =>
      have lst : Post X.K ca W σ ν H ((mLst x fun ys => M.ret (.tup ys)) hp) (fun ν' H' _ z => ∀ w, Rep X.K ν' H' z w → Q w H') → ∃ p ys, [v] = [.ref p] ∧ ((SqL X.K H p ys ∧ ∀ l, H l = none → Q (.ref l) (upd H l (.tup ys))) ∨ (SqT X.K H p ys ∧ Q (.ref p) H)) := fun P => by
        obtain ⟨a, ys, ws, rfl, q, rl, P1⟩ := mLst_post A r P
        refine ⟨a, ws, rfl, .inl ⟨q, fun l hl => ?_⟩⟩
        obtain ⟨x2, A2⟩ := A.oth (o := .tup ws) hl
        exact P1 ν _ x2 A2 _ (.tup upd_same (rl.ext x2))
      cases r with
      | @tup ys a ws q rl => exact ⟨a, ws, rfl, .inr ⟨.of q, Post.ret P A _ (.tup q rl)⟩⟩
      | ref e => exact lst P
      | kl q rl => exact lst P
      | _ => exact P.elim
theorem ca_list : CaM X ca W (.type "list") pList := CaM.of call_list_of fun σ H ν hp xs vs Q A r P => by
  cases r with
  | nil => exact P.elim
  | @cons x v xs vs r t =>
    cases t with
    | cons _ _ => exact P.elim
    | nil =>
      obtain ⟨a, ys, ws, rfl, q, rl, P1⟩ := mSeq_post A r P
      refine ⟨a, ws, rfl, q, fun l hl => ?_⟩
      obtain ⟨q', r'⟩ := new_lst A rl hl P1
      exact q' _ r'
theorem ca_append : CaM X ca W (.builtin "list.append") mApp := by
  intro pins s σ H ν hp xs vs us Q I rv A r P
  cases r with
  | nil => exact P.elim
  | @cons x v xs vs r t =>
    cases t with
    | nil => exact P.elim
    | @cons y u ys ws r2 t2 =>
      cases t2 with
      | cons _ _ => exact P.elim
      | nil =>
        obtain ⟨n, a, zs, us', rfl, rfl, ho, e, ha, rl, P1⟩ := mMut_post A r P
        obtain ⟨hl, P2⟩ := post_ifp P1
        cases rv with
        | cons rv rvs =>
          refine mt_append pins s σ H _ _ _ _ Q I rv rvs ⟨a, us', u, rfl, rfl, ha, by rw [← rl.length]; exact lst_line hl, ?_⟩
          obtain ⟨x2, A2⟩ := wr_lst A ho e (rl.append (.cons r2 .nil))
          exact Post.ret ((Post.bind P2) ν _ x2 A2) A2 _ .non
theorem ca_extend : CaM X ca W (.builtin "list.extend") mExt := by
  intro pins s σ H ν hp xs vs us Q I rv A r P
  cases r with
  | nil => exact P.elim
  | @cons x v xs vs r t =>
    cases t with
    | nil => exact P.elim
    | @cons y u ys ws r2 t2 =>
      cases t2 with
      | cons _ _ => exact P.elim
      | nil =>
        obtain ⟨n, a, zs, us', rfl, rfl, ho, e, ha, rl, P1⟩ := mMut_post A r P
        obtain ⟨n2, a2, zs2, us2, rfl, rfl, ho2, e2, ha2, rl2, P2⟩ := mMut_post A r2 P1
        obtain ⟨hl, P3⟩ := post_ifp P2
        cases rv with
        | cons rv rvs =>
          refine mt_extend pins s σ H _ _ _ _ Q I rv rvs ⟨a, a2, us', us2, rfl, rfl, ha, ha2, by rw [← rl.length, ← rl2.length]; exact lim_line hl, ?_⟩
          obtain ⟨x2, A2⟩ := wr_lst A ho e (rl.append rl2)
          exact Post.ret ((Post.bind P3) ν _ x2 A2) A2 _ .non
end
end FX

set_option Elab.async false
set_option linter.all false
set_option maxRecDepth 100000
set_option maxHeartbeats 2000000
namespace FX
open PySem PySem.Spec PyProof.Rows L2 SlX
/-- x op y, both of the class c -/
def mTwo (c : Nat) (F : FF) : PV → PV → M PV := fun x y => mIns c x fun _ _ => mIns c y fun _ _ => F [x, y]
/-- x in y, y of the class c -/
def mIn (c : Nat) (F : FF) : PV → PV → M PV := fun x y => mIns c y fun _ _ => (F [y, x]).bind fun r => match r with
  | .bl b => M.ret (.bl b)
  | _ => M.bad
/-- x != y by the class's own == -/
def mNeO (c : Nat) (F : FF) : PV → PV → M PV := fun x y => mIns c x fun _ _ => mIns c y fun _ _ => (F [x, y]).bind fun r => match r with
  | .bl b => M.ret (.bl (!b))
  | _ => M.bad
def opOr (c : Nat) (g g' : PV → PV → M PV) : PV → PV → M PV := fun x y h => if isC c x h then g x y h else g' x y h
/-- isinstance with the class c -/
def isiO (c : Nat) : FF := fun xs => match xs with
  | [x, _] => fun h => .ok (.bl (isC c x h)) h
  | _ => M.bad
section
variable {X : Cx} {ca : Ca} {W : WX} {pins : List (Addr × Obj)} {σ : L2.St} {H : Hp} {s : Shared} {k : Nat} {f C : Addr} {G : FF}
structure OpA (K : PySem.W.Frag) (C f : Addr) (nm : Str) : Prop where
  at_ : PySem.W.findIn K (.ref C) nm = some (some (.ref f))
  fn : PySem.W.isFn K (.ref f) = true
/-- a call at any place around -/
theorem call_xA {A' : Around} {Q : VK} {us : List Value} {vs : List V} {xs : List PV} {ν : Nu} {h : MH} (Fn : FnX X.prog X.w X.K X.mg X.base ca k f G) (hr : Room k A') (e0 : Env0 X.prog X.w X.K X.mg X.base A' X.stack s H) (tk : Takes X W) (I : Inv X pins σ H s) (r : Vals vs us) (A : Ab X.K ca ν h H) (rx : RepL X.K ν H xs vs)
    (P : Post X.K ca W σ ν H (G xs h) fun ν' H' _ x => ∀ v, Rep X.K ν' H' x v → Q v H') :
    codeAny (model X.prog X.w) A' (.call (.ref f) ⟨us, []⟩) (fun r s' => match r with | .ok (.ret v) => EP X pins σ Q v s' | .ok _ => False | .error e => X.xe e s') s := by
  have h : spM X.K ca G vs H Q (WE W σ) := ⟨ν, h, xs, A, rx, P.sig fun _ _ _ h => h⟩
  refine codeAny_mono (Fn.fn A' X.stack s H us vs Q (WE W σ) hr e0 r h) fun r s' hq => ?_
  cases r with
  | error e => exact (passAt tk σ) pins H s e s' I hq
  | ok fl =>
    cases fl with
    | ret u => exact I.after hq
    | next => exact False.elim hq
    | brk => exact False.elim hq
    | cont => exact False.elim hq
theorem om_own {op : Operator} {c : Nat} (o : OpA X.K (ca c) f (PySem.dunder op.info.2)) (sf : PySem.W.selfFirst X.K (ca c) = true) (Fn : FnX X.prog X.w X.K X.mg X.base ca k f G) (hr : Room k X.A) (tk : Takes X W) : OpM X ca W (binaryOp op) (mTwo c G) := by
  intro pins s σ H ν h x y xv yv v u Q I rv ru A rx ry P
  obtain ⟨n, a, dx, vs, fs, rfl, rfl, hn, en, hs, hd, ro, P1⟩ := mIns_post A rx P
  obtain ⟨m, b, dy, ws, gs, rfl, rfl, hm, em, hs2, hd2, ro2, P2⟩ := mIns_post A ry P1
  cases rv
  cases ru
  obtain ⟨sl, od, _, J, _⟩ := slt_inst I hs
  obtain ⟨sl', od', _, J', _⟩ := slt_inst I hs2
  obtain ⟨m', hF⟩ := I.fr
  refine PySem.W.binop_K hF I.ok.mod.kin J J'.type sf o.at_ o.fn ?_
  refine wpAny_mono (wpAny_call (call_x (us := [.ref a, .ref b]) (vs := [.ref a, .ref b]) Fn hr tk I (.cons rfl (.cons rfl .nil)) A (.cons rx (.cons ry .nil)) P2)) (fun w s' z => ?_) fun _ _ x => x
  obtain ⟨z', H', I', rz, qz⟩ := z
  exact cmpback rz ⟨z', H', I', rz, qz⟩
theorem om_eqO {c : Nat} (o : OpA X.K (ca c) f "__eq__") (hn : PySem.W.notFirst X.K (ca c) (.ref (ca c)) = true) (Fn : FnX X.prog X.w X.K X.mg X.base ca k f G) (hr : Room k X.A) (tk : Takes X W) : OpM X ca W (compareOp .Eq) (mTwo c G) := by
  intro pins s σ H ν h x y xv yv v u Q I rv ru A rx ry P
  obtain ⟨n, a, dx, vs, fs, rfl, rfl, _, en, hs, hd, ro, P1⟩ := mIns_post A rx P
  obtain ⟨m, b, dy, ws, gs, rfl, rfl, _, em, hs2, hd2, ro2, P2⟩ := mIns_post A ry P1
  cases rv
  cases ru
  obtain ⟨sl, od, _, J, _⟩ := slt_inst I hs
  obtain ⟨sl', od', _, J', _⟩ := slt_inst I hs2
  obtain ⟨m', hF⟩ := I.fr
  show wpAny _ _ (richCompare .Eq (.ref a) (.ref b)) _ _ _
  refine PySem.W.cmp_K (op := .Eq) (tb := .ref (ca c)) hr.units0 hF I.ok.mod.kin J J'.type hn o.at_ o.fn ?_
  refine wpAny_mono (wpAny_call (call_x (us := [.ref a, .ref b]) (vs := [.ref a, .ref b]) Fn hr tk I (.cons rfl (.cons rfl .nil)) A (.cons rx (.cons ry .nil)) P2)) (fun w s' z => ?_) fun _ _ x => x
  obtain ⟨z', H', I', rz, qz⟩ := z
  exact cmpback rz ⟨z', H', I', rz, qz⟩
theorem om_in {c : Nat} (o : OpA X.K (ca c) f "__contains__") (Fn : FnX X.prog X.w X.K X.mg X.base ca k f G) (hr : Room k X.A) (tk : Takes X W) : OpM X ca W (compareOp .In) (mIn c G) := by
  intro pins s σ H ν h x y xv yv v u Q I rv ru A rx ry P
  obtain ⟨n, a, dx, vs, fs, rfl, rfl, _, en, hs, hd, ro, P1⟩ := mIns_post A ry P
  cases ru
  obtain ⟨sl, od, _, J, _⟩ := slt_inst I hs
  obtain ⟨m', hF⟩ := I.fr
  refine PySem.W.in_K hF I.ok.mod.kin J o.at_ o.fn ?_
  have P2 := (Post.bind P1).mono fun ν2 H2 h2 r e2 A2 P3 => (show ∀ w, Rep X.K ν2 H2 r w → ∃ b, w = .bl b ∧ Q (.bl b) H2 from fun w rw' => by
    cases rw' with
    | @bl b => exact ⟨b, rfl, Post.ret P3 A2 _ .bl⟩
    | _ => exact P3.elim)
  refine wpAny_mono (wpAny_call (call_x (us := [.ref a, v]) (vs := [.ref a, xv]) Fn hr tk I (.cons rfl (.cons rv .nil)) A (.cons ry (.cons rx .nil)) P2)) (fun w s' z => ?_) fun _ _ x => x
  obtain ⟨z', H', I', rz, b, e, qz⟩ := z
  subst e
  cases rz
  exact wpAny_truthy_bool ⟨.bl b, H', I', rfl, qz⟩
theorem ne_entry {M : Model} {A' : Around} {E : Value → Shared → Prop} {K : PySem.W.Frag} {x C f : Addr} {v : Value} {ox : Obj} {od : Option Obj} {Q : Fin → Shared → Prop} (hu : A'.units < cLine) (X0 : K.In s.heap) (I : PySem.W.InstAt s.heap x ox C od) (o : OpA K C f "__eq__")
    (h : wpAny M A' (call (.ref f) [.ref x, v]) (fun r s' => ∃ b, r = .bool b ∧ Q (.done (.ret (.bool (!b)))) s') E s) : wpAny M A' (Builtin.«object.__ne__» ⟨[.ref x, v], []⟩) Q E s := by
  unfold Builtin.«object.__ne__»
  refine wpAny_bind (wpAny_pure ?_)
  refine wpAny_bind (wpAny_cRoomFor hu ?_)
  refine wpAny_bind (PySem.W.ifBound_K X0 I o.at_ o.fn (wpAny_mono h (fun r s' z => ?_) fun _ _ z => z))
  obtain ⟨b, rfl, q⟩ := z
  exact wpAny_bind (wpAny_truthy_bool (wpAny_pure q))
theorem om_neO {c : Nat} (o : OpA X.K (ca c) f "__eq__") (ne : PySem.W.findIn X.K (.ref (ca c)) "__ne__" = some (some (.builtin "object.__ne__"))) (hm : PySem.W.mroIn X.K (ca c) (.type "object") = some true)
    (Fn : FnX X.prog X.w X.K X.mg X.base ca k f G) (hr : Room (k + 1) X.A) (tk : Takes X W) : OpM X ca W (compareOp .NotEq) (mNeO c G) := by
  intro pins s σ H ν h x y xv yv v u Q I rv ru A rx ry P
  obtain ⟨n, a, dx, vs, fs, rfl, rfl, _, en, hs, hd, ro, P1⟩ := mIns_post A rx P
  obtain ⟨m, b, dy, ws, gs, rfl, rfl, _, em, hs2, hd2, ro2, P2⟩ := mIns_post A ry P1
  cases rv
  cases ru
  obtain ⟨sl, od, _, J, _⟩ := slt_inst I hs
  obtain ⟨sl', od', _, J', _⟩ := slt_inst I hs2
  have P3 := (Post.bind P2).mono fun ν2 H2 h2 r e2 A2 P3 => (show ∀ w, Rep X.K ν2 H2 r w → ∃ b, w = .bl b ∧ Q (.bl (!b)) H2 from fun w rw' => by
    cases rw' with
    | @bl b => exact ⟨b, rfl, Post.ret P3 A2 _ .bl⟩
    | _ => exact P3.elim)
  show wpAny _ _ (richCompare .NotEq (.ref a) (.ref b)) _ _ _
  simp only [richCompare, (rfl : cmpInfo .NotEq = (("!=", "__ne__", "__ne__") : String × Str × Str)), oneThing_ref]
  refine wpAny_holding (wpAny_bind (wpAny_cRoomFor hr.units0 ?_))
  refine wpAny_bind (J.type.here (wpAny_bind (J'.type.here ?_)))
  have call1 : wpAny (model X.prog X.w) X.A (call (.builtin "object.__ne__") [.ref a, .ref b]) (fun r s' => ∃ t, r = .bool t ∧ EP X pins σ Q (.bool t) s') X.xe s := by
    refine wpAny_call (codeAny_call_builtin PySem.F.cmp_object.ne.plain PySem.F.cmpEntry_ne (PySem.W.check_slot PySem.F.cmpKind_ne PySem.F.cmpSplit_ne (J.type.andThen (PySem.W.looks_mroIn I.kIn hm)) (PySem.F.cmpArgs_ne _ _) ?_))
    refine ne_entry (hr.in1).units0 I.kIn J o ?_
    refine wpAny_mono (wpAny_call (call_xA (us := [.ref a, .ref b]) (vs := [.ref a, .ref b]) Fn hr.in1 I.env0.in1 tk I (.cons rfl (.cons rfl .nil)) A (.cons rx (.cons ry .nil)) P3)) (fun w s' z => ?_) fun _ _ x => x
    obtain ⟨z', H', I', rz, t, e, qz⟩ := z
    subst e
    cases rz
    exact ⟨t, rfl, _, rfl, .bl (!t), H', I', rfl, qz⟩
  have one : wpAny (model X.prog X.w) X.A (tryCompare (.ref a) "__ne__" (.ref b)) (fun r s' => ∃ t, r = some (.bool t) ∧ EP X pins σ Q (.bool t) s') X.xe s := by
    unfold tryCompare
    refine wpAny_bind ?_
    simp only [callSpecialIfBound?, bindSpecialIfBound?]
    refine wpAny_holding (wpAny_bind (wpAny_bind (wpAny_bind (J.type.here ((PySem.W.looks_findIn I.kIn ne).here ?_)))))
    refine wpAny_bind (wpAny_askSetting (wpAny_ite ?_))
    have fin : wpAny (model X.prog X.w) X.A (call (.builtin "object.__ne__") ([.ref a] ++ [.ref b]) >>= fun v => pure (some v)) (fun r s' => wpAny (model X.prog X.w) X.A (match r with
      | some .notImplemented | none => pure none
      | some v => pure (some v)) (fun r s' => ∃ t, r = some (.bool t) ∧ EP X pins σ Q (.bool t) s') X.xe s') X.xe s := by
      refine wpAny_bind (wpAny_mono call1 (fun v s' h' => ?_) fun _ _ h' => h')
      obtain ⟨t, rfl, q⟩ := h'
      exact wpAny_pure (wpAny_pure ⟨t, rfl, q⟩)
    split
    · exact wpAny_bind (wpAny_of_eq (PySem.F.cmp_object.ne.bind _) (wpAny_pure (by exact fin)))
    · exact wpAny_tryCatch (wpAny_bind (wpAny_of_eq (PySem.F.cmp_object.ne.bind _) (wpAny_pure (by exact fin))))
  split
  · rename_i q
    simp at q
  · refine wpAny_bind (wpAny_pure ?_)
    simp only [Bool.false_eq_true, if_false]
    refine wpAny_bind (wpAny_mono one (fun r s' z => ?_) fun _ _ e => e)
    obtain ⟨t, rfl, hq⟩ := z
    exact wpAny_pure hq
end
end FX

set_option Elab.async false
set_option linter.all false
set_option maxRecDepth 100000
set_option maxHeartbeats 2000000
namespace FX
open PySem PySem.Spec PyProof.Rows L2 SlX
/-- a value's class -/
inductive Kd where
  | b (T : String)
  | o (c : Nat)
def kdOf (x : PV) (h : MH) : Option Kd := match x with
  | .non => some (.b "NoneType")
  | .bl _ => some (.b "bool")
  | .int _ => some (.b "int")
  | .str _ => some (.b "str")
  | .tup _ => some (.b "tuple")
  | .kl _ _ => some (.b "list")
  | .ref n => (match h.get n with
    | some (.lst _) => some (.b "list")
    | some (.dct _) => some (.b "dict")
    | some (.dtt _) => some (.b "dict")
    | some (.ins c _) => some (.o c)
    | _ => none)
  | _ => none
def isiT (tb : Kd → Option Bool) : PV → M PV := fun x h => match (kdOf x h).bind tb with
  | some b => .ok (.bl b) h
  | none => .bad
/-- [*x, ..] -/
def aStar (f : EF) (r : AF) : AF := fun ρ => (f ρ).bind fun x => mSeq x fun xs => (r ρ).bind fun ys => M.ret (xs ++ ys)
/-- list(range(n)) -/
def eLrg (f : EF) : EF := eUn (fun x => match x with
  | .int n => if decide (0 ≤ n ∧ n ≤ 10000000) then mNew (.lst ((List.range n.toNat).map fun i => PV.int (i : Nat))) else M.bad
  | _ => M.bad) f
def toIs : List PV → Option (List Int)
  | [] => some []
  | .int i :: xs => (toIs xs).map (i :: ·)
  | _ :: _ => none
def sIns (i : Int) : List Int → List Int
  | [] => [i]
  | j :: r => if i < j then i :: j :: r else if i = j then j :: r else j :: sIns i r
def sDed : List Int → List Int
  | [] => []
  | i :: r => sIns i (sDed r)
/-- sorted(set(t)) -/
def pSS : PV → M PV := fun x => match x with
  | .tup xs => (match toIs xs with
    | some ns => if ns.length < 64 then mNew (.lst ((sDed ns).map PV.int)) else M.bad
    | none => M.bad)
  | _ => M.bad
theorem mem_sIns {i k : Int} : ∀ {l : List Int}, k ∈ sIns i l ↔ k = i ∨ k ∈ l
  | [] => by simp [sIns]
  | j :: r => by
    unfold sIns
    split
    · simp
    · split
      · rename_i h; subst h; simp
      · simp [mem_sIns (l := r)]
        constructor
        · rintro (h | h | h) <;> simp [h]
        · rintro (h | h | h) <;> simp [h]
theorem sIns_sorted {i : Int} : ∀ {l : List Int}, l.Pairwise (· < ·) → (sIns i l).Pairwise (· < ·)
  | [], _ => by simp [sIns]
  | j :: r, h => by
    unfold sIns
    obtain ⟨h1, h2⟩ := List.pairwise_cons.mp h
    split
    · rename_i hij
      refine List.pairwise_cons.mpr ⟨fun k hk => ?_, h⟩
      rcases List.mem_cons.mp hk with rfl | hk
      · exact hij
      · exact Int.lt_trans hij (h1 k hk)
    · split
      · exact h
      · rename_i h3 h4
        refine List.pairwise_cons.mpr ⟨fun k hk => ?_, sIns_sorted h2⟩
        rcases mem_sIns.mp hk with rfl | hk
        · omega
        · exact h1 k hk
theorem mem_sDed {k : Int} : ∀ {l : List Int}, k ∈ sDed l ↔ k ∈ l
  | [] => Iff.rfl
  | i :: r => by
    unfold sDed
    rw [mem_sIns, mem_sDed (l := r), List.mem_cons]
theorem sDed_sorted : ∀ (l : List Int), (sDed l).Pairwise (· < ·)
  | [] => .nil
  | _ :: r => sIns_sorted (sDed_sorted r)
theorem sorted_unique : ∀ {a b : List Int}, a.Pairwise (· < ·) → b.Pairwise (· < ·) → (∀ k, k ∈ a ↔ k ∈ b) → a = b
  | [], [], _, _, _ => rfl
  | [], y :: b, _, _, h => by simpa using (h y).mpr List.mem_cons_self
  | x :: a, [], _, _, h => by simpa using (h x).mp List.mem_cons_self
  | x :: a, y :: b, ha, hb, h => by
    obtain ⟨a1, a2⟩ := List.pairwise_cons.mp ha
    obtain ⟨b1, b2⟩ := List.pairwise_cons.mp hb
    have e : x = y := by
      rcases List.mem_cons.mp ((h x).mp List.mem_cons_self) with e | hx
      · exact e
      · rcases List.mem_cons.mp ((h y).mpr List.mem_cons_self) with e | hy
        · exact e.symm
        · have := a1 y hy; have := b1 x hx; omega
    subst e
    rw [sorted_unique a2 b2 fun k => ⟨fun hk => ?_, fun hk => ?_⟩]
    · rcases List.mem_cons.mp ((h k).mp (List.mem_cons_of_mem _ hk)) with rfl | q
      · have := a1 k hk; omega
      · exact q
    · rcases List.mem_cons.mp ((h k).mpr (List.mem_cons_of_mem _ hk)) with rfl | q
      · have := b1 k hk; omega
      · exact q
theorem toIs_map {K : PySem.W.Frag} {ν : Nu} {H : Hp} : ∀ {xs : List PV} {ns : List Int} {vs : List V}, toIs xs = some ns → RepL K ν H xs vs → vs = ns.map V.int
  | [], ns, _, e, .nil => by cases e; rfl
  | x :: xs, ns, _, e, .cons r t => by
    cases r with
    | @int b =>
      cases q : toIs xs with
      | none => simp [toIs, q] at e
      | some ms =>
        simp [toIs, q] at e
        subst e
        rw [toIs_map q t]
        rfl
    | _ => simp [toIs] at e
section
variable {X : Cx} {ca : Ca} {W : WX} {k : Nat} {f C : Addr} {G : FF} {e e2 : Expr} {es : List Expr} {fe : EF} {ra : AF} {p p2 pos apos : Pos}
structure KdF (K : PySem.W.Frag) (ca : Ca) (u : Value) (tb : Kd → Option Bool) : Prop where
  b : ∀ T r, tb (.b T) = some r → PySem.W.kitOne K (.type T) u = some r
  o : ∀ c r, tb (.o c) = some r → SCls K (ca c) ∧ SIsi K (ca c) ∧ PySem.W.kitOne K (.ref (ca c)) u = some r
theorem ClsV.rel {c : V} {u : Value} (k : ClsV c u) : RelV c u := by cases k <;> rfl
theorem isi_post {u : Value} {cv x : V} {px : PV} {tb : Kd → Option Bool} {σ : L2.St} {H : Hp} {ν : Nu} {h : MH} {Q : VK} (hk : ClsV cv u) (hf : KdF X.K ca u tb) (A : Ab X.K ca ν h H) (r : Rep X.K ν H px x)
    (P : Post X.K ca W σ ν H (isiT tb px h) fun ν' H' _ z => ∀ w, Rep X.K ν' H' z w → Q w H') : rIsi X.K [x, cv] H Q ∨ rIsiSl X.K u [x, cv] H Q := by
  unfold isiT at P
  cases hd : kdOf px h with
  | none => rw [hd] at P; exact P.elim
  | some kd =>
    rw [hd, Option.bind_some] at P
    cases hb : tb kd with
    | none => rw [hb] at P; exact P.elim
    | some b =>
      rw [hb] at P
      have q := (show Post X.K ca W σ ν H (M.ret (PV.bl b) h) _ from P)
      have q' : Q (.bl b) H := Post.ret q A _ .bl
      have base : ∀ T, kd = .b T → TyX X.K H x (.type T) → rIsi X.K [x, cv] H Q ∨ rIsiSl X.K u [x, cv] H Q := fun T e ty => by
        subst e
        exact .inl ⟨x, cv, _, u, b, rfl, hk, ty, hf.b T b hb, q'⟩
      cases r with
      | non => exact base _ (Option.some.inj hd).symm (.base .non)
      | bl => exact base _ (Option.some.inj hd).symm (.base (.bl _))
      | int => exact base _ (Option.some.inj hd).symm (.base (.int _))
      | str => exact base _ (Option.some.inj hd).symm (.base (.str _))
      | ty => cases hd
      | tup e r => exact base _ (Option.some.inj hd).symm (.base (.tup e))
      | kl e r =>
        rcases e with ⟨o, e⟩ | ⟨o, its, n, e1, e2, _⟩
        · exact base _ (Option.some.inj hd).symm (.base (.frz e))
        · exact base _ (Option.some.inj hd).symm (.kList e1 e2)
      | @ref n a l e =>
        have hd' : (match h.get n with
          | some (.lst _) => some (Kd.b "list")
          | some (.dct _) => some (Kd.b "dict")
          | some (.dtt _) => some (Kd.b "dict")
          | some (.ins c _) => some (Kd.o c)
          | _ => none) = some kd := hd
        clear hd
        have hd := hd'
        cases ho : h.get n with
        | none => rw [ho] at hd; cases hd
        | some o =>
          rw [ho] at hd
          have q := A.at_ _ o ho
          rw [e] at q
          cases o with
          | lst xs =>
            obtain ⟨a', vs, e1, e2, rl⟩ := q
            cases e1
            exact base _ (Option.some.inj hd).symm (.base (.lst e2))
          | dct xs =>
            obtain ⟨a', vs, e1, e2, rl⟩ := q
            cases e1
            exact base _ (Option.some.inj hd).symm (.base (.dK e2))
          | dtt xs =>
            obtain ⟨a', vs, e1, e2, rl⟩ := q
            cases e1
            exact base _ (Option.some.inj hd).symm (.base (.dT e2))
          | ins c fs =>
            obtain ⟨a', dx, vs, e1, ⟨e2, _⟩, rl⟩ := q
            cases e1
            obtain rfl := (Option.some.inj hd)
            obtain ⟨h1, h2, h3⟩ := hf.o c b hb
            exact .inr ⟨_, _, dx, vs, cv, b, rfl, ClsV.rel hk, fun w r => hk.eq r, e2, h1, h2, h3, q'⟩
          | set _ => cases hd
          | exo _ _ => cases hd
theorem px_isi {u : Value} {cv : V} {tb : Kd → Option Bool} (hk : ClsV cv u) (hf : KdF X.K ca u tb) (he : PX X ca W e fe) (h2 : PE X e2 (tC cv)) (hg : Gl X "isinstance") (hm : X.mg "isinstance" = none)
    (hs : starEach [e, e2] X.env = (false, eval e X.env) :: starEach [e2] X.env := by rfl) (hs2 : starEach [e2] X.env = (false, eval e2 X.env) :: starEach [] X.env := by rfl) (hpl : (backTo pos (starEach [e2] X.env)).any (·.1) = false := by rfl) :
    PX X ca W (.Call (.Name "isinstance" p) [e, e2] [] pos) (eUn (isiT tb) fe) := by
  refine ⟨fun pins s σ H Q I ⟨ν, ρ, h, A, E, P⟩ => ?_⟩
  refine wpAny_Call_Name_kw (ld_blt I hg hm PyProof.Rows.boot_isinstance ?_ (by decide) (by decide))
  refine PyProof.Rows.callWith_builtin1 (thn ((pa_cons he (pa_cons h2 pa_nil hs2) hs).run pos pins s σ H (fun vs H1 => rIsi X.K vs H1 Q ∨ rIsiSl X.K u vs H1 Q) I
    ⟨ν, ρ, h, A, E, (Post.bind P).mono fun ν1 H1 h1 px e1 A1 P1 v rv => isi_post hk hf A1 rv P1⟩) fun us s1 ⟨vs, H1, I1, r1, q⟩ => ?_) hs hpl
  rcases q with q | q
  · exact call_isi pins s1 σ H1 vs us Q I1 r1 q
  · exact call_isiSl u pins s1 σ H1 vs us Q I1 r1 q
structure StA (K : PySem.W.Frag) (C p f : Addr) (m : Str) : Prop where
  ga : PySem.W.specialIn K (.ref C) "__getattribute__" = some (some (.builtin "type.__getattribute__"))
  rd : PySem.W.readsIn K C (.type "type") = true
  at_ : PySem.W.findCls K (.ref C) (.type "type") m = some (.get (.builtin "staticmethod.__get__") (.ref p) .none (.ref C))
  rc : ∃ rest, PySem.W.recIn K p "staticmethod" = some (.ref f :: rest)
theorem px_sm {pl : Sem Bool} {cn m : Str} {pp : Addr} (st : StA X.K C pp f m) (Fn : FnX X.prog X.w X.K X.mg X.base ca k f G) (hr : Room k X.A) (tk : Takes X W) (hg : Gl X cn) (hm : X.mg cn = some (.ref C)) (ha : PXA X ca W (e :: es) ra)
    (hdb : (cn == ("__debug__" : Str)) = false := by decide) (hst : starEach (e :: es) X.env = (false, eval e X.env) :: starEach es X.env := by rfl) (hpl : (backTo pos (starEach es X.env)).any (·.1) = false := by rfl)
    (ht : eval (.Call (.Attribute (.Name cn p) m apos) (e :: es) [] pos) X.env = (do
      let ov ← eval (.Name cn p) X.env
      standAt apos.atName
      let (f, first) ← holding [ov] (getMethod ov m pl)
      callWith pos f first (backTo pos (starEach (e :: es) X.env)) (backToKw pos (keywordEach [] X.env))) := by rfl) :
    PX X ca W (.Call (.Attribute (.Name cn p) m apos) (e :: es) [] pos) (eApp G ra) := by
  refine ⟨fun pins s σ H Q I ⟨ν, ρ, h, A, E, P⟩ => ?_⟩
  refine PySem.W.methodCall_KW (pl := pl) (ld_glob I hg hm ?_ hdb) ht
  refine PySem.W.method_cls I.kIn st.ga ?_
  obtain ⟨rest, hp⟩ := st.rc
  refine PySem.W.cls_bind I.kIn st.rd st.at_ (wpAny_call (PySem.W.sm_get (s := { s with toks := s.toks + 1 }) I.kIn hp (PySem.W.handed_on rfl ?_)))
  have I1 : Inv X pins σ H { s with toks := s.toks + 1 } := I.tok (s.toks + 1)
  refine PySem.W.callWith_K (first := []) (h₀ := X.base) I1.ok.mod.kin Fn.kp (thn (ha.run pos pins _ σ H _ I1 (app_post A E P)) fun us s1 ⟨vs, H1, I1, r, ν1, h1, xs, A1, rx, P1⟩ => ⟨I1.kIn, ?_⟩) hst hpl
  exact wpAny_call (call_x Fn hr tk I1 r A1 rx P1)
theorem pxa_star (he : PX X ca W e fe) (hr : PXA X ca W es ra) (hs : starEach (.Starred e p :: es) X.env = (true, eval e X.env) :: starEach es X.env := by rfl) : PXA X ca W (.Starred e p :: es) (aStar fe ra) := by
  refine PA.imp (StX.pa_star he hr hs) fun σ H Q ⟨ν, ρ, h, A, E, P⟩ => ?_
  refine ⟨ν, ρ, h, A, E, (Post.bind P).mono fun ν1 H1 h1 px e1 A1 P1 v rv => ?_⟩
  obtain ⟨a, xs, vs, rfl, q, r, P2⟩ := mSeq_post A1 rv P1
  refine ⟨a, vs, rfl, q.symm, ν1, ρ, h1, A1, E.ext e1, (Post.bind P2).mono fun ν2 H2 h2 ys e2 A2 P3 us ru => ?_⟩
  exact Post.ret P3 A2 _ ((r.ext e2).append ru)
theorem rgV0 {n : Int} (h : 0 ≤ n) {K : PySem.W.Frag} {ν : Nu} {H : Hp} : RepL K ν H ((List.range n.toNat).map fun i => PV.int (i : Nat)) (rgV 0 n) := by
  have e : rgV 0 n = ((List.range n.toNat).map fun i => ((i : Nat) : Int)).map V.int := by
    unfold rgV
    rw [List.map_map, Int.sub_zero]
    exact List.map_congr_left fun i _ => by show V.int (0 + _) = V.int _; rw [Int.zero_add]
  have e2 : ((List.range n.toNat).map fun i => PV.int (i : Nat)) = ((List.range n.toNat).map fun i => ((i : Nat) : Int)).map PV.int := by rw [List.map_map]; rfl
  rw [e, e2]
  exact .ints
theorem px_lrg (hc : X.calm = true) (hg : Gl X "list") (hm : X.mg "list" = none) (hg2 : Gl X "range") (hm2 : X.mg "range" = none) (he : PX X ca W e fe)
    (na : starEach [e] X.env = (false, eval e X.env) :: starEach [] X.env := by rfl) (na2 : starEach [.Call (.Name "range" p2) [e] [] apos] X.env = (false, eval (.Call (.Name "range" p2) [e] [] apos) X.env) :: starEach [] X.env := by rfl) :
    PX X ca W (.Call (.Name "list" p) [.Call (.Name "range" p2) [e] [] apos] [] pos) (eLrg fe) := by
  refine PE.imp (pe_listRg hc hg hm (prg_1 hg2 hm2 he na) na2) fun σ H Q ⟨ν, ρ, h, A, E, P⟩ => ⟨ν, ρ, h, A, E, (Post.bind P).mono fun ν1 H1 h1 px e1 A1 P1 v rv => ?_⟩
  cases rv with
  | @int n =>
    have P2 : Post X.K ca W σ ν1 H1 ((if decide (0 ≤ n ∧ n ≤ 10000000) = true then mNew (.lst ((List.range n.toNat).map fun i => PV.int (i : Nat))) else M.bad : M PV) h1) _ := P1
    obtain ⟨hc, P3⟩ := post_if P2
    have hn := of_decide_eq_true hc
    refine ⟨n, rfl, ⟨by decide, by decide, by omega, by omega, by omega⟩, fun q hq => ?_⟩
    obtain ⟨z, r⟩ := new_lst A1 (rgV0 hn.1) hq P3
    exact z _ r
  | _ => exact P1.elim
def rSetI (w : World) (K : PySem.W.Frag) : List V → Hp → VK → Prop := fun vs H Q => ∃ (p : Addr) (ns : List Int), vs = [.ref p] ∧ SqT K H p (ns.map V.int) ∧ ns.length ≤ 1000 ∧ ∀ a c, H a = none → c ≤ ns.length → Q (.ref a) (upd H a (SetO w a (fun j => decide (j ∈ ns)) c))
theorem cr_setI (hc : X.calm = true) : CallR X (.type "set") (rSetI X.w X.K) := by
  intro pins s σ H vs us Q I r h
  obtain ⟨p0, ns, e1, hq, hl, q⟩ := h
  subst e1
  obtain ⟨u, rfl, ru⟩ := r.one
  cases ru
  obtain ⟨its, rv, pt, hz⟩ := I.tuple hq
  have hi : IntsAre its.toArray.toList ns := ints_of_vals rv
  refine call_set_tupI ns (I.ok.hd hc) (show s.heap.IsTuple p0 its.toArray from pt) hi (by unfold scanBound; omega) fun h' tk c R1 hcn kk => ?_
  exact ⟨.ref s.heap.objs.size, _, I.laid (t' := tk) kk (Nat.le_refl _) (setO_new R1), rfl, q _ c (I.hok.fresh (Nat.le_refl _)) hcn⟩
theorem px_ss (hc : X.calm = true) (hg : Gl X "sorted") (hm : X.mg "sorted" = none) (hg2 : Gl X "set") (hm2 : X.mg "set" = none) (he : PX X ca W e fe)
    (na : starEach [e] X.env = (false, eval e X.env) :: starEach [] X.env := by rfl) (na2 : starEach [.Call (.Name "set" p2) [e] [] apos] X.env = (false, eval (.Call (.Name "set" p2) [e] [] apos) X.env) :: starEach [] X.env := by rfl) :
    PX X ca W (.Call (.Name "sorted" p) [.Call (.Name "set" p2) [e] [] apos] [] pos) (eUn pSS fe) := by
  refine ⟨fun pins s σ H Q I ⟨ν, ρ, h, A, E, P⟩ => ?_⟩
  refine wpAny_Call_Name_kw (ld_blt I hg hm PyProof.Rows.boot_sorted ?_ (by decide) (by decide))
  refine PyProof.Rows.callWith_builtin1 (args_cons ?_ na2) na2 rfl
  refine wpAny_Call_Name_kw (ld_blt I hg2 hm2 PyProof.Rows.boot_set ?_ (by decide) (by decide))
  refine PyProof.Rows.callWith_type1 (args_cons (thn (he.run pins s σ H _ I ⟨ν, ρ, h, A, E, (Post.bind P).mono fun ν1 H1 h1 px e1 A1 P1 v rv => (⟨ν1, h1, px, A1, rv, P1⟩ : ∃ ν1 h1 px, Ab X.K ca ν1 h1 H1 ∧ Rep X.K ν1 H1 px v ∧ Post X.K ca W σ ν1 H1 (pSS px h1) fun ν' H' _ x => ∀ v, Rep X.K ν' H' x v → Q v H')⟩) fun v s1 ⟨x, H1, I1, rx, ν1, h1, px, A1, rp, P1⟩ => args_nil ?_) na) na rfl
  cases rp with
  | @tup xs a vs q rl =>
    cases hi : toIs xs with
    | none =>
      have P2 : Post X.K ca W σ ν1 H1 ((match toIs xs with
        | some ns => if ns.length < 64 then mNew (.lst ((sDed ns).map PV.int)) else M.bad
        | none => M.bad : M PV) h1) (fun ν' H' _ x => ∀ v, Rep X.K ν' H' x v → Q v H') := P1
      rw [hi] at P2
      exact P2.elim
    | some ns =>
      have P2 : Post X.K ca W σ ν1 H1 ((match toIs xs with
        | some ns => if ns.length < 64 then mNew (.lst ((sDed ns).map PV.int)) else M.bad
        | none => M.bad : M PV) h1) (fun ν' H' _ x => ∀ v, Rep X.K ν' H' x v → Q v H') := P1
      rw [hi] at P2
      obtain ⟨hl, P3⟩ := post_ifp P2
      have ev := toIs_map hi rl
      subst ev
      refine thn (cr_setI hc pins s1 σ H1 [.ref a] [v] (fun z H2 => ∃ b c, z = .ref b ∧ H1 b = none ∧ c ≤ ns.length ∧ H2 = upd H1 b (SetO X.w b (fun j => decide (j ∈ ns)) c)) I1 (.cons rx .nil) ⟨a, ns, rfl, .of q, by omega, fun b c hb hc => ⟨b, c, rfl, hb, hc, rfl⟩⟩) fun z s2 ⟨zv, H2, I2, rz, b, c, ez, hb, hcn, eH⟩ => ?_
      subst ez eH
      obtain ⟨e2, A2⟩ := A1.oth (o := SetO X.w b (fun j => decide (j ∈ ns)) c) hb
      refine args_nil (cr_sortedSet hc pins s2 σ _ [.ref b] [z] Q I2 (.cons rz .nil) ⟨b, _, c, rfl, upd_same, by omega, fun ms p hms hmem _ hp => ?_⟩)
      have em : ms = sDed ns := sorted_unique hms (sDed_sorted ns) fun k => by
        rw [hmem k, mem_sDed, decide_eq_true_eq]
      subst em
      have rl2 : RepL X.K ν1 (upd H1 b (SetO X.w b (fun j => decide (j ∈ ns)) c)) ((sDed ns).map PV.int) ((sDed ns).map V.int) := .ints
      obtain ⟨x3, A3⟩ := A2.nw (as := [p]) (mo := .lst ((sDed ns).map PV.int)) (H' := upd (upd H1 b (SetO X.w b (fun j => decide (j ∈ ns)) c)) p (.lst ((sDed ns).map V.int))) (fun a ha => by rw [List.mem_singleton.mp ha]; exact hp) (fun b hb => upd_ne fun z => hb (by rw [z]; exact List.mem_cons_self))
        (fun b hb => by rw [List.mem_singleton.mp hb, upd_same]; exact fun z => nomatch z) (fun x => ⟨p, _, rfl, upd_same, rl2.ext x⟩)
      exact P3 _ _ (e2.trans x3) A3 _ (.ref (l := []) nuN_same)
  | _ => exact P1.elim
end
end FX

set_option Elab.async false
set_option linter.all false
set_option maxRecDepth 100000
set_option maxHeartbeats 2000000
namespace FX
open PySem PySem.Spec PyProof.Rows L2 SlX
mutual
def keyE : PV → PV → Bool
  | .int i, .int j => decide (i = j)
  | .str x, .str y => eqL x y
  | .tup xs, .tup ys => keyEs xs ys
  | _, _ => false
def keyEs : List PV → List PV → Bool
  | [], [] => true
  | x :: xs, y :: ys => keyE x y && keyEs xs ys
  | _, _ => false
end
/-- an int or a text -/
def asK : PV → Option Key
  | .int i => some (.inl i)
  | .str x => some (.inr (mkS x))
  | _ => none
def asKs : List PV → Option (List Key)
  | [] => some []
  | x :: xs => (asK x).bind fun k => (asKs xs).map (k :: ·)
def asT : PV → Option (List Key)
  | .tup xs => asKs xs
  | _ => none
def dGet (kvs : List (PV × PV)) (x : PV) : Option PV := (kvs.find? fun q => keyE q.1 x).map (·.2)
def dPut (kvs : List (PV × PV)) (x v : PV) : List (PV × PV) := if (kvs.any fun q => keyE q.1 x) = true then kvs.map (fun q => if keyE q.1 x = true then (q.1, v) else q) else kvs ++ [(x, v)]
theorem mkS_cps (x : Str) : mkS x.cps.toList = x := by
  unfold mkS
  cases x
  simp
theorem asK_kP : ∀ {x : PV} {k : Key}, asK x = some k → x = kP k
  | .int i, _, e => by cases e; rfl
  | .str x, _, e => by
    cases e
    show PV.str x = PV.str (x.toArray).toList
    simp
theorem asKs_map : ∀ {xs : List PV} {ks : List Key}, asKs xs = some ks → xs = ks.map kP
  | [], _, e => by cases e; rfl
  | x :: xs, ks, e => by
    unfold asKs at e
    cases h : asK x with
    | none => rw [h] at e; cases e
    | some k =>
      rw [h, Option.bind_some] at e
      cases h2 : asKs xs with
      | none => rw [h2] at e; cases e
      | some ls =>
        rw [h2] at e
        cases e
        rw [List.map_cons, ← asK_kP h, ← asKs_map h2]
theorem asT_kPs {x : PV} {ks : List Key} (e : asT x = some ks) : x = kPs ks := by
  cases x with
  | tup xs =>
    show PV.tup xs = PV.tup (ks.map kP)
    rw [← asKs_map e]
  | _ => cases e
theorem keyE_kP {a b : Key} : keyE (kP a) (kP b) = decide (a = b) := by
  cases a with
  | inl i =>
    cases b with
    | inl j => simp [kP, keyE]
    | inr y => simp [kP, keyE]
  | inr x =>
    cases b with
    | inl j => simp [kP, keyE]
    | inr y =>
      show eqL x.cps.toList y.cps.toList = _
      rw [eqL_dec]
      congr 1
      refine propext ⟨fun h => ?_, fun h => ?_⟩
      · rw [← mkS_cps x, ← mkS_cps y, h]
      · cases h; rfl
theorem keyEs_map : ∀ {a b : List Key}, keyEs (a.map kP) (b.map kP) = decide (a = b)
  | [], [] => by simp [keyEs]
  | [], _ :: _ => by simp [keyEs]
  | _ :: _, [] => by simp [keyEs]
  | x :: a, y :: b => by
    show (keyE (kP x) (kP y) && keyEs (a.map kP) (b.map kP)) = _
    rw [keyE_kP, keyEs_map (a := a) (b := b)]
    simp
theorem keyE_kPs {a b : List Key} : keyE (kPs a) (kPs b) = decide (a = b) := keyEs_map
section
variable {κ : Type} [DecidableEq κ] {φ : κ → PV} {K : PySem.W.Frag} {ν : Nu} {H : Hp}
theorem RepKV.get (hφ : ∀ a b, keyE (φ a) (φ b) = decide (a = b)) {k : κ} : ∀ {kvs : List (PV × PV)} {kws : List (κ × V)}, RepKV φ K ν H kvs kws → (dGet kvs (φ k) = none → valV kws k = none) ∧ ∀ v, dGet kvs (φ k) = some v → ∃ u, valV kws k = some u ∧ Rep K ν H v u
  | [], [], _ => ⟨fun _ => rfl, fun v h => by simp [dGet] at h⟩
  | [], _ :: _, h => by have := h.1; simp at this
  | _ :: _, [], h => by have := h.1; simp at this
  | (x, v) :: kvs, (k', u) :: kws, h => by
    obtain ⟨h1, h2⟩ := h
    rw [List.map_cons, List.map_cons] at h1 h2
    have hx : x = φ k' := (List.cons.inj h1).1
    have h1' := (List.cons.inj h1).2
    cases h2 with
    | cons r t =>
      have ih := RepKV.get hφ (k := k) (kvs := kvs) (kws := kws) ⟨h1', t⟩
      subst hx
      by_cases hk : k' = k
      · have e1 : dGet ((φ k', v) :: kvs) (φ k) = some v := by
          unfold dGet
          rw [List.find?_cons_of_pos (by show keyE (φ k') (φ k) = true; rw [hφ]; exact decide_eq_true hk)]
          rfl
        have e2 : valV ((k', u) :: kws) k = some u := valV_pos hk
        rw [e1, e2]
        exact ⟨fun z => (nomatch z), fun w hw => by cases hw; exact ⟨u, rfl, r⟩⟩
      · have e1 : dGet ((φ k', v) :: kvs) (φ k) = dGet kvs (φ k) := by
          unfold dGet
          rw [List.find?_cons_of_neg (by show ¬ keyE (φ k') (φ k) = true; rw [hφ]; simpa using hk)]
        have e2 : valV ((k', u) :: kws) k = valV kws k := valV_neg hk
        rw [e1, e2]
        exact ih
theorem RepKV.any (hφ : ∀ a b, keyE (φ a) (φ b) = decide (a = b)) {k : κ} : ∀ {kvs : List (PV × PV)} {kws : List (κ × V)}, kvs.map (·.1) = kws.map (fun q => φ q.1) → (kvs.any fun q => keyE q.1 (φ k)) = kws.any fun kv => decide (kv.1 = k)
  | [], [], _ => rfl
  | [], _ :: _, h => by simp at h
  | _ :: _, [], h => by simp at h
  | (x, v) :: kvs, (k', u) :: kws, h => by
    have hx : x = φ k' := (List.cons.inj h).1
    subst hx
    rw [List.any_cons, List.any_cons, RepKV.any hφ (List.cons.inj h).2]
    show (keyE (φ k') (φ k) || _) = (decide (k' = k) || _)
    rw [hφ]
theorem RepKV.repl (hφ : ∀ a b, keyE (φ a) (φ b) = decide (a = b)) {k : κ} {v : PV} {u : V} (r : Rep K ν H v u) : ∀ {kvs : List (PV × PV)} {kws : List (κ × V)}, RepKV φ K ν H kvs kws →
    RepKV φ K ν H (kvs.map fun q => if keyE q.1 (φ k) = true then (q.1, v) else q) (kws.map fun kv => if kv.1 = k then (kv.1, u) else kv)
  | [], [], _ => ⟨rfl, .nil⟩
  | [], _ :: _, h => by have := h.1; simp at this
  | _ :: _, [], h => by have := h.1; simp at this
  | (x, w) :: kvs, (k', z) :: kws, h => by
    obtain ⟨h1, h2⟩ := h
    rw [List.map_cons, List.map_cons] at h1 h2
    have hx : x = φ k' := (List.cons.inj h1).1
    have h1' := (List.cons.inj h1).2
    subst hx
    cases h2 with
    | cons r' t =>
      obtain ⟨i1, i2⟩ := RepKV.repl hφ (k := k) r (kvs := kvs) (kws := kws) ⟨h1', t⟩
      by_cases hk : k' = k
      · have e1 : (if keyE (φ k') (φ k) = true then (φ k', v) else (φ k', w)) = (φ k', v) := if_pos (by rw [hφ]; exact decide_eq_true hk)
        have e2 : (if k' = k then (k', u) else (k', z)) = (k', u) := if_pos hk
        refine ⟨?_, ?_⟩
        · simp only [List.map_cons, e1, e2]
          rw [i1]
        · simp only [List.map_cons, e1, e2]
          exact .cons r i2
      · have e1 : (if keyE (φ k') (φ k) = true then (φ k', v) else (φ k', w)) = (φ k', w) := if_neg (by rw [hφ]; simpa using hk)
        have e2 : (if k' = k then (k', u) else (k', z)) = (k', z) := if_neg hk
        refine ⟨?_, ?_⟩
        · simp only [List.map_cons, e1, e2]
          rw [i1]
        · simp only [List.map_cons, e1, e2]
          exact .cons r' i2
theorem RepKV.put (hφ : ∀ a b, keyE (φ a) (φ b) = decide (a = b)) {k : κ} {v : PV} {u : V} {kvs : List (PV × PV)} {kws : List (κ × V)} (h : RepKV φ K ν H kvs kws) (r : Rep K ν H v u) : RepKV φ K ν H (dPut kvs (φ k) v) (putK kws k u) := by
  unfold dPut putK
  rw [RepKV.any hφ h.1]
  by_cases c : (kws.any fun kv => decide (kv.1 = k)) = true
  · rw [if_pos c, if_pos c]
    exact RepKV.repl hφ r h
  · rw [if_neg c, if_neg c]
    refine ⟨?_, ?_⟩
    · rw [List.map_append, List.map_append, h.1]; rfl
    · rw [List.map_append, List.map_append]
      exact h.2.append (.cons r .nil)
theorem RepKV.ext {ν' : Nu} {H' : Hp} {kvs : List (PV × PV)} {kws : List (κ × V)} (h : RepKV φ K ν H kvs kws) (x : Ext ν ν' H H') : RepKV φ K ν' H' kvs kws := ⟨h.1, h.2.ext x⟩
theorem RepKV.length {kvs : List (PV × PV)} {kws : List (κ × V)} (h : RepKV φ K ν H kvs kws) : kvs.length = kws.length := by
  have := congrArg List.length h.1
  simpa using this
end
/-- {} -/
def eDNew (t : Bool) : EF := fun _ => mNew (if t then .dtt [] else .dct [])
def mDct {α : Type} (x y : PV) (k : Nat → Bool → List (PV × PV) → M α) : M α := match x with
  | .ref n => mAt n fun o => match o with
    | .dct kvs => (match asK y with
      | some _ => k n false kvs
      | none => M.bad)
    | .dtt kvs => (match asT y with
      | some _ => k n true kvs
      | none => M.bad)
    | _ => M.bad
  | _ => M.bad
def mkD (t : Bool) (kvs : List (PV × PV)) : MO := if t then .dtt kvs else .dct kvs
/-- d[y] -/
def pDGet : PV → PV → M PV := fun x y => mDct x y fun _ _ kvs => match dGet kvs y with
  | some v => M.ret v
  | none => M.bad
/-- d[y] = z -/
def stD : PV → PV → PV → M Unit := fun x y z => mDct x y fun n t kvs => if kvs.length < 10000000 then mPut n (mkD t (dPut kvs y z)) else M.bad
def setdK (y z : PV) (n : Nat) (t : Bool) (kvs : List (PV × PV)) : M PV := if kvs.length < 10000000 then (match dGet kvs y with
  | some v => M.ret v
  | none => (mPut n (mkD t (dPut kvs y z))).bind fun _ => M.ret z) else M.bad
/-- d.setdefault(y, z) -/
def pDSetd : FF := fun xs => match xs with
  | [x, y, z] => mDct x y (setdK y z)
  | _ => M.bad
def pDIn : PV → PV → M PV := fun y x => mDct x y fun _ _ kvs => M.ret (.bl (dGet kvs y).isSome)
def pDNotIn : PV → PV → M PV := fun y x => mDct x y fun _ _ kvs => M.ret (.bl (!(dGet kvs y).isSome))
section
variable {K : PySem.W.Frag} {ca : Ca} {W : WX} {σ : L2.St} {ν : Nu} {H : Hp} {h : MH} {α : Type}
theorem asKs_rep : ∀ {xs : List PV} {ks : List Key} {vs : List V}, asKs xs = some ks → RepL K ν H xs vs → vs = ks.map kV
  | [], _, _, e, .nil => by cases e; rfl
  | x :: xs, ks, _, e, .cons r t => by
    unfold asKs at e
    cases h : asK x with
    | none => rw [h] at e; cases e
    | some k =>
      rw [h, Option.bind_some] at e
      cases h2 : asKs xs with
      | none => rw [h2] at e; cases e
      | some ls =>
        rw [h2] at e
        cases e
        rw [List.map_cons, ← asKs_rep h2 t]
        cases r with
        | int => cases h; rfl
        | str => cases h; rfl
        | _ => cases h
/-- what a dict is, and its key -/
theorem mDct_post {x y : PV} {v u : V} {kk : Nat → Bool → List (PV × PV) → M α} {Φ : Nu → Hp → MH → α → Prop} (A : Ab K ca ν h H) (r : Rep K ν H x v) (ry : Rep K ν H y u) (P : Post K ca W σ ν H (mDct x y kk h) Φ) :
    ∃ n a, x = .ref n ∧ v = .ref a ∧ ν n = [a] ∧
      ((∃ kvs kws k, h.get n = some (.dct kvs) ∧ H a = some (.dK kws) ∧ RepKV kP K ν H kvs kws ∧ y = kP k ∧ u = kV k ∧ Post K ca W σ ν H (kk n false kvs h) Φ) ∨
       ∃ kvs kws k b, h.get n = some (.dtt kvs) ∧ H a = some (.dT kws) ∧ RepKV kPs K ν H kvs kws ∧ y = kPs k ∧ u = .ref b ∧ H b = some (.tup (k.map kV)) ∧ Post K ca W σ ν H (kk n true kvs h) Φ) := by
  cases r with
  | @ref n a l e =>
    obtain ⟨o, ho, P⟩ := mAt_post (show Post K ca W σ ν H (mAt n (fun o => match o with
      | .dct kvs => (match asK y with
        | some _ => kk n false kvs
        | none => M.bad)
      | .dtt kvs => (match asT y with
        | some _ => kk n true kvs
        | none => M.bad)
      | _ => M.bad) h) Φ from P)
    have q := A.at_ _ o ho
    rw [e] at q
    cases o with
    | dct kvs =>
      obtain ⟨a', kws, e1, e2, rl⟩ := q
      cases e1
      refine ⟨n, _, rfl, rfl, e, .inl ?_⟩
      cases hk : asK y with
      | none =>
        have P' := P
        simp only [hk] at P'
        exact (show False from P').elim
      | some k =>
        have P' := P
        simp only [hk] at P'
        refine ⟨kvs, kws, k, ho, e2, rl, asK_kP hk, ?_, P'⟩
        cases ry with
        | int => cases hk; rfl
        | str => cases hk; rfl
        | _ => cases hk
    | dtt kvs =>
      obtain ⟨a', kws, e1, e2, rl⟩ := q
      cases e1
      refine ⟨n, _, rfl, rfl, e, .inr ?_⟩
      cases hk : asT y with
      | none =>
        have P' := P
        simp only [hk] at P'
        exact (show False from P').elim
      | some k =>
        have P' := P
        simp only [hk] at P'
        cases ry with
        | @tup xs b vs q r =>
          have ev := asKs_rep hk r
          subst ev
          exact ⟨kvs, kws, k, b, ho, e2, rl, asT_kPs hk, rfl, q, P'⟩
        | _ => cases hk
    | _ => exact P.elim
  | _ => exact P.elim
/-- a dict written -/
theorem wr_dct {n : Nat} {a : Addr} {kvs mvs : List (PV × PV)} {kws : List (Key × V)} (A : Ab K ca ν h H) (ho : h.get n = some (.dct kvs)) (e : ν n = [a]) (r : RepKV kP K ν H mvs kws) : Ext ν ν H (upd H a (.dK kws)) ∧ Ab K ca ν (h.put n (.dct mvs)) (upd H a (.dK kws)) := by
  refine A.wr ho (fun b hb => ?_) (fun b hb => ?_) fun x => ?_
  · rw [e] at hb
    exact upd_ne fun z => hb (by rw [z]; exact List.mem_cons_self)
  · rw [e] at hb
    rw [List.mem_singleton.mp hb, upd_same]; exact fun z => nomatch z
  · rw [e]
    exact ⟨a, kws, rfl, upd_same, r.ext x⟩
theorem wr_dtt {n : Nat} {a : Addr} {kvs mvs : List (PV × PV)} {kws : List (List Key × V)} (A : Ab K ca ν h H) (ho : h.get n = some (.dtt kvs)) (e : ν n = [a]) (r : RepKV kPs K ν H mvs kws) : Ext ν ν H (upd H a (.dT kws)) ∧ Ab K ca ν (h.put n (.dtt mvs)) (upd H a (.dT kws)) := by
  refine A.wr ho (fun b hb => ?_) (fun b hb => ?_) fun x => ?_
  · rw [e] at hb
    exact upd_ne fun z => hb (by rw [z]; exact List.mem_cons_self)
  · rw [e] at hb
    rw [List.mem_singleton.mp hb, upd_same]; exact fun z => nomatch z
  · rw [e]
    exact ⟨a, kws, rfl, upd_same, r.ext x⟩
end
section
variable {X : Cx} {ca : Ca} {W : WX} {σ : L2.St} {ν : Nu} {H : Hp} {h : MH} {a b o i e : Expr} {fa fb fo fi : EF} {pos apos cpos : Pos} {es : List Expr} {ra : AF}
theorem px_dnewK : PX X ca W (.Dict [] [] pos) (eDNew false) := PE.imp pe_dnewK fun σ H Q ⟨ν, ρ, h, A, E, P⟩ p hp => by
  obtain ⟨x2, A2⟩ := A.nw (as := [p]) (mo := .dct []) (H' := upd H p (.dK [])) (fun a ha => by rw [List.mem_singleton.mp ha]; exact hp) (fun b hb => upd_ne fun z => hb (by rw [z]; exact List.mem_cons_self))
    (fun b hb => by rw [List.mem_singleton.mp hb, upd_same]; exact fun z => nomatch z) (fun x => ⟨p, [], rfl, upd_same, rfl, .nil⟩)
  exact (show Post X.K ca W σ ν H (mNew (.dct []) h) _ from P) _ _ x2 A2 _ (.ref (l := []) nuN_same)
theorem px_dnewT : PX X ca W (.Dict [] [] pos) (eDNew true) := PE.imp pe_dnewT fun σ H Q ⟨ν, ρ, h, A, E, P⟩ p hp => by
  obtain ⟨x2, A2⟩ := A.nw (as := [p]) (mo := .dtt []) (H' := upd H p (.dT [])) (fun a ha => by rw [List.mem_singleton.mp ha]; exact hp) (fun b hb => upd_ne fun z => hb (by rw [z]; exact List.mem_cons_self))
    (fun b hb => by rw [List.mem_singleton.mp hb, upd_same]; exact fun z => nomatch z) (fun x => ⟨p, [], rfl, upd_same, rfl, .nil⟩)
  exact (show Post X.K ca W σ ν H (mNew (.dtt []) h) _ from P) _ _ x2 A2 _ (.ref (l := []) nuN_same)
theorem dget_post {x y : PV} {v u : V} {Q : VK} (A : Ab X.K ca ν h H) (r : Rep X.K ν H x v) (ry : Rep X.K ν H y u) (P : Post X.K ca W σ ν H (pDGet x y h) fun ν' H' _ z => ∀ w, Rep X.K ν' H' z w → Q w H') : ∃ a z, v = .ref a ∧ DGet H a u (some z) ∧ Q z H := by
  obtain ⟨n, a, rfl, rfl, en, c⟩ := mDct_post A r ry P
  rcases c with ⟨kvs, kws, k, hn, ha, rk, rfl, rfl, P1⟩ | ⟨kvs, kws, k, b, hn, ha, rk, rfl, rfl, hb, P1⟩
  · have g := rk.get (fun a b => keyE_kP) (k := k)
    cases hd : dGet kvs (kP k) with
    | none => simp only [hd] at P1; exact (show False from P1).elim
    | some z =>
      simp only [hd] at P1
      obtain ⟨w, hw, rw'⟩ := g.2 z hd
      exact ⟨a, w, rfl, by rw [← hw]; exact DGet.k ha, Post.ret P1 A _ rw'⟩
  · have g := rk.get (fun a b => keyE_kPs) (k := k)
    cases hd : dGet kvs (kPs k) with
    | none => simp only [hd] at P1; exact (show False from P1).elim
    | some z =>
      simp only [hd] at P1
      obtain ⟨w, hw, rw'⟩ := g.2 z hd
      exact ⟨a, w, rfl, by rw [← hw]; exact DGet.t ha hb, Post.ret P1 A _ rw'⟩
theorem px_dget (hu : X.A.units + 1 < cLine) (ho : PX X ca W o fo) (hi : PX X ca W i fi) (hs : NoSl i) : PX X ca W (.Subscript o i pos) (eOp pDGet fo fi) :=
  PE.imp (pe_dget hu ho hi hs) fun σ H Q ⟨ν, ρ, h, A, E, P⟩ => ⟨ν, ρ, h, A, E, (Post.bind P).mono fun ν1 H1 h1 px e1 A1 P1 v rv => ⟨ν1, ρ, h1, A1, E.ext e1, (Post.bind P1).mono fun ν2 H2 h2 py e2 A2 P2 w rw' => dget_post A2 (rv.ext e2) rw' P2⟩⟩
theorem in_post {x y : PV} {v u : V} {f : Bool → Bool} {Q : VK} (A : Ab X.K ca ν h H) (r : Rep X.K ν H x v) (ry : Rep X.K ν H y u) (P : Post X.K ca W σ ν H (mDct x y (fun _ _ kvs => M.ret (.bl (f (dGet kvs y).isSome))) h) fun ν' H' _ z => ∀ w, Rep X.K ν' H' z w → Q w H') : ∃ a o, v = .ref a ∧ DGet H a u o ∧ Q (.bl (f o.isSome)) H := by
  obtain ⟨n, a, rfl, rfl, en, c⟩ := mDct_post A r ry P
  rcases c with ⟨kvs, kws, k, hn, ha, rk, rfl, rfl, P1⟩ | ⟨kvs, kws, k, b, hn, ha, rk, rfl, rfl, hb, P1⟩
  · have g := rk.get (fun a b => keyE_kP) (k := k)
    refine ⟨a, _, rfl, DGet.k ha, ?_⟩
    cases hd : dGet kvs (kP k) with
    | none => simp only [hd] at P1; rw [g.1 hd]; exact Post.ret P1 A _ .bl
    | some z =>
      simp only [hd] at P1
      obtain ⟨w, hw, rw'⟩ := g.2 z hd
      rw [hw]; exact Post.ret P1 A _ .bl
  · have g := rk.get (fun a b => keyE_kPs) (k := k)
    refine ⟨a, _, rfl, DGet.t ha hb, ?_⟩
    cases hd : dGet kvs (kPs k) with
    | none => simp only [hd] at P1; rw [g.1 hd]; exact Post.ret P1 A _ .bl
    | some z =>
      simp only [hd] at P1
      obtain ⟨w, hw, rw'⟩ := g.2 z hd
      rw [hw]; exact Post.ret P1 A _ .bl
theorem om_din (hu : X.A.units + 1 < cLine) : OpM X ca W (compareOp .In) pDIn := by
  intro pins s σ H ν h x y xv yv v u Q I rv ru A rx ry P
  obtain ⟨a, o, rfl, g, q⟩ := in_post (f := fun b => b) A ry rx P
  cases ru
  exact d_in hu I g rv fun s1 I1 => ⟨.bl _, H, I1, rfl, q⟩
theorem om_dnin (hu : X.A.units + 1 < cLine) : OpM X ca W (compareOp .NotIn) pDNotIn := by
  intro pins s σ H ν h x y xv yv v u Q I rv ru A rx ry P
  obtain ⟨a, o, rfl, g, q⟩ := in_post (f := fun b => !b) A ry rx P
  cases ru
  exact d_notIn hu I g rv fun s1 I1 => ⟨.bl _, H, I1, rfl, q⟩
theorem stm_dct (hu : X.A.units + 1 < cLine) : StM X ca W stD := by
  intro pins s σ H ν h x y z xv yv zv v u w Q I rv ru rw' A rx ry rz P
  obtain ⟨n, a, rfl, rfl, en, c⟩ := mDct_post A rx ry P
  cases rv
  rcases c with ⟨kvs, kws, k, hn, ha, rk, rfl, rfl, P1⟩ | ⟨kvs, kws, k, b, hn, ha, rk, rfl, rfl, hb, P1⟩
  · obtain ⟨hl, P2⟩ := post_ifp P1
    obtain ⟨x2, A2⟩ := wr_dct A hn en (rk.put (fun a b => keyE_kP) (k := k) rz)
    exact d_setItem hu I (DPut.k ha (by rw [← rk.length]; exact lst_line hl)) ru rw' fun s1 I1 => ⟨_, I1, P2 ν _ x2 A2⟩
  · obtain ⟨hl, P2⟩ := post_ifp P1
    obtain ⟨x2, A2⟩ := wr_dtt A hn en (rk.put (fun a b => keyE_kPs) (k := k) rz)
    exact d_setItem hu I (DPut.t ha hb (by rw [← rk.length]; exact lst_line hl)) ru rw' fun s1 I1 => ⟨_, I1, P2 ν _ x2 A2⟩
/-- setdefault, keys tuples -/
theorem d_setdT {A : Around} {E : Value → Shared → Prop} {pins : List (Addr × Obj)} {s : Shared} {a b : Addr} {kvs : List (List Key × V)} {k : List Key} {d : V} {r : Value} {Q : Value → Shared → Prop} (hu : A.units + 1 < cLine) (I : Inv X pins σ H s) (e : H a = some (.dT kvs)) (eb : H b = some (.tup (k.map kV))) (rd : RelV d r) (hl : kvs.length < sizeLine)
    (h1 : ∀ v, valV kvs k = some v → ∀ (w' : Value) (s' : Shared), Inv X pins σ H s' → RelV v w' → Q w' s') (h2 : valV kvs k = none → ∀ (w' : Value) (s' : Shared), Inv X pins σ (upd H a (.dT (putK kvs k d))) s' → RelV d w' → Q w' s') :
    wpAny (model X.prog X.w) A (call (.builtin "dict.setdefault") [.ref a, .ref b, r]) Q E s := by
  obtain ⟨z, hd, xs, rel, dd⟩ := dt_of I.hok e
  have hz : xs.length ≤ sizeLine := by rw [← Paired.length rel]; exact z
  refine call_setdefault_heap (hsz := hz) (tupleKind_room_in1 hu) (key_of I.hok eb) hd dd (fun p hp => ?_) fun hn h' dd' hs => ?_
  · have q := rel.val k
    rw [hp] at q
    cases q0 : valV kvs k with
    | none => rw [q0] at q; exact (show False from q).elim
    | some v0 =>
      rw [q0] at q
      exact h1 v0 q0 _ _ (I.tok _) q
  · have q := rel.val k
    rw [hn] at q
    cases q0 : valV kvs k with
    | some v0 => rw [q0] at q; exact (show False from q).elim
    | none =>
      have hl2 : (putK kvs k d).length ≤ sizeLine := by
        have := length_putK kvs k d
        omega
      obtain ⟨q, es, ep, hq, g2, g3, g4, _, g5⟩ := dd'
      refine h2 q0 _ _ (d_write (t' := s.toks + _) I (by rw [e]; exact True.intro) hs ⟨q, hq⟩ ⟨hl2, hd, _, (rel.put k eb rd).keeps fun c ys ec => ?_, q, es, ep, hq, g2, g3, g4, g5⟩) rd
      rw [upd_ne (ne_of ec e (fun z => nomatch z))]
      exact ec
/-- a dict, whichever -/
def ckDct : PV → M Unit := fun x => match x with
  | .ref n => mAt n fun o => match o with
    | .dct _ => M.ret ()
    | .dtt _ => M.ret ()
    | _ => M.bad
  | _ => M.bad
theorem ckDct_ok {x : PV} {v : V} {Φ : Nu → Hp → MH → Unit → Prop} (A : Ab X.K ca ν h H) (r : Rep X.K ν H x v) (P : Post X.K ca W σ ν H (ckDct x h) Φ) : ∃ a, v = .ref a ∧ IsD H a ∧ Φ ν H h () := by
  cases r with
  | @ref n a l e =>
    obtain ⟨o, ho, P⟩ := mAt_post (show Post X.K ca W σ ν H (mAt n (fun o => match o with
      | .dct _ => M.ret ()
      | .dtt _ => M.ret ()
      | _ => M.bad) h) Φ from P)
    have q := A.at_ _ o ho
    rw [e] at q
    cases o with
    | dct kvs =>
      obtain ⟨a', kws, e1, e2, rl⟩ := q
      cases e1
      exact ⟨_, rfl, .inl ⟨_, .inl e2⟩, Post.ret P A⟩
    | dtt kvs =>
      obtain ⟨a', kws, e1, e2, rl⟩ := q
      cases e1
      exact ⟨_, rfl, .inr ⟨_, .inl e2⟩, Post.ret P A⟩
    | _ => exact P.elim
  | _ => exact P.elim
/-- a method of a dict -/
theorem px_dm {nm : Str} {id : String} {g : FF} (slot : Slot "dict" nm id) (hty : typeOf (.builtin id) = pure (.type "method_descriptor"))
    (hc : CaM X ca W (.builtin id) g) (ho : PX X ca W o fo) (ha : PXA X ca W (e :: es) ra) (hbase : attributeBase o nm X.env (eval o X.env) = eval o X.env := by rfl)
    (hfew : ((backTo cpos (starEach (e :: es) X.env)).all (fun x => !x.1) && (backToKw cpos (keywordEach [] X.env)).all (fun x => x.1.isSome)
      && decide ((e :: es).length + ([] : List Keyword).length + (if ([] : List Keyword).isEmpty then 0 else 1) < 30)) = true := by rfl)
    (hline : (apos.endLine == cpos.line) = true := by rfl) (hs : starEach (e :: es) X.env = (false, eval e X.env) :: starEach es X.env := by rfl) (hplain : (backTo cpos (starEach es X.env)).any (·.1) = false := by rfl) :
    PX X ca W (.Call (.Attribute o nm apos) (e :: es) [] cpos) (eBm ckDct g fo ra) := by
  refine ⟨fun pins s σ H Q I ⟨ν, ρ, h, A, E, P⟩ => ?_⟩
  refine wpAny_Call_method_late hbase hfew hline rfl (thn (ho.run pins s σ H _ I ⟨ν, ρ, h, A, E, (Post.bind P).mono fun ν1 H1 h1 px e1 A1 P1 v rv => (⟨ν1, h1, px, A1, E.ext e1, rv, P1⟩ : ∃ ν1 h1 px, Ab X.K ca ν1 h1 H1 ∧ EnvR X.K ν1 H1 ρ σ ∧ Rep X.K ν1 H1 px v ∧ Post X.K ca W σ ν1 H1 (((ckDct px).bind fun _ => (ra ρ).bind fun xs => g (px :: xs)) h1) fun ν' H' _ x => ∀ v, Rep X.K ν' H' x v → Q v H')⟩) fun v s1 ⟨x, H1, I1, r1, ν1, h1, px, A1, E1, rp, P1⟩ => ?_)
  obtain ⟨a, rfl, ty, P2⟩ := ckDct_ok A1 rp (Post.bind P1)
  cases r1
  obtain ⟨t1, t2, _⟩ := isD_at I1 ty
  refine ⟨"dict", id, PySem.F.plainAttrs_dict, slot, hty, t1, t2, ?_⟩
  have hA := ha.run cpos pins s1 σ H1 _ I1 ⟨ν1, ρ, h1, A1, E1, (Post.bind P2).mono fun ν2 H2 h2 xs e2 A2 P4 ws rws => (⟨ν2, h2, xs, A2, rp.ext e2, rws, P4⟩ : ∃ ν2 h2 xs, Ab X.K ca ν2 h2 H2 ∧ Rep X.K ν2 H2 px (.ref a) ∧ RepL X.K ν2 H2 xs ws ∧ Post X.K ca W σ ν2 H2 (g (px :: xs) h2) fun ν' H' _ x => ∀ v, Rep X.K ν' H' x v → Q v H')⟩
  rw [hs] at hA ⊢
  refine Calls.callWith_builtin (by show (false || (backTo cpos (starEach es X.env)).any (·.1)) = false; rw [hplain] <;> rfl) (Calls.evalArgs_plain ?_)
  exact thn hA fun us s2 ⟨vs, H2, I2, r2, ν2, h2, xs, A2, rp2, rxs, P4⟩ => hc pins s2 σ H2 ν2 h2 (px :: xs) (.ref a :: vs) (.ref a :: us) Q I2 (.cons rfl r2) A2 (.cons rp2 rxs) P4
theorem ca_setd (hu : X.A.units + 1 < cLine) : CaM X ca W (.builtin "dict.setdefault") pDSetd := by
  intro pins s σ H ν h xs vs us Q I rv A rx P
  cases rx with
  | nil => exact P.elim
  | cons r1 rx =>
    cases rx with
    | nil => exact (show False from P).elim
    | cons r2 rx =>
      cases rx with
      | nil => exact (show False from P).elim
      | cons r3 rx =>
        cases rx with
        | cons _ _ => exact (show False from P).elim
        | nil =>
          cases rv with
          | cons q1 rv =>
            cases rv with
            | cons q2 rv =>
              cases rv with
              | cons q3 rv =>
                cases rv
                obtain ⟨n, a, rfl, rfl, en, c⟩ := mDct_post (kk := setdK _ _) A r1 r2 P
                cases q1
                rcases c with ⟨kvs, kws, k, hn, ha, rk, rfl, rfl, P1⟩ | ⟨kvs, kws, k, b, hn, ha, rk, rfl, rfl, hb, P1⟩
                · have g := rk.get (fun a b => keyE_kP) (k := k)
                  obtain ⟨hl, P1⟩ := post_ifp (show Post X.K ca W σ ν H ((if kvs.length < 10000000 then (match dGet kvs (kP k) with
                    | some v => M.ret v
                    | none => (mPut n (mkD false (dPut kvs (kP k) _))).bind fun _ => M.ret _) else M.bad : M PV) h) _ from P1)
                  have hl0 : kws.length < sizeLine := by rw [← rk.length]; exact lst_line hl
                  cases hd : dGet kvs (kP k) with
                  | some z =>
                    simp only [hd] at P1
                    obtain ⟨w, hw, rw'⟩ := g.2 z hd
                    refine d_setd I ha q2 q3 hl0 (fun v hv w' s' I' rw2 => ?_) fun hn' => ?_
                    · rw [hw] at hv; cases hv
                      exact ⟨w, H, I', rw2, Post.ret P1 A _ rw'⟩
                    · rw [hw] at hn'; cases hn'
                  | none =>
                    simp only [hd] at P1
                    obtain ⟨x2, A2⟩ := wr_dct A hn en (rk.put (fun a b => keyE_kP) (k := k) r3)
                    refine d_setd I ha q2 q3 hl0 (fun v hv => ?_) fun _ w' s' I' rw2 => ?_
                    · rw [g.1 hd] at hv; cases hv
                    · exact ⟨_, _, I', rw2, Post.ret ((Post.bind P1) ν _ x2 A2) A2 _ (r3.ext x2)⟩
                · cases q2
                  have g := rk.get (fun a b => keyE_kPs) (k := k)
                  obtain ⟨hl, P1⟩ := post_ifp (show Post X.K ca W σ ν H ((if kvs.length < 10000000 then (match dGet kvs (kPs k) with
                    | some v => M.ret v
                    | none => (mPut n (mkD true (dPut kvs (kPs k) _))).bind fun _ => M.ret _) else M.bad : M PV) h) _ from P1)
                  have hl0 : kws.length < sizeLine := by rw [← rk.length]; exact lst_line hl
                  cases hd : dGet kvs (kPs k) with
                  | some z =>
                    simp only [hd] at P1
                    obtain ⟨w, hw, rw'⟩ := g.2 z hd
                    refine d_setdT hu I ha hb q3 hl0 (fun v hv w' s' I' rw2 => ?_) fun hn' => ?_
                    · rw [hw] at hv; cases hv
                      exact ⟨w, H, I', rw2, Post.ret P1 A _ rw'⟩
                    · rw [hw] at hn'; cases hn'
                  | none =>
                    simp only [hd] at P1
                    obtain ⟨x2, A2⟩ := wr_dtt A hn en (rk.put (fun a b => keyE_kPs) (k := k) r3)
                    refine d_setdT hu I ha hb q3 hl0 (fun v hv => ?_) fun _ w' s' I' rw2 => ?_
                    · rw [g.1 hd] at hv; cases hv
                    · exact ⟨_, _, I', rw2, Post.ret ((Post.bind P1) ν _ x2 A2) A2 _ (r3.ext x2)⟩
end
end FX

set_option Elab.async false
set_option linter.all false
set_option maxRecDepth 100000
set_option maxHeartbeats 2000000
namespace FZ
open PySem RZ
open PySem.Sem (wp)
section
variable {prog : Program} {w : World} {A : Around} {E : Value → Shared → Prop} {s : Shared}
theorem zipT_next_item_held {z TI TO T i1 i2 l1 l2 : Addr} {f : Bool} {oT : Obj} {k1 k2 : Nat} {xs ys : Array Value} {x y : Value} {Q : Value → Shared → Prop} (D : ZipApart z TI TO i1 i2 l1 l2)
    (hz : IsZipHeld s.heap z TI TO T f) (hT : s.heap.get? T = some oT) (hTI : IsPair s.heap TI (.ref i1) (.ref i2))
    (h1 : s.heap.IsTupleIter i1 l1 k1) (h2 : s.heap.IsTupleIter i2 l2 k2) (hl1 : s.heap.IsTuple l1 xs) (hl2 : s.heap.IsTuple l2 ys) (hx : xs[k1]? = some x) (hy : ys[k2]? = some y)
    (hQ : ∀ h', IsZipHeld h' z TI TO T true → h'.IsTupleIter i1 l1 (k1 + 1) → h'.IsTupleIter i2 l2 (k2 + 1) → IsPair h' s.heap.objs.size x y → h'.objs.size = s.heap.objs.size + 1 →
      (∀ c o, c ≠ z → c ≠ i1 → c ≠ i2 → s.heap.get? c = some o → h'.get? c = some o) → Q (.ref s.heap.objs.size) { s with heap := h' }) :
    wpAny (model prog w) A (Builtin.«zip.__next__» ⟨[.ref z], []⟩) (fun fin s' => ∃ v, fin = .done (.ret v) ∧ Q v s') E s := by
  show wpAny _ _ (field (.ref z) 2 >>= _) _ _ _
  refine wpAny_bind (wpAny_field hz rfl (x := .bool false) rfl ?_)
  show wpAny _ _ (field (.ref z) 3 >>= _) _ _ _
  refine wpAny_bind (wpAny_field hz rfl (x := .ref TI) rfl ?_)
  refine wpAny_bind (wpAny_seqItems hTI rfl ?_)
  show wpAny _ _ (Builtin.SmallTypes.ownedTupleIsFree (.ref z) >>= _) _ _ _
  refine wpAny_bind (wpAny_tupleHeld_zip hz hT fun h₁ hz₁ hs₁ => ?_)
  simp only [Bool.false_eq_true, if_false]
  refine wpAny_bind ?_
  rw [← Array.forIn_toList]
  simp only [List.forIn_cons, List.forIn_nil]
  refine wpAny_bind (wpAny_bind (wpAny_holding ?_))
  show wpAny _ _ (Builtin.SmallTypes.nextOf (.ref i1) >>= _) _ _ _
  refine wpAny_bind (nextOf_tuple_item (s := { s with heap := h₁ }) (h1.extBut hs₁.extBut D.i1z) (hl1.extBut hs₁.extBut D.l1z) hx fun h₂ h1₂ hs₂ => wpAny_pure ?_)
  refine wpAny_pure ?_
  refine wpAny_bind (wpAny_bind (wpAny_holding ?_))
  show wpAny _ _ (Builtin.SmallTypes.nextOf (.ref i2) >>= _) _ _ _
  refine wpAny_bind (nextOf_tuple_item (s := { s with heap := h₂ }) ((h2.extBut hs₁.extBut D.i2z).extBut hs₂.extBut D.i12.symm) ((hl2.extBut hs₁.extBut D.l2z).extBut hs₂.extBut D.l2i1) hy fun h₃ h2₃ hs₃ => wpAny_pure ?_)
  refine wpAny_pure (wpAny_pure ?_)
  show wpAny _ _ (newTuple [x, y] >>= _) _ _ _
  refine wpAny_bind (wpAny_newTuple ?_)
  have hsz : h₃.objs.size = s.heap.objs.size := by rw [hs₃.1, hs₂.1, hs₁.1]
  have hz₃ : IsZipHeld h₃ z TI TO T true := hs₃.extBut _ _ D.i2z.symm (hs₂.extBut _ _ D.i1z.symm hz₁)
  have hk : ∀ c o, c ≠ z → c ≠ i1 → c ≠ i2 → s.heap.get? c = some o → h₃.get? c = some o := fun c o c1 c2 c3 e => hs₃.extBut _ _ c3 (hs₂.extBut _ _ c2 (hs₁.extBut _ _ c1 e))
  have h1₃ : h₃.IsTupleIter i1 l1 (k1 + 1) := h1₂.extBut hs₃.extBut D.i12
  refine wpAny_pure ⟨_, rfl, ?_⟩
  show Q (.ref h₃.objs.size) _
  have hp : IsPair (h₃.push { cls := .type "tuple", data := .seq #[x, y] }) h₃.objs.size x y := Heap.get?_push_size _ rfl
  have hz4 : (h₃.push { cls := .type "tuple", data := .seq #[x, y] }).objs.size = h₃.objs.size + 1 := Heap.size_push ..
  rw [hsz] at hp hz4 ⊢
  exact hQ _ (Heap.get?_push_of_some _ hz₃) (h1₃.at fun o e => Heap.get?_push_of_some _ e) (h2₃.at fun o e => Heap.get?_push_of_some _ e) hp hz4 fun c o c1 c2 c3 e => Heap.get?_push_of_some _ (hk c o c1 c2 c3 e)
theorem zipT_next_end_held {z TI TO T i1 i2 l1 l2 : Addr} {f : Bool} {oT : Obj} {k1 k2 : Nat} {xs ys : Array Value} {Q : Fin → Shared → Prop} (hh : A.handled = none) (D : ZipApart z TI TO i1 i2 l1 l2)
    (hz : IsZipHeld s.heap z TI TO T f) (hT : s.heap.get? T = some oT) (hTI : IsPair s.heap TI (.ref i1) (.ref i2))
    (h1 : s.heap.IsTupleIter i1 l1 k1) (h2 : s.heap.IsTupleIter i2 l2 k2) (hl1 : s.heap.IsTuple l1 xs) (hl2 : s.heap.IsTuple l2 ys) (hend : xs[k1]? = none ∨ ys[k2]? = none)
    (hE : ∀ h' e, (∀ c o, c ≠ z → c ≠ i1 → c ≠ i2 → s.heap.get? c = some o → h'.get? c = some o) → (∃ o, h'.get? e = some o ∧ o.cls = .type "StopIteration") → E (.ref e) { s with heap := h' }) :
    wpAny (model prog w) A (Builtin.«zip.__next__» ⟨[.ref z], []⟩) Q E s := by
  show wpAny _ _ (field (.ref z) 2 >>= _) _ _ _
  refine wpAny_bind (wpAny_field hz rfl (x := .bool false) rfl ?_)
  show wpAny _ _ (field (.ref z) 3 >>= _) _ _ _
  refine wpAny_bind (wpAny_field hz rfl (x := .ref TI) rfl ?_)
  refine wpAny_bind (wpAny_seqItems hTI rfl ?_)
  show wpAny _ _ (Builtin.SmallTypes.ownedTupleIsFree (.ref z) >>= _) _ _ _
  refine wpAny_bind (wpAny_tupleHeld_zip hz hT fun h₁ hz₁ hs₁ => ?_)
  simp only [Bool.false_eq_true, if_false]
  refine wpAny_bind ?_
  rw [← Array.forIn_toList]
  simp only [List.forIn_cons, List.forIn_nil]
  refine wpAny_bind (wpAny_bind (wpAny_holding ?_))
  show wpAny _ _ (Builtin.SmallTypes.nextOf (.ref i1) >>= _) _ _ _
  cases hx : xs[k1]? with
  | none =>
    refine wpAny_bind (nextOf_tuple_end (s := { s with heap := h₁ }) hh (h1.extBut hs₁.extBut D.i1z) (hl1.extBut hs₁.extBut D.l1z) hx fun h₂ e hs₂ he => ?_)
    exact hE h₂ e (fun c o c1 c2 _ x => hs₂ _ _ c2 (hs₁.extBut _ _ c1 x)) he
  | some x =>
    have hy : ys[k2]? = none := by rcases hend with h | h; rw [hx] at h; cases h; exact h
    refine wpAny_bind (nextOf_tuple_item (s := { s with heap := h₁ }) (h1.extBut hs₁.extBut D.i1z) (hl1.extBut hs₁.extBut D.l1z) hx fun h₂ h1₂ hs₂ => wpAny_pure ?_)
    refine wpAny_pure ?_
    refine wpAny_bind (wpAny_bind (wpAny_holding ?_))
    show wpAny _ _ (Builtin.SmallTypes.nextOf (.ref i2) >>= _) _ _ _
    refine wpAny_bind (nextOf_tuple_end (s := { s with heap := h₂ }) hh ((h2.extBut hs₁.extBut D.i2z).extBut hs₂.extBut D.i12.symm) ((hl2.extBut hs₁.extBut D.l2z).extBut hs₂.extBut D.l2i1) hy fun h₃ e hs₃ he => ?_)
    exact hE h₃ e (fun c o c1 c2 c3 x => hs₃ _ _ c3 (hs₂.extBut _ _ c2 (hs₁.extBut _ _ c1 x))) he
theorem pyNext_zipT_item_held {z TI TO T i1 i2 l1 l2 : Addr} {f : Bool} {oT : Obj} {k1 k2 : Nat} {xs ys : Array Value} {x y : Value} {Q : Option Value → Shared → Prop} (D : ZipApart z TI TO i1 i2 l1 l2)
    (hz : IsZipHeld s.heap z TI TO T f) (hT : s.heap.get? T = some oT) (hTI : IsPair s.heap TI (.ref i1) (.ref i2))
    (h1 : s.heap.IsTupleIter i1 l1 k1) (h2 : s.heap.IsTupleIter i2 l2 k2) (hl1 : s.heap.IsTuple l1 xs) (hl2 : s.heap.IsTuple l2 ys) (hx : xs[k1]? = some x) (hy : ys[k2]? = some y)
    (hQ : ∀ h', IsZipHeld h' z TI TO T true → h'.IsTupleIter i1 l1 (k1 + 1) → h'.IsTupleIter i2 l2 (k2 + 1) → IsPair h' s.heap.objs.size x y → h'.objs.size = s.heap.objs.size + 1 →
      (∀ c o, c ≠ z → c ≠ i1 → c ≠ i2 → s.heap.get? c = some o → h'.get? c = some o) → Q (some (.ref s.heap.objs.size)) { s with heap := h' }) :
    wpAny (model prog w) A (pyNext (.ref z)) Q E s := by
  have hTy : s.TypeIs (.ref z) "zip" := ⟨_, hz, rfl⟩
  unfold pyNext
  exact wpAny_bind (wpAny_attempt (wpAny_callSpecial?_slot (name := Str.ofString "__next__") hTy F.slot_zip_next
    (wpAny_call_entry F.slot_zip_next hTy F.entry_zip_next
      (zipT_next_item_held D hz hT hTI h1 h2 hl1 hl2 hx hy fun h' a1 a3 a4 a5 a6 a7 => wpAny_pure (hQ h' a1 a3 a4 a5 a6 a7)) (F.args_zip_next_1 _))))
theorem pyNext_zipT_end_held {z TI TO T i1 i2 l1 l2 : Addr} {f : Bool} {oT : Obj} {k1 k2 : Nat} {xs ys : Array Value} {Q : Option Value → Shared → Prop} (hh : A.handled = none) (D : ZipApart z TI TO i1 i2 l1 l2)
    (hz : IsZipHeld s.heap z TI TO T f) (hT : s.heap.get? T = some oT) (hTI : IsPair s.heap TI (.ref i1) (.ref i2))
    (h1 : s.heap.IsTupleIter i1 l1 k1) (h2 : s.heap.IsTupleIter i2 l2 k2) (hl1 : s.heap.IsTuple l1 xs) (hl2 : s.heap.IsTuple l2 ys) (hend : xs[k1]? = none ∨ ys[k2]? = none)
    (hQ : ∀ h', (∀ c o, c ≠ z → c ≠ i1 → c ≠ i2 → s.heap.get? c = some o → h'.get? c = some o) → Q none { s with heap := h' }) : wpAny (model prog w) A (pyNext (.ref z)) Q E s := by
  have hTy : s.TypeIs (.ref z) "zip" := ⟨_, hz, rfl⟩
  unfold pyNext
  refine wpAny_bind (wpAny_attempt (wpAny_callSpecial?_slot (name := Str.ofString "__next__") hTy F.slot_zip_next
    (wpAny_call_entry F.slot_zip_next hTy F.entry_zip_next (zipT_next_end_held hh D hz hT hTI h1 h2 hl1 hl2 hend fun h' e hk he => ?_) (F.args_zip_next_1 _))))
  obtain ⟨o, ho, hc⟩ := he
  refine wpAny_bind (wpAny_isInstance (T := "StopIteration") (b := true) ⟨o, ho, hc⟩ isSubtype_stop ?_)
  exact wpAny_pure (hQ _ hk)
/-- the zip at its i-th turn; S apart -/
def ZSt (z TI TO i1 i2 l1 l2 S : Addr) (xs ys : Array Value) (i : Nat) (h : Heap) : Prop := IsPair h TI (.ref i1) (.ref i2) ∧ h.IsTupleIter i1 l1 i ∧ h.IsTupleIter i2 l2 i ∧ h.IsTuple l1 xs ∧ h.IsTuple l2 ys ∧
  ((IsZip h z TI TO .none ∧ ∃ a b, IsPair h TO a b) ∨ ∃ T f oT, IsZipHeld h z TI TO T f ∧ h.get? T = some oT ∧ T ≠ z ∧ T ≠ i1 ∧ T ≠ i2 ∧ T ≠ S)
structure SApart (z TI TO i1 i2 l1 l2 S : Addr) : Prop where
  z : z ≠ S
  TI : TI ≠ S
  TO : TO ≠ S
  i1 : i1 ≠ S
  i2 : i2 ≠ S
  l1 : l1 ≠ S
  l2 : l2 ≠ S
theorem ZSt.keep {z TI TO i1 i2 l1 l2 S : Addr} {xs ys : Array Value} {i : Nat} {h h' : Heap} (N : SApart z TI TO i1 i2 l1 l2 S) (st : ZSt z TI TO i1 i2 l1 l2 S xs ys i h) (hk : ∀ b o, b ≠ S → h.get? b = some o → h'.get? b = some o) : ZSt z TI TO i1 i2 l1 l2 S xs ys i h' := by
  obtain ⟨hTI, h1, h2, hl1, hl2, hz⟩ := st
  refine ⟨hk _ _ N.TI hTI, h1.at fun o e => hk _ o N.i1 e, h2.at fun o e => hk _ o N.i2 e, hl1.at fun o e => hk _ o N.l1 e, hl2.at fun o e => hk _ o N.l2 e, ?_⟩
  rcases hz with ⟨hz, a, b, hTO⟩ | ⟨T, f, oT, hz, hT, r1, r2, r3, r4⟩
  · exact .inl ⟨hk _ _ N.z hz, a, b, hk _ _ N.TO hTO⟩
  · exact .inr ⟨T, f, oT, hk _ _ N.z hz, hk _ _ r4 hT, r1, r2, r3, r4⟩
theorem zst_item {z TI TO i1 i2 l1 l2 S : Addr} {xs ys : Array Value} {i : Nat} {x y : Value} {Q : Option Value → Shared → Prop} (D : ZipApart z TI TO i1 i2 l1 l2) (N : SApart z TI TO i1 i2 l1 l2 S) (hS : S < s.heap.objs.size) (st : ZSt z TI TO i1 i2 l1 l2 S xs ys i s.heap) (hx : xs[i]? = some x) (hy : ys[i]? = some y)
    (hQ : ∀ h', ZSt z TI TO i1 i2 l1 l2 S xs ys (i + 1) h' → IsPair h' s.heap.objs.size x y → h'.objs.size = s.heap.objs.size + 1 → (∀ c o, c ≠ z → c ≠ TO → c ≠ i1 → c ≠ i2 → s.heap.get? c = some o → h'.get? c = some o) → Q (some (.ref s.heap.objs.size)) { s with heap := h' }) :
    wpAny (model prog w) A (pyNext (.ref z)) Q E s := by
  obtain ⟨hTI, h1, h2, hl1, hl2, hz⟩ := st
  have lt : ∀ {c o}, s.heap.get? c = some o → s.heap.objs.size ≠ c := fun e => Nat.ne_of_gt (Heap.lt_size e)
  have n1 : s.heap.objs.size ≠ i1 := let ⟨_, e, _⟩ := h1; lt e
  have n2 : s.heap.objs.size ≠ i2 := let ⟨_, e, _⟩ := h2; lt e
  rcases hz with ⟨hz, a, b, hTO⟩ | ⟨T, f, oT, hz, hT, r1, r2, r3, r4⟩
  · refine pyNext_zipT_item D hz hTI hTO h1 h2 hl1 hl2 hx hy fun h' a1 a2 a3 a4 a5 a6 hk => ?_
    exact hQ h' ⟨hk _ _ D.TIz D.TITO D.TIi1 D.TIi2 hTI, a3, a4, hl1.at fun o e => hk _ o D.l1z D.l1TO D.l1i1 D.l1i2 e, hl2.at fun o e => hk _ o D.l2z D.l2TO D.l2i1 D.l2i2 e,
      .inr ⟨s.heap.objs.size, false, _, a1, a5, lt hz, n1, n2, Nat.ne_of_gt hS⟩⟩ a5 a6 hk
  · refine pyNext_zipT_item_held D hz hT hTI h1 h2 hl1 hl2 hx hy fun h' a1 a3 a4 a5 a6 hk => ?_
    exact hQ h' ⟨hk _ _ D.TIz D.TIi1 D.TIi2 hTI, a3, a4, hl1.at fun o e => hk _ o D.l1z D.l1i1 D.l1i2 e, hl2.at fun o e => hk _ o D.l2z D.l2i1 D.l2i2 e,
      .inr ⟨T, true, oT, a1, hk _ _ r1 r2 r3 hT, r1, r2, r3, r4⟩⟩ a5 a6 fun c o c1 _ c3 c4 e => hk c o c1 c3 c4 e
theorem zst_done {z TI TO i1 i2 l1 l2 S : Addr} {xs ys : Array Value} {i : Nat} {Q : Option Value → Shared → Prop} (hh : A.handled = none) (D : ZipApart z TI TO i1 i2 l1 l2) (st : ZSt z TI TO i1 i2 l1 l2 S xs ys i s.heap) (hend : xs[i]? = none ∨ ys[i]? = none)
    (hQ : ∀ h', (∀ c o, c ≠ z → c ≠ TO → c ≠ i1 → c ≠ i2 → s.heap.get? c = some o → h'.get? c = some o) → Q none { s with heap := h' }) : wpAny (model prog w) A (pyNext (.ref z)) Q E s := by
  obtain ⟨hTI, h1, h2, hl1, hl2, hz⟩ := st
  rcases hz with ⟨hz, a, b, hTO⟩ | ⟨T, f, oT, hz, hT, r1, r2, r3, r4⟩
  · exact pyNext_zipT_end hh D hz hTI hTO h1 h2 hl1 hl2 hend hQ
  · exact pyNext_zipT_end_held hh D hz hT hTI h1 h2 hl1 hl2 hend fun h' hk => hQ h' fun c o c1 _ c3 c4 e => hk c o c1 c3 c4 e
end
/-- the tuples that were made -/
def MadeZ (xs ys : Array Value) (lo : Nat) (h : Heap) (as : List Addr) : Prop := as.Pairwise (· < ·) ∧ ∀ (j : Nat) (a : Addr), as[j]? = some a → lo ≤ a ∧ ∃ x y, xs[j]? = some x ∧ ys[j]? = some y ∧ IsPair h a x y
section
variable {prog : Program} {w : World} {A : Around} {E : Value → Shared → Prop} {s : Shared} {R : Result → Shared → Prop}
theorem loopZ {z TI TO i1 i2 l1 l2 S lo : Addr} {xs ys : Array Value} (hh : A.handled = none) (D : ZipApart z TI TO i1 i2 l1 l2) (N : SApart z TI TO i1 i2 l1 l2 S) (hlo : z < lo ∧ TO < lo ∧ i1 < lo ∧ i2 < lo ∧ S < lo) (hn : xs.size ≤ sizeLine) (hsz : xs.size = ys.size) (res : Value) {h₁ : Heap}
    (hR : ∀ h' acc c as, (∀ b o, b ≠ S → b ≠ z → b ≠ TO → b ≠ i1 → b ≠ i2 → h₁.get? b = some o → h'.get? b = some o) → h'.get? S = some { cls := .type "list", dict := none, data := .seq acc c, slots := #[] } → as.length = xs.size → MadeZ xs ys lo h' as →
      acc.toList = as.map Value.ref → R (.ok (.ret res)) { s with heap := h' }) :
    ∀ (k i : Nat) (h : Heap) (c : Nat) (acc : Array Value) (as : List Addr), xs.size - i = k → i ≤ xs.size → ZSt z TI TO i1 i2 l1 l2 S xs ys i h → (∀ b o, b ≠ S → b ≠ z → b ≠ TO → b ≠ i1 → b ≠ i2 → h₁.get? b = some o → h.get? b = some o) →
      h.get? S = some { cls := .type "list", dict := none, data := .seq acc c, slots := #[] } → acc.toList = as.map Value.ref → as.length = i → MadeZ xs ys lo h as → lo ≤ h.objs.size →
      codeAny (model prog w) A (.builtin "list.extend.loop" ⟨[.ref S, .ref z, res], []⟩) R { s with heap := h } := by
  intro k
  induction k with
  | zero =>
    intro i h c acc as hk hi hst hkeep hS hacc hal hG hIs
    refine codeAny_builtin PySem.F.entry_extend_loop ?_
    rw [Around.under_plainId PySem.F.plain_extend_loop _]
    show wpAny _ A.in1 (pyNext (.ref z) >>= _) _ _ _
    refine wpAny_bind (zst_done (s := { s with heap := h }) (A := A.in1) hh D hst (.inl (Array.getElem?_eq_none (by omega))) fun h' hk' => ?_)
    refine wpAny_pure (hR h' acc c as (fun b o h1 h2 h3 h4 h5 e => hk' b o h2 h3 h4 h5 (hkeep b o h1 h2 h3 h4 h5 e)) (hk' S _ (Ne.symm N.z) (Ne.symm N.TO) (Ne.symm N.i1) (Ne.symm N.i2) hS) (by omega) ⟨hG.1, fun j a hj => ?_⟩ hacc)
    obtain ⟨hl, x, y, hx, hy, hp⟩ := hG.2 j a hj
    exact ⟨hl, x, y, hx, hy, hk' a _ (Nat.ne_of_gt (Nat.lt_of_lt_of_le hlo.1 hl)) (Nat.ne_of_gt (Nat.lt_of_lt_of_le hlo.2.1 hl)) (Nat.ne_of_gt (Nat.lt_of_lt_of_le hlo.2.2.1 hl)) (Nat.ne_of_gt (Nat.lt_of_lt_of_le hlo.2.2.2.1 hl)) hp⟩
  | succ k ih =>
    intro i h c acc as hk hi hst hkeep hS hacc hal hG hIs
    have hlt : i < xs.size := by omega
    have hlt2 : i < ys.size := by omega
    have hasz : acc.size = i := by rw [← Array.length_toList, hacc, List.length_map, hal]
    have ex := Array.getElem?_eq_getElem hlt
    have ey := Array.getElem?_eq_getElem hlt2
    have hSl : S < h.objs.size := Heap.lt_size hS
    refine codeAny_builtin PySem.F.entry_extend_loop ?_
    rw [Around.under_plainId PySem.F.plain_extend_loop _]
    show wpAny _ A.in1 (pyNext (.ref z) >>= _) _ _ _
    refine wpAny_bind (zst_item (s := { s with heap := h }) (A := A.in1) D N hSl hst ex ey fun h' hst' ht hz hkp => ?_)
    dsimp only at ht hz hkp ⊢
    have hS' := hkp S _ (Ne.symm N.z) (Ne.symm N.TO) (Ne.symm N.i1) (Ne.symm N.i2) hS
    have up : ∀ b o, b ≠ S → h'.get? b = some o → (h'.update S (Obj.mapSeq (·.push (Value.ref h.objs.size)))).get? b = some o := fun b o hb e => (Heap.get?_update_other _ _ (Ne.symm hb)).trans e
    show wpAny _ A.in1 (updateSeq S (·.push (Value.ref h.objs.size)) >>= _) _ _ _
    refine wpAny_bind ?_
    refine wpAny_updateSeq hS' rfl (wpAny_pure ⟨plainId_quiet PySem.F.plain_extend_loop _, ih (i + 1) _ _ (acc.push (Value.ref h.objs.size)) (as ++ [h.objs.size]) (by omega) hlt (hst'.keep N up)
      (fun b o h1 h2 h3 h4 h5 e => up b o h1 (hkp b o h2 h3 h4 h5 (hkeep b o h1 h2 h3 h4 h5 e))) (Heap.get?_update_self _ hS' rfl) (by rw [Array.toList_push, hacc, List.map_append]; rfl) (by rw [List.length_append, hal]; rfl) ?_ ?_⟩) (by rw [hasz]; omega) (by show (acc.push (Value.ref h.objs.size)).size ≤ sizeLine + 1; rw [Array.size_push, hasz]; omega)
    · refine ⟨List.pairwise_append.mpr ⟨hG.1, List.pairwise_singleton _ _, fun a ha b hb => ?_⟩, ?_⟩
      · rw [List.mem_singleton.mp hb]
        obtain ⟨j, hj⟩ := List.mem_iff_getElem?.mp ha
        obtain ⟨_, _, _, _, _, hp⟩ := hG.2 j a hj
        exact Heap.lt_size hp
      intro j b hj
      rcases Nat.lt_trichotomy j as.length with h1 | h1 | h1
      · rw [List.getElem?_append_left h1] at hj
        obtain ⟨hl, x, y, hx, hy, hp⟩ := hG.2 j b hj
        have hbS : b ≠ S := Nat.ne_of_gt (Nat.lt_of_lt_of_le hlo.2.2.2.2 hl)
        exact ⟨hl, x, y, hx, hy, up b _ hbS (hkp b _ (Nat.ne_of_gt (Nat.lt_of_lt_of_le hlo.1 hl)) (Nat.ne_of_gt (Nat.lt_of_lt_of_le hlo.2.1 hl)) (Nat.ne_of_gt (Nat.lt_of_lt_of_le hlo.2.2.1 hl)) (Nat.ne_of_gt (Nat.lt_of_lt_of_le hlo.2.2.2.1 hl)) hp)⟩
      · subst h1
        have hb : h.objs.size = b := by simpa using hj
        subst hb
        exact ⟨hIs, _, _, by rw [hal]; exact ex, by rw [hal]; exact ey, up _ _ (Nat.ne_of_gt hSl) ht⟩
      · have hnone : (as ++ [h.objs.size])[j]? = none := List.getElem?_eq_none (by rw [List.length_append, List.length_singleton]; omega)
        rw [hnone] at hj; cases hj
    · have e : (h'.update S (Obj.mapSeq (·.push (Value.ref h.objs.size)))).get? h.objs.size = _ := up _ _ (Nat.ne_of_gt hSl) ht
      exact Nat.le_of_lt (Nat.lt_of_le_of_lt hIs (Heap.lt_size e))
theorem zip_no_len : typeLookup (.type "zip") "__len__" = pure none := by rw [typeLookup_type, builtinLookup_eq_fast]; kernel_rfl
theorem zip_no_hint : typeLookup (.type "zip") "__length_hint__" = pure none := by rw [typeLookup_type, builtinLookup_eq_fast]; kernel_rfl
theorem extZ {z TI TO i1 i2 l1 l2 S lo : Addr} {xs ys : Array Value} (hh : A.handled = none) (D : ZipApart z TI TO i1 i2 l1 l2) (N : SApart z TI TO i1 i2 l1 l2 S) (hlo : z < lo ∧ TO < lo ∧ i1 < lo ∧ i2 < lo ∧ S < lo) (hn : xs.size ≤ sizeLine) (hsz : xs.size = ys.size) (res : Value) (c₀ : Nat)
    (hz : IsZip s.heap z TI TO .none) (hTI : IsPair s.heap TI (.ref i1) (.ref i2)) (hTO : ∃ a b, IsPair s.heap TO a b) (h1 : s.heap.IsTupleIter i1 l1 0) (h2 : s.heap.IsTupleIter i2 l2 0) (hl1 : s.heap.IsTuple l1 xs) (hl2 : s.heap.IsTuple l2 ys) (hs : lo ≤ s.heap.objs.size)
    (hS : s.heap.get? S = some { cls := .type "list", data := .seq #[] c₀ })
    (hR : ∀ h' acc c as, (∀ b o, b ≠ S → b ≠ z → b ≠ TO → b ≠ i1 → b ≠ i2 → s.heap.get? b = some o → h'.get? b = some o) → h'.get? S = some { cls := .type "list", dict := none, data := .seq acc c, slots := #[] } → as.length = xs.size → MadeZ xs ys lo h' as →
      acc.toList = as.map Value.ref → R (.ok (.ret res)) { s with heap := h' }) :
    wpAny (model prog w) A.in1 (Builtin.List.listExtendWith (.ref S) (.ref z) res)
      (fun fin s' => match fin with | .done f => R (.ok f) s' | .again c' => c'.quiet = true ∧ codeAny (model prog w) A c' R s') (fun e s' => R (.error e) s') s := by
  have hT : s.TypeIs (.ref z) "zip" := ⟨_, hz, rfl⟩
  unfold Builtin.List.listExtendWith
  refine wpAny_bind (wpAny_typeOf hT ?_)
  have g1 : Builtin.List.listSameRef (.ref S) (.ref z) = false := by simp [Builtin.List.listSameRef, Ne.symm N.z]
  have g2 : (Value.type "zip" == Value.type "list") = false := by decide
  have g3 : (Value.type "zip" == Value.type "tuple") = false := by decide
  simp only [g1, g2, g3, Bool.or_false, Bool.false_eq_true, if_false]
  refine wpAny_bind (wpAny_pyIter_zip hz ?_)
  refine wpAny_bind (wpAny_holding ?_)
  unfold Builtin.List.listLengthHint
  refine wpAny_bind (wpAny_specialOf hT zip_no_len ?_)
  show wpAny _ A.in1 (specialOf (Value.ref z) (Str.ofString "__length_hint__") >>= _) _ _ _
  refine wpAny_bind (wpAny_specialOf hT zip_no_hint ?_)
  refine wpAny_pure ?_
  have key : ∀ (h : Heap) (c₁ : Nat), (∀ b o, b ≠ S → s.heap.get? b = some o → h.get? b = some o) → h.get? S = some { cls := .type "list", data := .seq #[] c₁ } → lo ≤ h.objs.size → codeAny (model prog w) A (.builtin "list.extend.loop" ⟨[.ref S, .ref z, res], []⟩) R { s with heap := h } := by
    intro h c₁ hk hS₁ hl
    have st0 : ZSt z TI TO i1 i2 l1 l2 S xs ys 0 s.heap := by
      obtain ⟨a, b, hTO⟩ := hTO
      exact ⟨hTI, h1, h2, hl1, hl2, .inl ⟨hz, a, b, hTO⟩⟩
    exact loopZ (s := s) (h₁ := s.heap) hh D N hlo hn hsz res hR xs.size 0 h c₁ #[] [] (Nat.sub_zero _) (Nat.zero_le _) (st0.keep N hk) (fun b o hb _ _ _ _ e => hk b o hb e) hS₁ rfl rfl ⟨.nil, fun j a hj => by simp at hj⟩ hl
  refine wpAny_ite_split (fun _ => ?_) (fun _ => wpAny_pure ⟨plainId_quiet PySem.F.plain_extend_loop _, key _ c₀ (fun b o _ e => e) hS hs⟩)
  refine wpAny_bind (wpAny_rule ?_)
  refine wpAny_bind ?_
  show wpAny _ _ (updateSeq S (·.push .none) >>= fun _ => updateSeq S (·.pop)) _ _ _
  refine wpAny_bind (wpAny_updateSeq hS rfl ?_)
  have hS₂ := Heap.get?_update_self (Obj.mapSeq (·.push Value.none)) hS rfl
  refine wpAny_updateSeq (hz := by seq_fits) hS₂ rfl ?_
  have hS₃ := Heap.get?_update_self (Obj.mapSeq (·.pop)) hS₂ rfl
  refine wpAny_pure ⟨plainId_quiet PySem.F.plain_extend_loop _, key _ _ (fun b o hb e => ?_) hS₃ ?_⟩
  · exact (Heap.get?_update_other _ _ (Ne.symm hb)).trans ((Heap.get?_update_other _ _ (Ne.symm hb)).trans e)
  · rw [Heap.size_update, Heap.size_update]; exact hs
/-- list(z) of a fresh zip of two tuples -/
theorem call_list_zipT {z TI TO i1 i2 l1 l2 : Addr} {xs ys : Array Value} {Q : Value → Shared → Prop} (hh : A.handled = none) (D : ZipApart z TI TO i1 i2 l1 l2) (hn : xs.size ≤ sizeLine) (hsz : xs.size = ys.size)
    (hz : IsZip s.heap z TI TO .none) (hTI : IsPair s.heap TI (.ref i1) (.ref i2)) (hTO : ∃ a b, IsPair s.heap TO a b) (h1 : s.heap.IsTupleIter i1 l1 0) (h2 : s.heap.IsTupleIter i2 l2 0) (hl1 : s.heap.IsTuple l1 xs) (hl2 : s.heap.IsTuple l2 ys)
    (hQ : ∀ h' acc c as, (∀ b o, b ≠ z → b ≠ TO → b ≠ i1 → b ≠ i2 → s.heap.get? b = some o → h'.get? b = some o) → h'.get? s.heap.objs.size = some { cls := .type "list", dict := none, data := .seq acc c, slots := #[] } → as.length = xs.size → MadeZ xs ys (s.heap.objs.size + 1) h' as →
      acc.toList = as.map Value.ref → Q (.ref s.heap.objs.size) { s with heap := h' }) : wpAny (model prog w) A (call (.type "list") [.ref z]) Q E s := by
  have lt : ∀ {c o}, s.heap.get? c = some o → c ≠ s.heap.objs.size := fun e => Nat.ne_of_lt (Heap.lt_size e)
  have lt' : ∀ {c o}, s.heap.get? c = some o → c < s.heap.objs.size + 1 := fun e => Nat.lt_succ_of_lt (Heap.lt_size e)
  have N : SApart z TI TO i1 i2 l1 l2 s.heap.objs.size := by
    obtain ⟨a, b, hTO⟩ := hTO
    obtain ⟨_, e1, _⟩ := id h1
    obtain ⟨_, e2, _⟩ := id h2
    obtain ⟨_, e3, _⟩ := id hl1
    obtain ⟨_, e4, _⟩ := id hl2
    exact ⟨lt hz, lt hTI, lt hTO, lt e1, lt e2, lt e3, lt e4⟩
  have hlo : z < s.heap.objs.size + 1 ∧ TO < s.heap.objs.size + 1 ∧ i1 < s.heap.objs.size + 1 ∧ i2 < s.heap.objs.size + 1 ∧ s.heap.objs.size < s.heap.objs.size + 1 := by
    obtain ⟨a, b, hTO⟩ := hTO
    obtain ⟨_, e1, _⟩ := id h1
    obtain ⟨_, e2, _⟩ := id h2
    exact ⟨lt' hz, lt' hTO, lt' e1, lt' e2, Nat.lt_succ_self _⟩
  have pk : ∀ {b o}, s.heap.get? b = some o → (s.heap.push { cls := .type "list", data := .seq #[] }).get? b = some o := fun e => Heap.get?_push_of_some _ e
  refine callType_codes (Q₁ := fun obj s₁ => obj = .ref s.heap.objs.size ∧ s₁ = { s with heap := s.heap.push { cls := .type "list", data := .seq #[] } }) F.called_list (F.typeCall_list_1 _) F.entry_list_init
    (code_list_new _ ⟨rfl, rfl⟩) fun obj s₁ h₁ => ?_
  obtain ⟨rfl, rfl⟩ := h₁
  have hS : (s.heap.push { cls := .type "list", data := .seq #[] }).get? s.heap.objs.size = some { cls := .type "list", data := .seq #[] } := Heap.get?_push_size _ rfl
  refine ⟨⟨_, hS, rfl⟩, F.args_list_init_2 _ _, ?_⟩
  show wpAny _ A.in1.in1 (do let old ← Builtin.List.listItems (.ref s.heap.objs.size); Builtin.List.listUpdate (.ref s.heap.objs.size) (fun _ => #[]); letGo old.toList.reverse; Builtin.List.listExtendWith (.ref s.heap.objs.size) (.ref z) .none) _ _ _
  refine wpAny_bind ?_
  unfold Builtin.List.listItems
  refine wpAny_bind (wpAny_seqItems hS rfl (wpAny_pure ?_))
  show wpAny _ A.in1.in1 (updateSeq s.heap.objs.size (fun _ => #[]) >>= fun _ => letGo (#[] : Array Value).toList.reverse >>= fun _ => Builtin.List.listExtendWith (.ref s.heap.objs.size) (.ref z) .none) _ _ _
  refine wpAny_bind (wpAny_updateSeq hS rfl ?_)
  have hS₂ := Heap.get?_update_self (Obj.mapSeq (fun _ => (#[] : Array Value))) hS rfl
  have oth : ∀ b o, b ≠ s.heap.objs.size → s.heap.get? b = some o → ((s.heap.push { cls := .type "list", data := .seq #[] }).update s.heap.objs.size (Obj.mapSeq (fun _ => (#[] : Array Value)))).get? b = some o :=
    fun b o hb e => (Heap.get?_update_other _ _ (Ne.symm hb)).trans (pk e)
  refine wpAny_bind (wpAny_letGo ?_)
  refine extZ (A := A.in1) (lo := s.heap.objs.size + 1) hh D N hlo hn hsz .none _ (oth _ _ N.z hz) (oth _ _ N.TI hTI) (let ⟨a, b, h⟩ := hTO; ⟨a, b, oth _ _ N.TO h⟩) (h1.at fun o e => oth _ o N.i1 e) (h2.at fun o e => oth _ o N.i2 e) (hl1.at fun o e => oth _ o N.l1 e) (hl2.at fun o e => oth _ o N.l2 e) ?_ hS₂ fun h' acc c as hk hS' hl hG hacc => ?_
  · rw [Heap.size_update, Heap.size_push]; exact Nat.le_refl _
  · exact ⟨rfl, hQ h' acc c as (fun b o b1 b2 b3 b4 e => hk b o (lt e) b1 b2 b3 b4 (oth b o (lt e) e)) hS' hl hG hacc⟩
end
end FZ

set_option Elab.async false
set_option linter.all false
set_option maxRecDepth 100000
set_option maxHeartbeats 2000000
namespace FX
open PySem PySem.Spec PyProof.Rows L2 SlX
def pairV : PV → PV → PV := fun x y => .tup [x, y]
def zipP : List PV → List PV → List PV
  | x :: xs, y :: ys => pairV x y :: zipP xs ys
  | _, _ => []
def pLz : PV → PV → M PV := fun x y => match x, y with
  | .tup xs, .tup ys => if xs.length = ys.length ∧ xs.length ≤ 10000000 then mNew (.lst (zipP xs ys)) else M.bad
  | _, _ => M.bad
def tupH : Hp → List Addr → List V → List V → Hp
  | H, a :: as, x :: xs, y :: ys => tupH (upd H a (.tup [x, y])) as xs ys
  | H, _, _, _ => H
theorem tupH_ne : ∀ {as : List Addr} {xs ys : List V} {H : Hp} {b : Addr}, b ∉ as → tupH H as xs ys b = H b
  | [], _, _, _, _, _ => by unfold tupH; rfl
  | a :: as, [], _, _, _, _ => by unfold tupH; rfl
  | a :: as, x :: xs, [], _, _, _ => by unfold tupH; rfl
  | a :: as, x :: xs, y :: ys, H, b, h => by
    show tupH (upd H a (.tup [x, y])) as xs ys b = H b
    rw [tupH_ne fun z => h (List.mem_cons_of_mem _ z), upd_ne fun z => h (by rw [z]; exact List.mem_cons_self)]
theorem Un.more {fs ex : List Addr} {H H' : Hp} {h h' : Heap} (k : ∀ b u, h.get? b = some u → h'.get? b = some u) (hd : ∀ b, H' b = H b ∨ (h.objs.size ≤ b ∧ H b = none)) : Un fs ex H H' h h' where
  keep := fun b u q _ _ _ => k b u q
  slot := fun b u q _ _ _ => ⟨u.slots, k b u q⟩
  free := fun b u q n _ => by
    rcases hd b with e | ⟨e, _⟩
    · rw [e]; exact n
    · exact absurd (Nat.lt_of_lt_of_le (Heap.lt_size q) e) (Nat.lt_irrefl _)
  there := fun b u q _ => ⟨u, k b u q⟩
  tups := fun b xs q => by
    rcases hd b with e | ⟨_, e⟩
    · rw [e]; exact q
    · rw [q] at e; cases e
  frzs := fun b u xs q => by
    rcases hd b with e | ⟨_, e⟩
    · rw [e]; exact q
    · rw [q] at e; cases e
  tbls := fun b ps q => by
    rcases hd b with e | ⟨_, e⟩
    · exact ⟨#[], by rw [e, q]; simp⟩
    · rw [q] at e; cases e
section
variable {X : Cx} {ca : Ca} {W : WX} {a b e : Expr} {fa fb fe : EF} {es : List Expr} {p p2 pos apos : Pos}
theorem hok_tups {P : Program} {w : World} {h : Heap} : ∀ {as : List Addr} {xs ys : List V} {us ws : List Value} {H : Hp}, HOk P w H h → as.Nodup → (∀ c ∈ as, H c = none) → Vals xs us → Vals ys ws →
    (∀ (j : Nat) (c : Addr) (u v : Value), as[j]? = some c → us[j]? = some u → ws[j]? = some v → h.get? c = some { cls := .type "tuple", data := .seq #[u, v] }) → HOk P w (tupH H as xs ys) h
  | [], _, _, _, _, _, ok, _, _, _, _, _ => by unfold tupH; exact ok
  | a :: as, [], _, _, _, _, ok, _, _, _, _, _ => by unfold tupH; exact ok
  | a :: as, x :: xs, [], _, _, _, ok, _, _, _, _, _ => by unfold tupH; exact ok
  | a :: as, x :: xs, y :: ys, _, _, H, ok, nd, hn, .cons ru rus, .cons rw rws, ht => by
    obtain ⟨n1, n2⟩ := List.nodup_cons.mp nd
    show HOk P w (tupH (upd H a (.tup [x, y])) as xs ys) h
    refine hok_tups (ok.laidN (fun _ _ e => e) (hn a List.mem_cons_self) ⟨by show 2 ≤ sizeLine; decide, _, .cons ru (.cons rw .nil), ⟨_, ht 0 a _ _ rfl rfl rfl, rfl, _, rfl⟩⟩) n2 (fun c hc => ?_) rus rws fun j c u v h1 h2 h3 => ht (j + 1) c u v h1 h2 h3
    rw [upd_ne fun z => n1 (by rw [← z]; exact hc)]
    exact hn c (List.mem_cons_of_mem _ hc)
theorem ab_tups {K : PySem.W.Frag} {ν : Nu} {h : MH} : ∀ {as : List Addr} {pxs pys : List PV} {xs ys : List V} {H : Hp}, Ab K ca ν h H → as.Nodup → (∀ c ∈ as, H c = none) → as.length = xs.length → xs.length = ys.length → RepL K ν H pxs xs → RepL K ν H pys ys →
    Ext ν ν H (tupH H as xs ys) ∧ Ab K ca ν h (tupH H as xs ys) ∧ RepL K ν (tupH H as xs ys) (zipP pxs pys) (as.map V.ref)
  | [], _, _, xs, ys, H, A, _, _, h1, h2, r1, r2 => by
    cases xs with
    | nil =>
      cases r1
      exact ⟨Ext.refl _ _, A, by unfold zipP; exact .nil⟩
    | cons _ _ => cases h1
  | a :: as, _, _, [], _, _, _, _, _, h1, _, _, _ => by cases h1
  | a :: as, _, _, x :: xs, [], _, _, _, _, _, h2, _, _ => by cases h2
  | a :: as, _, _, x :: xs, y :: ys, H, A, nd, hn, h1, h2, .cons (x := px) r1 t1, .cons (x := py) r2 t2 => by
    obtain ⟨n1, n2⟩ := List.nodup_cons.mp nd
    obtain ⟨e1, A1⟩ := A.oth (o := .tup [x, y]) (hn a List.mem_cons_self)
    obtain ⟨e2, A2, r⟩ := ab_tups (as := as) (xs := xs) (ys := ys) A1 n2 (fun c hc => by
      rw [upd_ne fun z => n1 (by rw [← z]; exact hc)]
      exact hn c (List.mem_cons_of_mem _ hc)) (by simpa using h1) (by simpa using h2) (t1.ext e1) (t2.ext e1)
    refine ⟨e1.trans e2, A2, .cons ?_ r⟩
    exact .tup (e2.tups _ _ upd_same) (.cons ((r1.ext e1).ext e2) (.cons ((r2.ext e1).ext e2) .nil))
/-- list(zip(..)) of two tuples: the tuples at as -/
theorem run_lz {pins : List (Addr × Obj)} {s : Shared} {σ : L2.St} {H : Hp} {c d : Addr} {xs ys : List V} {Q : VK} (hc : X.calm = true) (I : Inv X pins σ H s) (hx : SqT X.K H c xs) (hy : SqT X.K H d ys) (hl : xs.length = ys.length)
    (q : ∀ as l, as.Nodup → (∀ b ∈ as, H b = none) → as.length = xs.length → H l = none → l ∉ as → Q (.ref l) (upd (tupH H as xs ys) l (.lst (as.map V.ref)))) :
    wpAny (model X.prog X.w) X.A (call (.type "zip") [.ref c, .ref d]) (fun z s' => wpAny (model X.prog X.w) X.A (call (.type "list") [z]) (EP X pins σ Q) X.xe s') X.xe s := by
  obtain ⟨its, rv, p1, hz1⟩ := I.tuple hx
  obtain ⟨its2, rv2, p2, hz2⟩ := I.tuple hy
  obtain ⟨o1, ho1, _⟩ := id p1
  obtain ⟨o2, ho2, _⟩ := id p2
  have l1 := rv.length
  have l2 := rv2.length
  refine RZ.call_zipT (show s.heap.IsTuple c its.toArray from p1) (show s.heap.IsTuple d its2.toArray from p2) fun h' hz hTI hTO h1 h2 hsz hk => ?_
  have D := PySem.W.ktu_apart s.heap.objs.size c d (Heap.lt_size ho1) (Heap.lt_size ho2)
  refine FZ.call_list_zipT (s := { s with heap := h' }) (I.ok.hd hc) D (by rw [List.size_toArray]; omega) (by rw [List.size_toArray, List.size_toArray]; omega) hz hTI ⟨_, _, hTO⟩ h1 h2 ((show s.heap.IsTuple c its.toArray from p1).at fun o e => hk _ o e) ((show s.heap.IsTuple d its2.toArray from p2).at fun o e => hk _ o e) fun h'' acc cc as hk2 hS hal hG hacc => ?_
  dsimp only at hS hG hk2
  rw [List.size_toArray] at hal
  have kept : ∀ b u, s.heap.get? b = some u → h''.get? b = some u := fun b u e => by
    have := Heap.lt_size e
    exact hk2 b u (Nat.ne_of_lt (Nat.lt_of_lt_of_le this (Nat.le_add_right _ _))) (Nat.ne_of_lt (Nat.lt_of_lt_of_le this (Nat.le_add_right _ _))) (Nat.ne_of_lt this) (Nat.ne_of_lt (Nat.lt_of_lt_of_le this (Nat.le_add_right _ _))) (hk b u e)
  have above : ∀ b ∈ as, s.heap.objs.size ≤ b := fun b hb => by
    obtain ⟨j, hj⟩ := List.mem_iff_getElem?.mp hb
    have := (hG.2 j b hj).1
    omega
  have nd : as.Nodup := hG.1.imp fun h => Nat.ne_of_lt h
  have fresh : ∀ b ∈ as, H b = none := fun b hb => I.hok.fresh (above b hb)
  have lfresh : H h'.objs.size = none := I.hok.fresh (by omega)
  have lout : h'.objs.size ∉ as := fun hb => by
    obtain ⟨j, hj⟩ := List.mem_iff_getElem?.mp hb
    have := (hG.2 j _ hj).1
    omega
  have ok1 : HOk X.prog X.w (tupH H as xs ys) h'' := hok_tups (I.hok.kept kept) nd fresh rv rv2 fun j b u v e1 e2 e3 => by
    obtain ⟨_, x, y, hx', hy', hp⟩ := hG.2 j b e1
    have ex : x = u := by
      rw [List.getElem?_toArray] at hx'
      rw [hx'] at e2; exact Option.some.inj e2
    have ey : y = v := by
      rw [List.getElem?_toArray] at hy'
      rw [hy'] at e3; exact Option.some.inj e3
    rw [ex, ey] at hp
    exact hp
  have hn2 : tupH H as xs ys h'.objs.size = none := by rw [tupH_ne lout]; exact lfresh
  have ok2 : HOk X.prog X.w (upd (tupH H as xs ys) h'.objs.size (.lst (as.map V.ref))) h'' := ok1.laidN (fun _ _ e => e) hn2 ⟨by rw [List.length_map, hal]; omega, acc.toList, cc, by rw [hacc]; exact L2.vals_refs as, by rw [Array.toArray_toList]; exact hS⟩
  have un : Un X.fs [] H (upd (tupH H as xs ys) h'.objs.size (.lst (as.map V.ref))) s.heap h'' := Un.more kept fun b => by
    by_cases hb : b = h'.objs.size
    · subst hb; exact .inr ⟨by omega, lfresh⟩
    · rw [upd_ne hb]
      by_cases hb2 : b ∈ as
      · exact .inr ⟨above b hb2, fresh b hb2⟩
      · exact .inl (tupH_ne hb2)
  exact ⟨.ref h'.objs.size, _, I.un (t' := s.toks) un ok2, rfl, q as _ nd fresh (by rw [hal, l1]) lfresh lout⟩
theorem px_lz (hc : X.calm = true) (hg : Gl X "list") (hm : X.mg "list" = none) (hg2 : Gl X "zip") (hm2 : X.mg "zip" = none) (ha : PX X ca W a fa) (hb : PX X ca W b fb)
    (hs : starEach [a, b] X.env = (false, eval a X.env) :: starEach [b] X.env := by rfl) (hs2 : starEach [b] X.env = (false, eval b X.env) :: starEach [] X.env := by rfl) (hpl : (backTo apos (starEach [b] X.env)).any (·.1) = false := by rfl)
    (na2 : starEach [.Call (.Name "zip" p2) [a, b] [] apos] X.env = (false, eval (.Call (.Name "zip" p2) [a, b] [] apos) X.env) :: starEach [] X.env := by rfl) :
    PX X ca W (.Call (.Name "list" p) [.Call (.Name "zip" p2) [a, b] [] apos] [] pos) (eOp pLz fa fb) := by
  refine ⟨fun pins s σ H Q I ⟨ν, ρ, h, A, E, P⟩ => ?_⟩
  refine wpAny_Call_Name_kw (ld_blt I hg hm PyProof.Rows.boot_list ?_ (by decide) (by decide))
  refine PyProof.Rows.callWith_type1 (args_cons ?_ na2) na2 rfl
  refine wpAny_Call_Name_kw (ld_blt I hg2 hm2 PyProof.Rows.boot_zip ?_ (by decide) (by decide))
  refine PyProof.Rows.callWith_type1 (thn ((pa_cons ha (pa_cons hb pa_nil hs2) hs).run apos pins s σ H (fun vs H1 => ∃ x y ν1 h1 px py, vs = [x, y] ∧ Ab X.K ca ν1 h1 H1 ∧ Rep X.K ν1 H1 px x ∧ Rep X.K ν1 H1 py y ∧ Post X.K ca W σ ν1 H1 (pLz px py h1) fun ν' H' _ z => ∀ w, Rep X.K ν' H' z w → Q w H') I
    ⟨ν, ρ, h, A, E, (Post.bind P).mono fun ν1 H1 h1 px e1 A1 P1 v rv => ⟨ν1, ρ, h1, A1, E.ext e1, (Post.bind P1).mono fun ν2 H2 h2 py e2 A2 P2 w rw' => ⟨v, w, ν2, h2, px, py, rfl, A2, rv.ext e2, rw', P2⟩⟩⟩) fun us s1 ⟨vs, H1, I1, r1, x, y, ν1, h1, px, py, ev, A1, rx, ry, P1⟩ => ?_) hs hpl
  subst ev
  cases rx with
  | @tup pxs c xs qx lx =>
    cases ry with
    | @tup pys d ys qy ly =>
      obtain ⟨⟨hl, hz⟩, P2⟩ := post_ifp P1
      obtain ⟨u1, u2, rfl, r1, r2⟩ := r1.two
      cases r1
      cases r2
      have hl2 : xs.length = ys.length := by rw [← lx.length, ← ly.length]; exact hl
      refine thn (run_lz hc I1 (.of qx) (.of qy) hl2 fun as l nd fr hal hln hout => ?_) fun z s' h => args_nil h
      obtain ⟨e2, A2, r⟩ := ab_tups A1 nd fr hal hl2 lx ly
      have hn2 : tupH H1 as xs ys l = none := by rw [tupH_ne hout]; exact hln
      obtain ⟨x3, A3⟩ := A2.nw (as := [l]) (mo := .lst (zipP pxs pys)) (H' := upd (tupH H1 as xs ys) l (.lst (as.map V.ref))) (fun a ha => by rw [List.mem_singleton.mp ha]; exact hn2) (fun b hb => upd_ne fun z => hb (by rw [z]; exact List.mem_cons_self))
        (fun b hb => by rw [List.mem_singleton.mp hb, upd_same]; exact fun z => nomatch z) (fun x => ⟨l, _, rfl, upd_same, r.ext x⟩)
      exact P2 _ _ (e2.trans x3) A3 _ (.ref (l := []) nuN_same)
    | _ => exact P1.elim
  | _ => exact P1.elim
end
end FX

set_option Elab.async false
set_option linter.all false
set_option maxRecDepth 100000
set_option maxHeartbeats 2000000
namespace FX
open PySem PySem.Spec PyProof.Rows L2 SlX
def prsOf : List PV → Option (List (PV × PV))
  | [] => some []
  | .tup [k, v] :: r => (asK k).bind fun _ => (prsOf r).map ((k, v) :: ·)
  | _ :: _ => none
def mrg (d : List (PV × PV)) (kvs : List (PV × PV)) : List (PV × PV) := kvs.foldl (fun d q => dPut d q.1 q.2) d
/-- dict(pairs) -/
def pDictP : FF := fun xs => match xs with
  | [x] => mLst x fun ps => match prsOf ps with
    | some kvs => mNew (.dct (mrg [] kvs))
    | none => M.bad
  | _ => M.bad
section
variable {K : PySem.W.Frag} {ν : Nu} {H : Hp}
theorem prs_rep : ∀ {xs : List PV} {kvs : List (PV × PV)} {vs : List V}, prsOf xs = some kvs → RepL K ν H xs vs → ∃ (as : List Addr) (kws : List (Key × V)), vs = as.map V.ref ∧ Paired (fun p kv => SqT K H p [kV kv.1, kv.2]) as kws ∧ RepKV kP K ν H kvs kws
  | [], _, _, e, .nil => by
    cases e
    exact ⟨[], [], rfl, .nil, rfl, .nil⟩
  | x :: xs, kvs, _, e, .cons (v := v) r t => by
    cases r with
    | @tup zs a ws q rz =>
      match zs, rz, e with
      | [k, v], .cons rk (.cons rv .nil), e =>
        unfold prsOf at e
        cases hk : asK k with
        | none => rw [hk] at e; cases e
        | some kk =>
          rw [hk, Option.bind_some] at e
          cases hp : prsOf xs with
          | none => rw [hp] at e; cases e
          | some ms =>
            rw [hp] at e
            cases e
            obtain ⟨as, kws, e1, e2, e3⟩ := prs_rep hp t
            subst e1
            rename_i vk vv
            have ev : vk = kV kk := by
              cases rk with
              | int => cases hk; rfl
              | str => cases hk; rfl
              | _ => cases hk
            subst ev
            refine ⟨a :: as, (kk, vv) :: kws, rfl, .cons (.of q) e2, ?_, ?_⟩
            · rw [List.map_cons, List.map_cons, ← e3.1, asK_kP hk]
            · rw [List.map_cons, List.map_cons]
              exact .cons rv e3.2
      | [], _, e => cases e
      | [_], _, e => cases e
      | _ :: _ :: _ :: _, _, e => cases e
    | _ => cases e
theorem RepKV.merge : ∀ {more : List (PV × PV)} {mws : List (Key × V)} {kvs : List (PV × PV)} {kws : List (Key × V)}, RepKV kP K ν H more mws → RepKV kP K ν H kvs kws → RepKV kP K ν H (mrg kvs more) (mergeK kws mws)
  | [], [], _, _, _, h => h
  | [], _ :: _, _, _, h, _ => by have := h.1; simp at this
  | _ :: _, [], _, _, h, _ => by have := h.1; simp at this
  | (x, v) :: more, (k, u) :: mws, kvs, kws, h, h0 => by
    obtain ⟨h1, h2⟩ := h
    rw [List.map_cons, List.map_cons] at h1 h2
    have hx : x = kP k := (List.cons.inj h1).1
    have h1' := (List.cons.inj h1).2
    subst hx
    cases h2 with
    | cons r t => exact RepKV.merge (more := more) (mws := mws) ⟨h1', t⟩ (h0.put (fun a b => keyE_kP) r)
end
section
variable {X : Cx} {ca : Ca} {W : WX}
theorem ca_dictP (hc : X.calm = true) : CaM X ca W (.type "dict") pDictP := CaM.of (call_dictP hc) fun σ H ν hp xs vs Q A r P => by
  cases r with
  | nil => exact P.elim
  | cons r t =>
    cases t with
    | cons _ _ => exact (show False from P).elim
    | nil =>
      obtain ⟨a, ys, ws, rfl, q, rl, P1⟩ := mLst_post A r P
      cases hp' : prsOf ys with
      | none => simp only [hp'] at P1; exact (show False from P1).elim
      | some kvs =>
        simp only [hp'] at P1
        obtain ⟨as, kws, rfl, e2, e3⟩ := prs_rep hp' rl
        refine ⟨a, as, kws, rfl, q, e2, fun p hpn => ?_⟩
        have rm : RepKV kP X.K ν H (mrg [] kvs) (mergeK [] kws) := e3.merge ⟨rfl, .nil⟩
        obtain ⟨x2, A2⟩ := A.nw (as := [p]) (mo := .dct (mrg [] kvs)) (H' := upd H p (.dK (mergeK [] kws))) (fun a ha => by rw [List.mem_singleton.mp ha]; exact hpn) (fun b hb => upd_ne fun z => hb (by rw [z]; exact List.mem_cons_self))
          (fun b hb => by rw [List.mem_singleton.mp hb, upd_same]; exact fun z => nomatch z) (fun x => ⟨p, _, rfl, upd_same, rm.ext x⟩)
        exact P1 _ _ x2 A2 _ (.ref (l := []) nuN_same)
end
def dcompN (nxt : Src) (g : GF) (t : TF) (ek ev : EF) : Nat → Nat → List (PV × PV) → Env → M (List (PV × PV))
  | 0, _, _, _ => M.bad
  | f + 1, i, acc, ρ => fun h => match nxt i h with
    | none => .bad
    | some none => .ok acc h
    | some (some x) => ((g x ρ).bind fun ρ2 => (t ρ2).bind fun b => if b then (ek ρ2).bind fun y => (ev ρ2).bind fun z => match asK y with
        | some _ => if acc.length < 10000000 then dcompN nxt g t ek ev f (i + 1) (dPut acc y z) ρ else M.bad
        | none => M.bad
      else dcompN nxt g t ek ev f (i + 1) acc ρ) h
def eDc (s : IF) (vs : List Nat) (g : GF) (t : TF) (ek ev : EF) : EF := fun ρ => (s ρ).bind fun nxt => (noX (dcompN nxt g t ek ev fuel 0 [] (wipeE ρ vs))).bind fun kvs => mNew (.dct kvs)
section
variable {X : Cx} {ca : Ca} {W : WX} {kx vx tg iter : Expr} {ifs : List Expr} {scope : Scope} {own : List (Str × Nat)} {pos : Pos} {i : IF} {g : GF} {t : TF} {ek ev : EF}
theorem Ab.sideD {K : PySem.W.Frag} {ν : Nu} {H : Hp} {h : MH} (A : Ab K ca ν h H) {p : Addr} {o : HO} {xs : List (Key × V)} (hp : ∀ n, p ∉ ν n) (hl : H p = some (.dK xs)) : Mon ν ν H (upd H p o) ∧ Ab K ca ν h (upd H p o) := by
  have m : Mon ν ν H (upd H p o) := by
    refine ⟨fun _ _ => rfl, fun a xs ha => ?_, fun a ob u ha => ?_⟩
    · rw [upd_ne fun z => by rw [z, hl] at ha; cases ha]; exact ha
    · rw [upd_ne fun z => by rw [z, hl] at ha; cases ha]; exact ha
  refine ⟨m, A.dom, fun n om hm => ?_, A.inj⟩
  exact (A.at_ n om hm).mon m fun a ha => upd_ne fun z => hp n (z ▸ ha)
theorem Ab.adoptD {K : PySem.W.Frag} {ν1 ν : Nu} {H1 H : Hp} {h : MH} {D : Addr} {acc : List (PV × PV)} {vacc : List (Key × V)} (x : Ext ν1 ν H1 H) (A : Ab K ca ν h H) (hD : H1 D = none) (dead : ∀ n, D ∉ ν n) (hl : H D = some (.dK vacc)) (r : RepKV kP K ν H acc vacc) :
    Ext ν1 (nuN ν h.nx [D]) H1 H ∧ Ab K ca (nuN ν h.nx [D]) (h.new (.dct acc)) H ∧ ∀ n, ν n ≠ [] → nuN ν h.nx [D] n = ν n := by
  have nx : ν h.nx = [] := A.dom _ MH.get_nx
  have keep : ∀ n, ν n ≠ [] → nuN ν h.nx [D] n = ν n := fun n hn => nuN_ne fun z => hn (by rw [z]; exact nx)
  have m : Mon ν (nuN ν h.nx [D]) H H := ⟨keep, fun _ _ z => z, fun _ _ _ z => z⟩
  refine ⟨⟨⟨fun n hn => ?_, x.tups, x.frzs⟩, x.fr, fun n a h1 h2 => ?_, x.live⟩, ⟨fun n hn => ?_, fun n om hm => ?_, fun n k a h1 h2 => ?_⟩, keep⟩
  · have e := x.nu n hn
    rw [keep n (by rw [e]; exact hn), e]
  · by_cases hn : n = h.nx
    · rw [hn, nuN_same] at h2
      rw [List.mem_singleton.mp h2]; exact hD
    · rw [nuN_ne hn] at h2
      exact x.new n a h1 h2
  · by_cases hm : n = h.nx
    · rw [hm, MH.get_new] at hn; cases hn
    · rw [MH.get_new_ne hm] at hn
      rw [nuN_ne hm]; exact A.dom n hn
  · by_cases hmn : n = h.nx
    · subst hmn
      rw [MH.get_new] at hm
      cases hm
      rw [nuN_same]
      exact ⟨D, vacc, rfl, hl, r.1, r.2.mon m⟩
    · rw [MH.get_new_ne hmn] at hm
      rw [nuN_ne hmn]
      exact (A.at_ n om hm).mon m fun _ _ => rfl
  · by_cases h3 : n = h.nx
    · by_cases h4 : k = h.nx
      · rw [h3, h4]
      · rw [h3, nuN_same] at h1
        rw [nuN_ne h4, List.mem_singleton.mp h1] at h2
        exact absurd h2 (dead k)
    · rw [nuN_ne h3] at h1
      by_cases h4 : k = h.nx
      · rw [h4, nuN_same] at h2
        rw [List.mem_singleton.mp h2] at h1
        exact absurd h1 (dead n)
      · rw [nuN_ne h4] at h2
        exact A.inj n k a h1 h2
theorem dc_read {K : PySem.W.Frag} {ν : Nu} {ρ : Env} {h : MH} {σ : L2.St} {H : Hp} {Q : VK} {vs : List Nat} (A : Ab K ca ν h H) (E : EnvR K ν H ρ σ) (P : Post K ca W σ ν H (eDc i vs g t ek ev ρ h) fun ν' H' _ x => ∀ v, Rep K ν' H' x v → Q v H') :
    tDc (tI ca W K i) (tG ca W0 K vs g) (tT ca W0 K t) (tE ca W0 K ek) (tE ca W0 K ev) vs σ H Q := by
  refine ⟨ν, ρ, h, A, E, (Post.bind P).mono fun ν1 H1 h1 nxt e1 A1 P1 J hJ D hD => ?_⟩
  have E1 := (E.ext e1).wipe vs
  have dead : ∀ n, D ∉ ν1 n := fun n hn => A1.live hn hD
  let Tot (r : R (List (PV × PV))) : Prop := match r with
    | .ok xs h' => Post K ca W σ ν1 H1 (mNew (.dct xs) h') fun ν' H' _ x => ∀ v, Rep K ν' H' x v → Q v H'
    | _ => False
  have P2 : Tot (dcompN nxt g t ek ev fuel 0 [] (wipeE ρ vs) h1) := by
    unfold M.bind noX at P1
    revert P1
    show _ → Tot _
    cases dcompN nxt g t ek ev fuel 0 [] (wipeE ρ vs) h1 with
    | ok xs h' => exact fun p => p
    | exc c x h' => exact fun p => p
    | bad => exact fun p => p
  let Wi (j m : Nat) (H : Hp) : Prop := ∃ ν h acc vacc, Ext ν1 ν H1 H ∧ Ab K ca ν h H ∧ (∀ n, D ∉ ν n) ∧ H D = some (.dK vacc) ∧ RepKV kP K ν H acc vacc ∧ Tot (dcompN nxt g t ek ev m j acc (wipeE ρ vs) h)
  obtain ⟨e2, A2⟩ := A1.oth (o := .dK []) hD
  refine ⟨Wi, ⟨fuel, ν1, h1, [], [], e2, A2, dead, upd_same, ⟨rfl, .nil⟩, P2⟩, ?_⟩
  rintro j m Hc ⟨νc, hc, acc, vacc, xc, Ac, dc, lc, rc, T⟩
  cases m with
  | zero => exact T.elim
  | succ m =>
    obtain ⟨hstop, hgo⟩ := hJ νc hc Hc j xc Ac
    unfold dcompN at T
    generalize nxt j hc = z at T hstop hgo
    rcases z with _ | _ | x
    · exact T.elim
    · refine .inl ⟨hstop rfl, ?_⟩
      have T' : Post K ca W σ ν1 H1 (mNew (.dct acc) hc) fun ν' H' _ x => ∀ v, Rep K ν' H' x v → Q v H' := T
      obtain ⟨x3, A3, _⟩ := Ab.adoptD xc Ac hD dc lc rc
      exact T' _ _ x3 A3 _ (.ref (l := []) nuN_same)
    · obtain ⟨hg1, hy⟩ := hgo x rfl
      refine .inr ⟨hg1, Wi (j + 1) m, fun H' w => ⟨m, Nat.lt_succ_self m, w⟩, fun y H' hyl => ?_⟩
      obtain ⟨ν2, x2, A2, r2⟩ := hy y H' hyl
      have step : ∀ {νa νb : Nu} {Ha Hb : Hp}, Ext νa νb Ha Hb → (∀ n, D ∉ νa n) → Ha D = some (.dK vacc) → (∀ n, D ∉ νb n) ∧ Hb D = some (.dK vacc) := fun {νa νb Ha Hb} x d l => by
        refine ⟨fun n hn => ?_, x.fr D _ l d⟩
        by_cases hz : νa n = []
        · have := x.new n D hz hn
          rw [l] at this; cases this
        · rw [x.nu n hz] at hn
          exact d n hn
      obtain ⟨d2, l2⟩ := step x2 dc lc
      have E2 := E1.ext (xc.trans x2)
      refine ⟨ν2, wipeE ρ vs, hc, x, A2, E2, r2, ?_⟩
      have T1 : Tot (((g x (wipeE ρ vs)).bind fun ρ2 => (t ρ2).bind fun b => if b then (ek ρ2).bind fun y => (ev ρ2).bind fun z => match asK y with
          | some _ => if acc.length < 10000000 then dcompN nxt g t ek ev m (j + 1) (dPut acc y z) (wipeE ρ vs) else M.bad
          | none => M.bad
        else dcompN nxt g t ek ev m (j + 1) acc (wipeE ρ vs)) hc) := T
      unfold M.bind at T1
      cases eg : g x (wipeE ρ vs) hc with
      | exc c x h' => rw [eg] at T1; exact T1.elim
      | bad => rw [eg] at T1; exact T1.elim
      | ok ρ2 h2 =>
        rw [eg] at T1
        intro ν3 H3 x3 A3 σ3 E3 hw
        obtain ⟨d3, l3⟩ := step x3 d2 l2
        refine ⟨hw.trans (wipe_wipe vs σ), ν3, ρ2, h2, A3, E3, ?_⟩
        cases et : t ρ2 h2 with
        | exc c x h' =>
          have T2 := T1
          simp only [et] at T2
          exact (show False from T2).elim
        | bad =>
          have T2 := T1
          simp only [et] at T2
          exact (show False from T2).elim
        | ok b h4 =>
          intro ν4 H4 x4 A4
          obtain ⟨d4, l4⟩ := step x4 d3 l3
          have T2 := T1
          simp only [et] at T2
          have x14 := ((xc.trans x2).trans x3).trans x4
          cases b with
          | false =>
            exact ⟨ν4, h4, acc, vacc, x14, A4, d4, l4, ((rc.ext x2).ext x3).ext x4, T2⟩
          | true =>
            refine ⟨ν4, ρ2, h4, A4, E3.ext x4, ?_⟩
            cases ee : ek ρ2 h4 with
            | exc c x h' =>
              have T3 := T2
              simp only [ee, if_true] at T3
              exact (show False from T3).elim
            | bad =>
              have T3 := T2
              simp only [ee, if_true] at T3
              exact (show False from T3).elim
            | ok yv h5 =>
              intro ν5 H5 x5 A5 v rv
              obtain ⟨d5, l5⟩ := step x5 d4 l4
              have T3 := T2
              simp only [ee, if_true] at T3
              refine ⟨ν5, ρ2, h5, A5, (E3.ext x4).ext x5, ?_⟩
              cases e6 : ev ρ2 h5 with
              | exc c x h' =>
                have T4 := T3
                simp only [e6] at T4
                exact (show False from T4).elim
              | bad =>
                have T4 := T3
                simp only [e6] at T4
                exact (show False from T4).elim
              | ok zv h6 =>
                intro ν6 H6 x6 A6 w rw'
                obtain ⟨d6, l6⟩ := step x6 d5 l5
                have T4 := T3
                simp only [e6] at T4
                have x16 := (x14.trans x5).trans x6
                have r6 := ((((rc.ext x2).ext x3).ext x4).ext x5).ext x6
                cases hk : asK yv with
                | none =>
                  simp only [hk] at T4
                  exact (show False from T4).elim
                | some k =>
                  simp only [hk] at T4
                  have T5 : Tot ((if acc.length < 10000000 then dcompN nxt g t ek ev m (j + 1) (dPut acc yv zv) (wipeE ρ vs) else M.bad : M (List (PV × PV))) h6) := T4
                  by_cases hl : acc.length < 10000000
                  · rw [if_pos hl] at T5
                    have eyv : v = kV k := by
                      cases rv with
                      | int => cases hk; rfl
                      | str => cases hk; rfl
                      | _ => cases hk
                    refine ⟨vacc, k, eyv, l6, by rw [← rc.length]; exact lst_line hl, ?_⟩
                    obtain ⟨m7, A7⟩ := A6.sideD (o := .dK (putK vacc k w)) d6 l6
                    have rp := r6.put (fun a b => keyE_kP) (k := k) rw'
                    rw [asK_kP hk] at T5
                    exact ⟨ν6, h6, _, putK vacc k w, x16.side hD, A7, d6, upd_same, ⟨rp.1, rp.2.mon m7⟩, T5⟩
                  · rw [if_neg hl] at T5
                    exact T5.elim
theorem px_dc (hc : X.calm = true) (hN : X.N.Nodup) (hi : PXI X ca W tg iter i) (ok : BlkOk X.N X.env.scope scope own) (hg : Blk X scope fun Y => PXG Y ca W0 (own.map (·.2)) tg g) (ht : Blk X scope fun Y => PXTs Y ca W0 ifs t) (hk : Blk X scope fun Y => PX Y ca W0 kx ek) (he : Blk X scope fun Y => PX Y ca W0 vx ev)
    (hs : ∀ x, foldedSetIterable iter X.env x = pure x := by intro _; rfl) : PX X ca W (.DictComp kx vx [⟨tg, iter, ifs, 0⟩] scope pos) (eDc i (own.map (·.2)) g t ek ev) :=
  PE.imp (pe_dc (g := tG ca W0 X.K (List.map (fun p : Str × Nat => p.2) own) g) (tt := tT ca W0 X.K t) (tk := tE ca W0 X.K ek) (tv := tE ca W0 X.K ev) hc hN hi ok hg ht hk he hs) fun σ H Q ⟨ν, ρ, h, A, E, P⟩ => dc_read A E P
end
end FX

set_option Elab.async false
set_option linter.all false
set_option maxRecDepth 100000
set_option maxHeartbeats 2000000
namespace FX
open PySem PySem.Spec PyProof.Rows L2 SlX
def gTupl (n : Nat) (gs : List GF) : GF := fun x ρ => match x with
  | .tup xs => if xs.length = n then gAll gs xs ρ else M.bad
  | _ => M.bad
theorem pxg_tupl {X : Cx} {ca : Ca} {W : WX} {vs : List Nat} {pos : Pos} {es : List Expr} {k n : Nat} {gs : List GF} (hc : X.calm = true) (h : PXGs X ca W vs es gs) (hl : gs.length = n := by rfl)
    (hn : (assignEach es X.env).length = n := by rfl) (hst : (assignEach es X.env).findIdx? (·.1) = none := by rfl) : PXG X ca W vs (.Tuple es k pos) (gTupl n gs) := pxg_tup hc h hl hn hst
theorem px_gint {X : Cx} {ca : Ca} {W : WX} {pos : Pos} {x : Str} {i : Int} (hg : Gl X x) (hm : ∃ t, X.mg x = some (.int i t)) (hd : (x == ("__debug__" : Str)) = false := by decide) : PX X ca W (.Name x pos) (eC (.int i)) :=
  let ⟨t, ht⟩ := hm
  px_glob (v := .int i) hg ht ⟨t, rfl⟩ (fun _ _ => .int) hd
/-- a, b = x, y with plain local names -/
def sPar (i j : Nat) (ra : AF) : SF := fun ρ => sThen (ra ρ) ρ fun xs => match xs with
  | [x, y] => M.ret (.nx ((ρ.set i (some x)).set j (some y)))
  | _ => M.bad
theorem pxs_par {X : Cx} {ca : Ca} {W : WX} {ra : AF} {pos : Pos} (i j : Nat) {x y : Str} {a b : Expr} {px py pt : Pos} {kt k2 pt2} (hc : X.calm = true) (hN : X.N.Nodup) (hij : i ≠ j) (ha : PXA X ca W [a, b] ra) (hi : X.N[i]? = some x := by rfl) (hj : X.N[j]? = some y := by rfl)
    (hx : X.env.scope.names.lookup x = some .local := by rfl) (hy : X.env.scope.names.lookup y = some .local := by rfl)
    (hw : swappedStores [.Tuple [.Name x px, .Name y py] kt pt] (.Tuple [a, b] k2 pt2) X.env = pure (some [x, y]) := by rfl)
    (hs : swapsWithSole [.Tuple [.Name x px, .Name y py] kt pt] (.Tuple [a, b] k2 pt2) pos.line X.env = pure false := by rfl) :
    PXS X ca W (.Assign [.Tuple [.Name x px, .Name y py] kt pt] (.Tuple [a, b] k2 pt2) pos) (sPar i j ra) :=
  PS.imp (ps_par hc hN hi hj hij hx hy ha hw hs) fun D σ H ⟨ν, ρ, h, A, E, P⟩ => ⟨ν, ρ, h, A, E, (sThen_post E P).mono fun ν1 H1 h1 xs e1 A1 P1 vs r => by
    match xs, vs, r, P1 with
    | [], _, _, P1 => exact P1.elim
    | [_], _, _, P1 => exact P1.elim
    | [x, y], _, .cons r1 (.cons r2 .nil), P1 => exact ⟨_, _, rfl, Post.ret P1 A1 _ (((E.ext e1).set r1 i).set r2 j)⟩
    | _ :: _ :: _ :: _, _, _, P1 => exact P1.elim⟩
abbrev FaB := PySem.W.Frag → Bool
def obsB (fa : List FaB) (fn : List He5.DefA) (K : PySem.W.Frag) : He.AlD := (fa.all (fun f => f K) && fn.all (fun d => d.ok K), fn.map fun d => He5.fnA K (d.at_ K))
def valB (fn : List He5.DefA) : He.AlD := (true, fn.map He5.DefA.val)
def SaysB (fa : List FaB) (fn : List He5.DefA) (K : PySem.W.Frag) : Prop := obsB fa fn K = valB fn
def obsBG (n : Nat) (fa : List FaB) (fn : List He5.DefA) (g : Addr → Option Obj) : He.AlD := obsB fa fn (He.frG g (He5.asA g n))
def hookB (n : Nat) (fa : List FaB) (fn : List He5.DefA) : PySem.W.Hook where
  α := He.AlD
  obs := fun s => obsBG n fa fn s.heap.get?
  val := fun _ => valB fn
  says := fun _ h => ∃ K : PySem.W.Frag, K.In h ∧ SaysB fa fn K
  of := fun _ _ e => ⟨_, He.frG_in, e⟩
  keeps := fun _ _ _ ⟨K, hK, c⟩ k => ⟨K, PySem.W.Frag.In.keeps hK k, c⟩
theorem obsBG_eq {n : Nat} {fa : List FaB} {fn : List He5.DefA} {g : Addr → Option Obj} {s : Shared} (h : ∀ a, g a = s.heap.get? a) : obsBG n fa fn g = (hookB n fa fn).obs s := by
  have : g = s.heap.get? := funext h
  subst this; rfl
section
variable {fa : List FaB} {fn : List He5.DefA} {K : PySem.W.Frag}
theorem SaysB.fact (c : SaysB fa fn K) (i : Nat) {f : FaB} (h : fa[i]? = some f := by rfl) : f K = true := by
  have := congrArg Prod.fst c
  exact List.all_eq_true.mp (Bool.and_eq_true_iff.mp this).1 f (List.mem_of_getElem? h)
theorem SaysB.def_ (c : SaysB fa fn K) (i : Nat) {d : He5.DefA} (h : fn[i]? = some d := by rfl) : ∃ fd, FunD K d.name d.qual d.params d.body d.scope (d.dvs K) (d.kws K) (d.at_ K) fd := by
  have h1 := (Bool.and_eq_true_iff.mp (congrArg Prod.fst c)).2
  have h2 : fn.map (fun d => He5.fnA K (d.at_ K)) = fn.map He5.DefA.val := congrArg Prod.snd c
  have h3 := congrArg (fun l : List He5.FnW => l[i]?) h2
  simp only [List.getElem?_map, h, Option.map_some] at h3
  exact He5.DefA.funD (Option.some.inj h3) (List.all_eq_true.mp h1 d (List.mem_of_getElem? h))
end
def pgA (K : PySem.W.Frag) (C : Addr) (f : Str) : Addr := match PySem.W.recIn K (He.ma K C f) "property" with
  | some (.ref g :: _) => g
  | _ => 0
def slI (K : PySem.W.Frag) (C : Addr) (f : Str) : Nat := (PySem.W.slotIn K (He.ma K C f) C).getD 2000
structure Ocl (K : PySem.W.Frag) (C : Addr) : Prop where
  sc : SCls K C
  si : SIsi K C
  sf : PySem.W.selfFirst K C = true
  nf : PySem.W.notFirst K C (.ref C) = true
  ne : PySem.W.findIn K (.ref C) "__ne__" = some (some (.builtin "object.__ne__"))
  mo : PySem.W.mroIn K C (.type "object") = some true
def bOcl (C : PySem.W.Frag → Addr) : FaB := fun K => PySem.W.plainGet K (C K) Str.empty && PySem.W.isClsIn K (C K) && PySem.W.plainOver K (C K) && He.eqO (PySem.W.findIn K (.ref (C K)) "__setattr__") (some (some (.builtin "object.__setattr__"))) &&
  He.eqO (PySem.W.findIn K (.ref (C K)) "__class__") (some (some (.builtin "object.__class__"))) && He.eqO (PySem.W.specialIn K (.builtin "object.__class__") "__get__") (some (some (.builtin "getset_descriptor.__get__"))) &&
  decide (PySem.W.takesIn K (.builtin "object.__class__") = some true) && decide (PySem.W.mroIn K (C K) (.type "object") = some true) && PySem.W.selfFirst K (C K) && PySem.W.notFirst K (C K) (.ref (C K)) && He.eqO (PySem.W.findIn K (.ref (C K)) "__ne__") (some (some (.builtin "object.__ne__")))
theorem bOcl_ok {C : PySem.W.Frag → Addr} {K : PySem.W.Frag} (h : bOcl C K = true) : Ocl K (C K) := by
  unfold bOcl at h
  simp only [Bool.and_eq_true] at h
  obtain ⟨⟨⟨⟨⟨⟨⟨⟨⟨⟨h1, h2⟩, h3⟩, h4⟩, h5⟩, h6⟩, h7⟩, h8⟩, h9⟩, h10⟩, h11⟩ := h
  exact ⟨⟨h1, h2, h3, He.eqO_ok h4⟩, ⟨He.eqO_ok h5, He.eqO_ok h6, of_decide_eq_true h7, of_decide_eq_true h8⟩, h9, h10, He.eqO_ok h11, of_decide_eq_true h8⟩
def bSlot (C : PySem.W.Frag → Addr) (f : Str) (i : Nat) : FaB := fun K => He.eqO (PySem.W.findIn K (.ref (C K)) f) (some (some (.ref (He.ma K (C K) f)))) && He.eqO (PySem.W.specialIn K (.ref (He.ma K (C K) f)) "__get__") (some (some (.builtin "member_descriptor.__get__"))) &&
  decide (PySem.W.takesIn K (.ref (He.ma K (C K) f)) = some true) && decide (PySem.W.typeIn K (.ref (He.ma K (C K) f)) = some (.type "member_descriptor")) && decide (PySem.W.slotIn K (He.ma K (C K) f) (C K) = some i) && decide (i < 1000)
theorem bSlot_ok {C : PySem.W.Frag → Addr} {f : Str} {i : Nat} {K : PySem.W.Frag} (h : bSlot C f i K = true) : Slot1 K (C K) f (He.ma K (C K) f) i := by
  unfold bSlot at h
  simp only [Bool.and_eq_true] at h
  obtain ⟨⟨⟨⟨⟨h1, h2⟩, h3⟩, h4⟩, h5⟩, h6⟩ := h
  exact ⟨He.eqO_ok h1, He.eqO_ok h2, of_decide_eq_true h3, of_decide_eq_true h4, of_decide_eq_true h5, of_decide_eq_true h6⟩
def bPr (C : PySem.W.Frag → Addr) (f : Str) : FaB := fun K => He.eqO (PySem.W.findIn K (.ref (C K)) f) (some (some (.ref (He.ma K (C K) f)))) && He.eqO (PySem.W.specialIn K (.ref (He.ma K (C K) f)) "__get__") (some (some (.builtin "property.__get__"))) &&
  decide (PySem.W.takesIn K (.ref (He.ma K (C K) f)) = some true) && (match PySem.W.recIn K (He.ma K (C K) f) "property" with
    | some (.ref _ :: _) => true
    | _ => false)
theorem bPr_ok {C : PySem.W.Frag → Addr} {f : Str} {K : PySem.W.Frag} (h : bPr C f K = true) : PrS K (C K) f (He.ma K (C K) f) (pgA K (C K) f) := by
  unfold bPr at h
  simp only [Bool.and_eq_true] at h
  obtain ⟨⟨⟨h1, h2⟩, h3⟩, h4⟩ := h
  refine ⟨He.eqO_ok h1, He.eqO_ok h2, of_decide_eq_true h3, ?_⟩
  unfold pgA
  split at h4
  · rename_i g r e
    exact ⟨r, by rw [e]⟩
  · cases h4
def bOp (C : PySem.W.Frag → Addr) (m : Str) : FaB := fun K => He.eqO (PySem.W.findIn K (.ref (C K)) m) (some (some (.ref (He.ma K (C K) m)))) && PySem.W.isFn K (.ref (He.ma K (C K) m))
theorem bOp_ok {C : PySem.W.Frag → Addr} {m : Str} {K : PySem.W.Frag} (h : bOp C m K = true) : OpA K (C K) (He.ma K (C K) m) m := by
  unfold bOp at h
  simp only [Bool.and_eq_true] at h
  exact ⟨He.eqO_ok h.1, h.2⟩
def bSt (C : PySem.W.Frag → Addr) (m : Str) : FaB := fun K => He.eqO (PySem.W.specialIn K (.ref (C K)) "__getattribute__") (some (some (.builtin "type.__getattribute__"))) && PySem.W.readsIn K (C K) (.type "type") && He5.wrapB K (C K) "staticmethod" "staticmethod.__get__" m
theorem bSt_ok {C : PySem.W.Frag → Addr} {m : Str} {K : PySem.W.Frag} (h : bSt C m K = true) : StA K (C K) (He.ma K (C K) m) (He5.wf K (C K) "staticmethod" m) m := by
  unfold bSt at h
  simp only [Bool.and_eq_true] at h
  obtain ⟨⟨h1, h2⟩, h3⟩ := h
  obtain ⟨k1, k2⟩ := He5.wrapB_ok h3
  exact ⟨He.eqO_ok h1, h2, k1, k2⟩
def bKit (t u : PySem.W.Frag → Value) (b : Bool) : FaB := fun K => decide (PySem.W.kitOne K (t K) (u K) = some b)
theorem bKit_ok {t u : PySem.W.Frag → Value} {b : Bool} {K : PySem.W.Frag} (h : bKit t u b K = true) : PySem.W.kitOne K (t K) (u K) = some b := of_decide_eq_true h
/-- isinstance(x, T), T built-in: Ts of the built-in ones are it; none of our own classes -/
def tbT (Ts : List String) : Kd → Option Bool
  | .b T => some (Ts.contains T)
  | .o c => some false
/-- isinstance(x, C), C the class c of ours -/
def tbC (c : Nat) : Kd → Option Bool
  | .b _ => some false
  | .o d => some (d == c)
def tyNames : List String := ["NoneType", "bool", "int", "str", "tuple", "list", "dict"]
def tbL (cs : List Nat) (tb : Kd → Option Bool) : Kd → Option Bool
  | .b T => if tyNames.contains T then tb (.b T) else none
  | .o c => if cs.contains c then tb (.o c) else none
/-- the facts that a table leans on -/
def bTb (ca : Nat → PySem.W.Frag → Addr) (cs : List Nat) (u : PySem.W.Frag → Value) (tb : Kd → Option Bool) : FaB := fun K => (tyNames.all fun T => decide (PySem.W.kitOne K (.type T) (u K) = tb (.b T))) && cs.all fun c => decide (PySem.W.kitOne K (.ref (ca c K)) (u K) = tb (.o c))
theorem bTb_ok {ca : Nat → PySem.W.Frag → Addr} {cs : List Nat} {u : PySem.W.Frag → Value} {tb : Kd → Option Bool} {K : PySem.W.Frag} (h : bTb ca cs u tb K = true) (ho : ∀ c ∈ cs, Ocl K (ca c K)) : KdF K (fun c => ca c K) (u K) (tbL cs tb) := by
  unfold bTb at h
  obtain ⟨h1, h2⟩ := Bool.and_eq_true_iff.mp h
  refine ⟨fun T r e => ?_, fun c r e => ?_⟩
  · unfold tbL at e
    by_cases hT : tyNames.contains T = true
    · simp only [hT, if_true] at e
      rw [← e]
      exact of_decide_eq_true (List.all_eq_true.mp h1 T (List.contains_iff_mem.mp hT))
    · simp only [hT] at e
      cases e
  · unfold tbL at e
    by_cases hc : cs.contains c = true
    · simp only [hc, if_true] at e
      have hm := List.contains_iff_mem.mp hc
      refine ⟨(ho c hm).sc, (ho c hm).si, ?_⟩
      rw [← e]
      exact of_decide_eq_true (List.all_eq_true.mp h2 c hm)
    · simp only [hc] at e
      cases e
end FX

set_option Elab.async false
set_option linter.all false
set_option maxRecDepth 100000
set_option maxHeartbeats 2000000
namespace FX
open PySem PySem.Spec PyProof.Rows L2 SlX
def mh0 : MH := ⟨0, .lf⟩
/-- what a law's def asks of its caller -/
def spL (K : PySem.W.Frag) (ca : Ca) (n : Nat) (g : SF) (len : Nat) : Sp := fun vs H Q E => vs.length = len ∧ ∃ ν h xs, Ab K ca ν h H ∧ RepL K ν H xs vs ∧ Post K ca W0 [] ν H (runB n g xs h) fun ν' H' _ x => ∀ v, Rep K ν' H' x v → Q v H'
section
variable {P : Program} {w : World} {K : PySem.W.Frag} {mg : Str → Option Value} {base : Heap} {ca : Ca}
theorem fnOk_of {name qual : Str} {params : Arguments} {body : List Stmt} {scope : Scope} {dvs : List V} {kws : List (Str × V)} {f : Addr} {fd : FuncData} {N ps : List Str} {k : Nat} {g : SF}
    (Fd : FunD K name qual params body scope dvs kws f fd) (S : FnScope N ps scope)
    (hb : ∀ (cdv : Value) (A : Around) (outer : List PySem.Env) (s : Shared) (H : Hp) (E : XK), Room k (A.deeper (envOfC qual scope s.heap.objs.size f cdv)) → Takes (cxOf (L2.CX P w) P w K mg base N qual scope f cdv A outer s H E) (fun c d _ H => E c d H) →
      PassesOwn (model P w) (A.deeper (envOfC qual scope s.heap.objs.size f cdv)) (envOfC qual scope s.heap.objs.size f cdv) (cxOf (L2.CX P w) P w K mg base N qual scope f cdv A outer s H E).xe →
      PXSs (cxOf (L2.CX P w) P w K mg base N qual scope f cdv A outer s H E) ca (fun c d _ H => E c d H) body g) : FnOk P w K mg base CX0 (k + 1) f fd ps (spL K ca N.length g ps.length) := by
  have ok : FnOk P w K mg base (L2.CX P w) (k + 1) f fd ps (spL K ca N.length g ps.length) := by
    refine Fd.ok S (fun vs H Q E h => h.1) fun cdv A outer s H vs Q E hr h => ?_
    obtain ⟨hl, ν, hp, xs, A1, r, p⟩ := h
    have p' : Post K ca (fun c d _ H => E c d H) [] ν H (runB N.length g xs hp) fun ν' H' _ x => ∀ v, Rep K ν' H' x v → Q v H' := p.sig fun _ _ _ z => z.elim
    exact ⟨_, hb cdv A outer s H E hr (takes_of rfl rfl rfl rfl) (passes_of (X := cxOf (L2.CX P w) P w K mg base N qual scope f cdv A outer s H E) rfl), body_read A1 r p' rfl⟩
  refine ⟨ok.len, fun A outer s H args us vs Q E hr e0 b r h => codeAny_mono (ok.run A outer s H args us vs Q (fun _ _ _ => False) hr e0 b r h) fun r s' z => ?_⟩
  cases r with
  | error e => exact (cx_false z).elim
  | ok fl => cases fl <;> exact z
/-- the plain law is enough -/
theorem sp_law {n : Nat} {g : SF} (law : ∀ (a : Addr) (ns : List Int), ns.length ≤ 63 → ∃ h', runB n g [.kl a (ns.map PV.int)] mh0 = .ok (.bl true) h') (H : Hp) (a : Addr) (ns : List Int) (hl : ns.length ≤ 63) (hO : Only H) (hS : SqL K H a (ns.map V.int)) :
    spL K ca n g 1 [.ref a] H (fun v _ => v = .bl true) fun _ _ _ => False := by
  have sq : SqC K H a (ns.map V.int) := by
    rcases hS with (hS | ⟨o, hS⟩) | hS
    · rcases hO a with e | ⟨o, xs, e⟩
      · rw [e] at hS; cases hS
      · rw [e] at hS; cases hS
    · exact .inl ⟨o, hS⟩
    · exact .inr hS
  refine ⟨rfl, fun _ => [], mh0, [.kl a (ns.map PV.int)], ⟨fun _ _ => rfl, fun m o e => ?_, fun m k b h => (by cases h)⟩, .cons (.kl sq .ints) .nil, ?_⟩
  · unfold MH.get mh0 at e
    rw [if_neg (Nat.not_lt_zero _)] at e
    cases e
  · obtain ⟨h', e⟩ := law a ns hl
    rw [e]
    intro ν' H' _ _ v rv
    cases rv; rfl
end
end FX

set_option Elab.async false
set_option linter.all false
set_option maxRecDepth 100000
set_option maxHeartbeats 4000000
namespace FX
open PySem PySem.Spec PyProof.Rows L2 SlX
def top (i : Nat) : Stmt := PySem.Challenge.pw_landingwires_k03_whole_standings_least_a.main.body.getD i (.Pass ⟨0, 0, 0, 0⟩)
abbrev a_Standing (K : PySem.W.Frag) : Addr := He.ga K "Standing"
def cA : Nat → PySem.W.Frag → Addr
  | 0 => a_Standing
  | _ => fun _ => 0
abbrev cas (K : PySem.W.Frag) : Ca := fun c => cA c K
abbrev t__law_all_marks : Stmt := top 23
abbrev a__law_all_marks (K : PySem.W.Frag) : Addr := (He.ga K "_law_all_marks")
abbrev t_is_tuple : Stmt := top 9
abbrev a_is_tuple (K : PySem.W.Frag) : Addr := (He.ga K "is_tuple")
abbrev t_is_integer : Stmt := top 8
abbrev a_is_integer (K : PySem.W.Frag) : Addr := (He.ga K "is_integer")
abbrev t_are_marks : Stmt := top 16
abbrev a_are_marks (K : PySem.W.Frag) : Addr := (He.ga K "are_marks")
abbrev t_Standing___init__ : Stmt := inClass (top 17) 1
abbrev a_Standing___init__ (K : PySem.W.Frag) : Addr := (He.ma K (a_Standing K) "__init__")
abbrev t_Standing_wires : Stmt := inClass (top 17) 4
abbrev a_Standing_wires (K : PySem.W.Frag) : Addr := (pgA K (a_Standing K) "wires")
abbrev t_Standing_check : Stmt := inClass (top 17) 7
abbrev a_Standing_check (K : PySem.W.Frag) : Addr := (He.ma K (a_Standing K) "check")
abbrev t_marks_by : Stmt := top 15
abbrev a_marks_by (K : PySem.W.Frag) : Addr := (He.ga K "marks_by")
abbrev t_Standing___and__ : Stmt := inClass (top 17) 11
abbrev a_Standing___and__ (K : PySem.W.Frag) : Addr := (He.ma K (a_Standing K) "__and__")
abbrev t_root_of : Stmt := top 13
abbrev a_root_of (K : PySem.W.Frag) : Addr := (He.ga K "root_of")
abbrev t_grouped : Stmt := top 14
abbrev a_grouped (K : PySem.W.Frag) : Addr := (He.ga K "grouped")
abbrev t_Standing_pairs : Stmt := inClass (top 17) 6
abbrev a_Standing_pairs (K : PySem.W.Frag) : Addr := (pgA K (a_Standing K) "pairs")
abbrev t_Standing___or__ : Stmt := inClass (top 17) 10
abbrev a_Standing___or__ (K : PySem.W.Frag) : Addr := (He.ma K (a_Standing K) "__or__")
abbrev t_Standing___contains__ : Stmt := inClass (top 17) 8
abbrev a_Standing___contains__ (K : PySem.W.Frag) : Addr := (He.ma K (a_Standing K) "__contains__")
abbrev t_Standing_within : Stmt := inClass (top 17) 12
abbrev a_Standing_within (K : PySem.W.Frag) : Addr := (He.ma K (a_Standing K) "within")
abbrev t_Standing___eq__ : Stmt := inClass (top 17) 13
abbrev a_Standing___eq__ (K : PySem.W.Frag) : Addr := (He.ma K (a_Standing K) "__eq__")
abbrev t__law_are_bounds_right : Stmt := top 25
abbrev a__law_are_bounds_right (K : PySem.W.Frag) : Addr := (He.ga K "_law_are_bounds_right")
abbrev t__law_cells : Stmt := top 22
abbrev a__law_cells (K : PySem.W.Frag) : Addr := (He.ga K "_law_cells")
abbrev t__law_pot : Stmt := top 19
abbrev a__law_pot (K : PySem.W.Frag) : Addr := (He.ga K "_law_pot")
abbrev t__law_take : Stmt := top 20
abbrev a__law_take (K : PySem.W.Frag) : Addr := (He.ga K "_law_take")
abbrev t__law_of : Stmt := top 21
abbrev a__law_of (K : PySem.W.Frag) : Addr := (He.ga K "_law_of")
abbrev t__law_drawn_marks : Stmt := top 24
abbrev a__law_drawn_marks (K : PySem.W.Frag) : Addr := (He.ga K "_law_drawn_marks")
abbrev t_Standing_bare : Stmt := inClass (top 17) 2
abbrev a_Standing_bare (K : PySem.W.Frag) : Addr := (He5.wf K (a_Standing K) "staticmethod" "bare")
abbrev t__law_right : Stmt := top 26
abbrev a__law_right (K : PySem.W.Frag) : Addr := (He.ga K "_law_right")
abbrev t_law : Stmt := top 27
abbrev a_law (K : PySem.W.Frag) : Addr := (He.ga K "law")
def ti_tuple : Kd → Option Bool := tbL [0] (tbT ["tuple"])
def ti_int : Kd → Option Bool := tbL [0] (tbT ["int", "bool"])
def ti_bool : Kd → Option Bool := tbL [0] (tbT ["bool"])
def ti_Standing : Kd → Option Bool := tbL [0] (tbC 0)
theorem bo_tuple : bootBuiltins "tuple" = some (.type "tuple") := by decide +kernel
theorem bo_len : bootBuiltins "len" = some (.builtin "len") := by decide +kernel
theorem bo_all : bootBuiltins "all" = some (.builtin "all") := by decide +kernel
theorem bo_int : bootBuiltins "int" = some (.type "int") := by decide +kernel
theorem bo_bool : bootBuiltins "bool" = some (.type "bool") := by decide +kernel
theorem bo_list : bootBuiltins "list" = some (.type "list") := by decide +kernel
theorem bo_dict : bootBuiltins "dict" = some (.type "dict") := by decide +kernel
theorem bo_max : bootBuiltins "max" = some (.builtin "max") := by decide +kernel
theorem bo_min : bootBuiltins "min" = some (.builtin "min") := by decide +kernel
theorem bo_abs : bootBuiltins "abs" = some (.builtin "abs") := by decide +kernel
structure Wd (K : PySem.W.Frag) (mg : Str → Option Value) : Prop where
  d__law_all_marks : ∃ fd, FunD K "_law_all_marks" "_law_all_marks" (defArgs t__law_all_marks) (defBody t__law_all_marks) (defScope t__law_all_marks) [] [] (a__law_all_marks K) fd
  d_is_tuple : ∃ fd, FunD K "is_tuple" "is_tuple" (defArgs t_is_tuple) (defBody t_is_tuple) (defScope t_is_tuple) [.non] [] (a_is_tuple K) fd
  d_is_integer : ∃ fd, FunD K "is_integer" "is_integer" (defArgs t_is_integer) (defBody t_is_integer) (defScope t_is_integer) [.non, .non] [] (a_is_integer K) fd
  d_are_marks : ∃ fd, FunD K "are_marks" "are_marks" (defArgs t_are_marks) (defBody t_are_marks) (defScope t_are_marks) [] [] (a_are_marks K) fd
  d_Standing___init__ : ∃ fd, FunD K "__init__" "Standing.__init__" (defArgs t_Standing___init__) (defBody t_Standing___init__) (defScope t_Standing___init__) [] [] (a_Standing___init__ K) fd
  d_Standing_wires : ∃ fd, FunD K "wires" "Standing.wires" (defArgs t_Standing_wires) (defBody t_Standing_wires) (defScope t_Standing_wires) [] [] (a_Standing_wires K) fd
  d_Standing_check : ∃ fd, FunD K "check" "Standing.check" (defArgs t_Standing_check) (defBody t_Standing_check) (defScope t_Standing_check) [] [] (a_Standing_check K) fd
  d_marks_by : ∃ fd, FunD K "marks_by" "marks_by" (defArgs t_marks_by) (defBody t_marks_by) (defScope t_marks_by) [] [] (a_marks_by K) fd
  d_Standing___and__ : ∃ fd, FunD K "__and__" "Standing.__and__" (defArgs t_Standing___and__) (defBody t_Standing___and__) (defScope t_Standing___and__) [] [] (a_Standing___and__ K) fd
  d_root_of : ∃ fd, FunD K "root_of" "root_of" (defArgs t_root_of) (defBody t_root_of) (defScope t_root_of) [] [] (a_root_of K) fd
  d_grouped : ∃ fd, FunD K "grouped" "grouped" (defArgs t_grouped) (defBody t_grouped) (defScope t_grouped) [] [] (a_grouped K) fd
  d_Standing_pairs : ∃ fd, FunD K "pairs" "Standing.pairs" (defArgs t_Standing_pairs) (defBody t_Standing_pairs) (defScope t_Standing_pairs) [] [] (a_Standing_pairs K) fd
  d_Standing___or__ : ∃ fd, FunD K "__or__" "Standing.__or__" (defArgs t_Standing___or__) (defBody t_Standing___or__) (defScope t_Standing___or__) [] [] (a_Standing___or__ K) fd
  d_Standing___contains__ : ∃ fd, FunD K "__contains__" "Standing.__contains__" (defArgs t_Standing___contains__) (defBody t_Standing___contains__) (defScope t_Standing___contains__) [] [] (a_Standing___contains__ K) fd
  d_Standing_within : ∃ fd, FunD K "within" "Standing.within" (defArgs t_Standing_within) (defBody t_Standing_within) (defScope t_Standing_within) [] [] (a_Standing_within K) fd
  d_Standing___eq__ : ∃ fd, FunD K "__eq__" "Standing.__eq__" (defArgs t_Standing___eq__) (defBody t_Standing___eq__) (defScope t_Standing___eq__) [] [] (a_Standing___eq__ K) fd
  d__law_are_bounds_right : ∃ fd, FunD K "_law_are_bounds_right" "_law_are_bounds_right" (defArgs t__law_are_bounds_right) (defBody t__law_are_bounds_right) (defScope t__law_are_bounds_right) [] [] (a__law_are_bounds_right K) fd
  d__law_cells : ∃ fd, FunD K "_law_cells" "_law_cells" (defArgs t__law_cells) (defBody t__law_cells) (defScope t__law_cells) [] [] (a__law_cells K) fd
  d__law_pot : ∃ fd, FunD K "_law_pot" "_law_pot" (defArgs t__law_pot) (defBody t__law_pot) (defScope t__law_pot) [] [] (a__law_pot K) fd
  d__law_take : ∃ fd, FunD K "_law_take" "_law_take" (defArgs t__law_take) (defBody t__law_take) (defScope t__law_take) [] [] (a__law_take K) fd
  d__law_of : ∃ fd, FunD K "_law_of" "_law_of" (defArgs t__law_of) (defBody t__law_of) (defScope t__law_of) [] [] (a__law_of K) fd
  d__law_drawn_marks : ∃ fd, FunD K "_law_drawn_marks" "_law_drawn_marks" (defArgs t__law_drawn_marks) (defBody t__law_drawn_marks) (defScope t__law_drawn_marks) [] [] (a__law_drawn_marks K) fd
  d_Standing_bare : ∃ fd, FunD K "bare" "Standing.bare" (defArgs t_Standing_bare) (defBody t_Standing_bare) (defScope t_Standing_bare) [] [] (a_Standing_bare K) fd
  d__law_right : ∃ fd, FunD K "_law_right" "_law_right" (defArgs t__law_right) (defBody t__law_right) (defScope t__law_right) [] [] (a__law_right K) fd
  d_law : ∃ fd, FunD K "law" "law" (defArgs t_law) (defBody t_law) (defScope t_law) [] [] (a_law K) fd
  g__law_all_marks : mg "_law_all_marks" = some (.ref (a__law_all_marks K))
  g_is_tuple : mg "is_tuple" = some (.ref (a_is_tuple K))
  g_is_integer : mg "is_integer" = some (.ref (a_is_integer K))
  g_are_marks : mg "are_marks" = some (.ref (a_are_marks K))
  g_Standing : mg "Standing" = some (.ref (a_Standing K))
  g_marks_by : mg "marks_by" = some (.ref (a_marks_by K))
  g_root_of : mg "root_of" = some (.ref (a_root_of K))
  g_grouped : mg "grouped" = some (.ref (a_grouped K))
  g__law_are_bounds_right : mg "_law_are_bounds_right" = some (.ref (a__law_are_bounds_right K))
  g__law_cells : mg "_law_cells" = some (.ref (a__law_cells K))
  g__law_pot : mg "_law_pot" = some (.ref (a__law_pot K))
  g__law_take : mg "_law_take" = some (.ref (a__law_take K))
  g__law_of : mg "_law_of" = some (.ref (a__law_of K))
  g__law_drawn_marks : mg "_law_drawn_marks" = some (.ref (a__law_drawn_marks K))
  g__law_right : mg "_law_right" = some (.ref (a__law_right K))
  b_range : mg "range" = none
  b_sorted : mg "sorted" = none
  b_set : mg "set" = none
  b_isinstance : mg "isinstance" = none
  b_tuple : mg "tuple" = none
  b_len : mg "len" = none
  b_all : mg "all" = none
  b_enumerate : mg "enumerate" = none
  b_int : mg "int" = none
  b_bool : mg "bool" = none
  b_list : mg "list" = none
  b_zip : mg "zip" = none
  b_dict : mg "dict" = none
  b_max : mg "max" = none
  b_min : mg "min" = none
  b_abs : mg "abs" = none
  c_MOST_WIRES : ∃ t, mg "MOST_WIRES" = some (.int 4 t)
  c_SUPPLY : ∃ t, mg "SUPPLY" = some (.int 2 t)
  c_PAIR : ∃ t, mg "PAIR" = some (.int 2 t)
  o_Standing : Ocl K (cas K 0)
  s_Standing_own_marks : Slot1 K (cas K 0) "own_marks" (He.ma K (a_Standing K) "own_marks") 0
  p_Standing_wires : PrS K (cas K 0) "wires" (He.ma K (a_Standing K) "wires") (a_Standing_wires K)
  p_Standing_pairs : PrS K (cas K 0) "pairs" (He.ma K (a_Standing K) "pairs") (a_Standing_pairs K)
  op_Standing___and__ : OpA K (cas K 0) (a_Standing___and__ K) "__and__"
  op_Standing___or__ : OpA K (cas K 0) (a_Standing___or__ K) "__or__"
  op_Standing___contains__ : OpA K (cas K 0) (a_Standing___contains__ K) "__contains__"
  op_Standing___eq__ : OpA K (cas K 0) (a_Standing___eq__ K) "__eq__"
  m_Standing_check : Meth K (cas K 0) "check" (a_Standing_check K)
  m_Standing_within : Meth K (cas K 0) "within" (a_Standing_within K)
  st_Standing_bare : StA K (a_Standing K) (He.ma K (a_Standing K) "bare") (a_Standing_bare K) "bare"
  mk_Standing : Mk K (cas K 0) (a_Standing___init__ K)
  i_tuple : KdF K (cas K) (.type "tuple") ti_tuple
  i_int : KdF K (cas K) (.type "int") ti_int
  i_bool : KdF K (cas K) (.type "bool") ti_bool
  i_Standing : KdF K (cas K) (.ref (a_Standing K)) ti_Standing
def N__law_all_marks : List Str := ["_law_count", "_law_found", "_law_number", "_law_longer", "_law_some", "_law_mark"]
theorem sc__law_all_marks : FnScope N__law_all_marks ["_law_count"] (defScope t__law_all_marks) := ⟨rfl, rfl, rfl, by decide +kernel, rfl, by decide +kernel, by decide +kernel⟩
def N_is_tuple : List Str := ["value", "least", "most"]
theorem sc_is_tuple : FnScope N_is_tuple ["value", "least", "most"] (defScope t_is_tuple) := ⟨rfl, rfl, rfl, by decide +kernel, rfl, by decide +kernel, by decide +kernel⟩
def N_is_integer : List Str := ["value", "low", "high"]
theorem sc_is_integer : FnScope N_is_integer ["value", "low", "high"] (defScope t_is_integer) := ⟨rfl, rfl, rfl, by decide +kernel, rfl, by decide +kernel, by decide +kernel⟩
def N_are_marks : List Str := ["value", "number", "mark"]
theorem sc_are_marks : FnScope N_are_marks ["value"] (defScope t_are_marks) := ⟨rfl, rfl, rfl, by decide +kernel, rfl, by decide +kernel, by decide +kernel⟩
def N_Standing___init__ : List Str := ["self", "marks"]
theorem sc_Standing___init__ : FnScope N_Standing___init__ ["self", "marks"] (defScope t_Standing___init__) := ⟨rfl, rfl, rfl, by decide +kernel, rfl, by decide +kernel, by decide +kernel⟩
def N_Standing_wires : List Str := ["self"]
theorem sc_Standing_wires : FnScope N_Standing_wires ["self"] (defScope t_Standing_wires) := ⟨rfl, rfl, rfl, by decide +kernel, rfl, by decide +kernel, by decide +kernel⟩
def N_Standing_check : List Str := ["self", "other"]
theorem sc_Standing_check : FnScope N_Standing_check ["self", "other"] (defScope t_Standing_check) := ⟨rfl, rfl, rfl, by decide +kernel, rfl, by decide +kernel, by decide +kernel⟩
def N_marks_byT : List Str := ["roots", "things", "marks", "number", "thing"]
theorem sc_marks_byT : FnScope N_marks_byT ["roots", "things"] (defScope t_marks_by) := ⟨rfl, rfl, rfl, by decide +kernel, rfl, by decide +kernel, by decide +kernel⟩
def N_Standing___and__ : List Str := ["self", "other", "both"]
theorem sc_Standing___and__ : FnScope N_Standing___and__ ["self", "other"] (defScope t_Standing___and__) := ⟨rfl, rfl, rfl, by decide +kernel, rfl, by decide +kernel, by decide +kernel⟩
def N_marks_byK : List Str := ["roots", "things", "marks", "number", "thing"]
theorem sc_marks_byK : FnScope N_marks_byK ["roots", "things"] (defScope t_marks_by) := ⟨rfl, rfl, rfl, by decide +kernel, rfl, by decide +kernel, by decide +kernel⟩
def N_root_of : List Str := ["above", "thing"]
theorem sc_root_of : FnScope N_root_of ["above", "thing"] (defScope t_root_of) := ⟨rfl, rfl, rfl, by decide +kernel, rfl, by decide +kernel, by decide +kernel⟩
def N_grouped : List Str := ["things", "pairs", "above", "thing", "one", "other"]
theorem sc_grouped : FnScope N_grouped ["things", "pairs"] (defScope t_grouped) := ⟨rfl, rfl, rfl, by decide +kernel, rfl, by decide +kernel, by decide +kernel⟩
def N_Standing_pairs : List Str := ["self", "number", "mark"]
theorem sc_Standing_pairs : FnScope N_Standing_pairs ["self"] (defScope t_Standing_pairs) := ⟨rfl, rfl, rfl, by decide +kernel, rfl, by decide +kernel, by decide +kernel⟩
def N_Standing___or__ : List Str := ["self", "other", "things"]
theorem sc_Standing___or__ : FnScope N_Standing___or__ ["self", "other"] (defScope t_Standing___or__) := ⟨rfl, rfl, rfl, by decide +kernel, rfl, by decide +kernel, by decide +kernel⟩
def N_Standing___contains__ : List Str := ["self", "value", "thing"]
theorem sc_Standing___contains__ : FnScope N_Standing___contains__ ["self", "value"] (defScope t_Standing___contains__) := ⟨rfl, rfl, rfl, by decide +kernel, rfl, by decide +kernel, by decide +kernel⟩
def N_Standing_within : List Str := ["self", "other", "pair"]
theorem sc_Standing_within : FnScope N_Standing_within ["self", "other"] (defScope t_Standing_within) := ⟨rfl, rfl, rfl, by decide +kernel, rfl, by decide +kernel, by decide +kernel⟩
def N_Standing___eq__ : List Str := ["self", "other"]
theorem sc_Standing___eq__ : FnScope N_Standing___eq__ ["self", "other"] (defScope t_Standing___eq__) := ⟨rfl, rfl, rfl, by decide +kernel, rfl, by decide +kernel, by decide +kernel⟩
def N__law_are_bounds_right : List Str := ["_law_one", "_law_other", "_law_third", "_law_both", "_law_common"]
theorem sc__law_are_bounds_right : FnScope N__law_are_bounds_right ["_law_one", "_law_other", "_law_third"] (defScope t__law_are_bounds_right) := ⟨rfl, rfl, rfl, by decide +kernel, rfl, by decide +kernel, by decide +kernel⟩
def N__law_cells : List Str := ["_law_script", "_law_limit"]
theorem sc__law_cells : FnScope N__law_cells ["_law_script", "_law_limit"] (defScope t__law_cells) := ⟨rfl, rfl, rfl, by decide +kernel, rfl, by decide +kernel, by decide +kernel⟩
def N__law_pot : List Str := ["_law_script", "_law_place", "_law_cell", "_law_own", "_law_small"]
theorem sc__law_pot : FnScope N__law_pot ["_law_script", "_law_place"] (defScope t__law_pot) := ⟨rfl, rfl, rfl, by decide +kernel, rfl, by decide +kernel, by decide +kernel⟩
def N__law_take : List Str := ["_law_pot_here", "_law_upto", "_law_digit", "_law_prime", "_law_mixed"]
theorem sc__law_take : FnScope N__law_take ["_law_pot_here", "_law_upto"] (defScope t__law_take) := ⟨rfl, rfl, rfl, by decide +kernel, rfl, by decide +kernel, by decide +kernel⟩
def N__law_of : List Str := ["_law_pot_here", "_law_some"]
theorem sc__law_of : FnScope N__law_of ["_law_pot_here", "_law_some"] (defScope t__law_of) := ⟨rfl, rfl, rfl, by decide +kernel, rfl, by decide +kernel, by decide +kernel⟩
def N__law_drawn_marks : List Str := ["_law_pot_here", "_law_count", "_law_found", "_law_number"]
theorem sc__law_drawn_marks : FnScope N__law_drawn_marks ["_law_pot_here", "_law_count"] (defScope t__law_drawn_marks) := ⟨rfl, rfl, rfl, by decide +kernel, rfl, by decide +kernel, by decide +kernel⟩
def N_Standing_bare : List Str := ["wires"]
theorem sc_Standing_bare : FnScope N_Standing_bare ["wires"] (defScope t_Standing_bare) := ⟨rfl, rfl, rfl, by decide +kernel, rfl, by decide +kernel, by decide +kernel⟩
def N__law_right : List Str := ["_law_pot_here", "_law_count", "_law_some", "_law_lap", "_law_bare", "_law_at"]
theorem sc__law_right : FnScope N__law_right ["_law_pot_here"] (defScope t__law_right) := ⟨rfl, rfl, rfl, by decide +kernel, rfl, by decide +kernel, by decide +kernel⟩
def N_law : List Str := ["_law_script", "_law_every", "_law_marks", "_law_one", "_law_other", "_law_third", "_law_place", "_law_pot_here", "_law_lap"]
theorem sc_law : FnScope N_law ["_law_script"] (defScope t_law) := ⟨rfl, rfl, rfl, by decide +kernel, rfl, by decide +kernel, by decide +kernel⟩
def s__law_all_marks : SF := sSeq (sAsg (eLst (aCons (eTup (aNil)) (aNil))) (gSet 1)) (sSeq (sFor (iRg1 (eVar 0)) (gSet 2) (sSeq (sAsg (eLst (aNil)) (gSet 3)) (sSeq (sFor (iSeq (eVar 1)) (gSet 4) (sSeq (sExp (eBm ckLst mExt (eVar 3) (aCons (eLc (iSeq (eUn pSS (eVar 4))) [5] (gSet 5) (tYes) (eOp pAdd (eVar 4) (eTup (aCons (eVar 5) (aNil))))) (aNil)))) (sExp (eBm ckLst mApp (eVar 3) (aCons (eOp pAdd (eVar 4) (eTup (aCons (eVar 2) (aNil)))) (aNil)))))) (sAsg (eVar 3) (gSet 1))))) (sRet (eVar 1)))
def F__law_all_marks : FF := defB 6 1 [] s__law_all_marks
def s_is_tuple : SF := sSeq (sIf (tOo (tNo (tOf (eUn (isiT ti_tuple) (eVar 0)))) (tCm pLt (eApp pLen (aCons (eVar 0) (aNil))) (eVar 1))) (sRet (eC (.bl false))) (sPass)) (sRet (eOo (eOp pIsN (eVar 2) (eC .non)) (eOp pLe (eApp pLen (aCons (eVar 0) (aNil))) (eVar 2))))
def F_is_tuple : FF := defB 3 3 [] s_is_tuple
def s_is_integer : SF := sSeq (sIf (tOo (tNo (tOf (eUn (isiT ti_int) (eVar 0)))) (tOf (eUn (isiT ti_bool) (eVar 0)))) (sRet (eC (.bl false))) (sPass)) (sRet (eAn (eOo (eOp pIsN (eVar 1) (eC .non)) (eOp pLe (eVar 1) (eVar 0))) (eOo (eOp pIsN (eVar 2) (eC .non)) (eOp pLe (eVar 0) (eVar 2)))))
def F_is_integer : FF := defB 3 3 [] s_is_integer
def s_are_marks : SF := sSeq (sIf (tNo (tOf (eApp F_is_tuple (aCons (eVar 0) (aCons (eOp pAdd (eC (.int 1)) (eC (.int 2))) (aCons (eOp pAdd (eC (.int 4)) (eC (.int 2))) (aNil))))))) (sRet (eC (.bl false))) (sPass)) (sSeq (sIf (tNo (tOf (eApp pAll (aCons (eLc (iEnu (eVar 0)) [1, 2] (gTupl 2 [gSet 1, gSet 2]) (tYes) (eApp F_is_integer (aCons (eVar 2) (aCons (eC (.int 0)) (aCons (eVar 1) (aNil)))))) (aNil))))) (sRet (eC (.bl false))) (sPass)) (sRet (eApp pAll (aCons (eLc (iSeq (eVar 0)) [2] (gSet 2) (tYes) (eOp pEq (eOp pIx (eVar 0) (eVar 2)) (eVar 2))) (aNil)))))
def F_are_marks : FF := defB 3 1 [] s_are_marks
def s_Standing___init__ : SF := sSeq (sIf (tNo (tOf (eApp F_are_marks (aCons (eVar 1) (aNil))))) (sNev) (sPass)) (sFld 0 0 (eVar 0) (eVar 1))
def F_Standing___init__ : FF := defB 2 2 [] s_Standing___init__
def s_Standing_wires : SF := sRet (eOp pSub (eApp pLen (aCons (eUn (atSl 0 0) (eVar 0)) (aNil))) (eC (.int 2)))
def F_Standing_wires : FF := defB 1 1 [] s_Standing_wires
def s_Standing_check : SF := sIf (tCm pNe (eUn (atPr 0 F_Standing_wires) (eVar 0)) (eUn (atPr 0 F_Standing_wires) (eVar 1))) (sNev) (sPass)
def F_Standing_check : FF := defB 2 2 [] s_Standing_check
def s_marks_byT : SF := sSeq (sAsg (eDNew true) (gSet 2)) (sSeq (sFor (iEnu (eVar 1)) (gTupl 2 [gSet 3, gSet 4]) (sExp (eBm ckDct pDSetd (eVar 2) (aCons (eOp pIx (eVar 0) (eVar 4)) (aCons (eVar 3) (aNil)))))) (sRet (eApp pTuple (aCons (eLc (iSeq (eVar 1)) [4] (gSet 4) (tYes) (eOp pDGet (eVar 2) (eOp pIx (eVar 0) (eVar 4)))) (aNil)))))
def F_marks_byT : FF := defB 5 2 [] s_marks_byT
def s_Standing___and__ : SF := sSeq (sIf (tNo (tOf (eUn (isiT ti_Standing) (eVar 1)))) (sNev) (sPass)) (sSeq (sExp (eMet 0 F_Standing_check (eVar 0) (aCons (eVar 1) (aNil)))) (sSeq (sAsg (eOp pLz (eUn (atSl 0 0) (eVar 0)) (eUn (atSl 0 0) (eVar 1))) (gSet 2)) (sRet (eApp (mMake 0 F_Standing___init__) (aCons (eApp F_marks_byT (aCons (eVar 2) (aCons (eLrg (eApp pLen (aCons (eVar 2) (aNil)))) (aNil)))) (aNil))))))
def F_Standing___and__ : FF := defB 3 2 [] s_Standing___and__
def s_marks_byK : SF := sSeq (sAsg (eDNew false) (gSet 2)) (sSeq (sFor (iEnu (eVar 1)) (gTupl 2 [gSet 3, gSet 4]) (sExp (eBm ckDct pDSetd (eVar 2) (aCons (eOp pDGet (eVar 0) (eVar 4)) (aCons (eVar 3) (aNil)))))) (sRet (eApp pTuple (aCons (eLc (iSeq (eVar 1)) [4] (gSet 4) (tYes) (eOp pDGet (eVar 2) (eOp pDGet (eVar 0) (eVar 4)))) (aNil)))))
def F_marks_byK : FF := defB 5 2 [] s_marks_byK
def s_root_of : SF := sSeq (sWh (tCm pNe (eOp pDGet (eVar 0) (eVar 1)) (eVar 1)) (sAsg (eOp pDGet (eVar 0) (eVar 1)) (gSet 1))) (sRet (eVar 1))
def F_root_of : FF := defB 2 2 [] s_root_of
def s_grouped : SF := sSeq (sAsg (eApp pDictP (aCons (eLc (iSeq (eVar 0)) [3] (gSet 3) (tYes) (eTup (aCons (eVar 3) (aCons (eVar 3) (aNil))))) (aNil))) (gSet 2)) (sSeq (sFor (iSeq (eVar 1)) (gTupl 2 [gSet 4, gSet 5]) (sSub (eVar 2) (eApp F_root_of (aCons (eVar 2) (aCons (eVar 5) (aNil)))) (eApp F_root_of (aCons (eVar 2) (aCons (eVar 4) (aNil)))) stD)) (sRet (eDc (iSeq (eVar 0)) [3] (gSet 3) (tYes) (eVar 3) (eApp F_root_of (aCons (eVar 2) (aCons (eVar 3) (aNil)))))))
def F_grouped : FF := defB 6 2 [] s_grouped
def s_Standing_pairs : SF := sRet (eLc (iEnu (eUn (atSl 0 0) (eVar 0))) [1, 2] (gTupl 2 [gSet 1, gSet 2]) (tCm pLt (eVar 2) (eVar 1)) (eTup (aCons (eVar 2) (aCons (eVar 1) (aNil)))))
def F_Standing_pairs : FF := defB 3 1 [] s_Standing_pairs
def s_Standing___or__ : SF := sSeq (sIf (tNo (tOf (eUn (isiT ti_Standing) (eVar 1)))) (sNev) (sPass)) (sSeq (sExp (eMet 0 F_Standing_check (eVar 0) (aCons (eVar 1) (aNil)))) (sSeq (sAsg (eLrg (eApp pLen (aCons (eUn (atSl 0 0) (eVar 0)) (aNil)))) (gSet 2)) (sRet (eApp (mMake 0 F_Standing___init__) (aCons (eApp F_marks_byK (aCons (eApp F_grouped (aCons (eVar 2) (aCons (eLst (aStar (eUn (atPr 0 F_Standing_pairs) (eVar 0)) (aStar (eUn (atPr 0 F_Standing_pairs) (eVar 1)) (aNil)))) (aNil)))) (aCons (eVar 2) (aNil)))) (aNil))))))
def F_Standing___or__ : FF := defB 3 2 [] s_Standing___or__
def s_Standing___contains__ : SF := sSeq (sIf (tNo (tOf (eApp F_is_tuple (aCons (eVar 1) (aCons (eC (.int 2)) (aCons (eC (.int 2)) (aNil))))))) (sRet (eC (.bl false))) (sPass)) (sSeq (sIf (tNo (tOf (eApp pAll (aCons (eLc (iSeq (eVar 1)) [2] (gSet 2) (tYes) (eApp F_is_integer (aCons (eVar 2) (aCons (eC (.int 0)) (aCons (eOp pSub (eApp pLen (aCons (eUn (atSl 0 0) (eVar 0)) (aNil))) (eC (.int 1))) (aNil)))))) (aNil))))) (sRet (eC (.bl false))) (sPass)) (sRet (eOp pEq (eOp pIx (eUn (atSl 0 0) (eVar 0)) (eOp pIx (eVar 1) (eC (.int 0)))) (eOp pIx (eUn (atSl 0 0) (eVar 0)) (eOp pIx (eVar 1) (eC (.int 1)))))))
def F_Standing___contains__ : FF := defB 3 2 [] s_Standing___contains__
def s_Standing_within : SF := sSeq (sExp (eMet 0 F_Standing_check (eVar 0) (aCons (eVar 1) (aNil)))) (sRet (eApp pAll (aCons (eLc (iSeq (eUn (atPr 0 F_Standing_pairs) (eVar 0))) [2] (gSet 2) (tYes) (eOp (mIn 0 F_Standing___contains__) (eVar 2) (eVar 1))) (aNil))))
def F_Standing_within : FF := defB 3 2 [] s_Standing_within
def s_Standing___eq__ : SF := sRet (eAn (eUn (isiT ti_Standing) (eVar 1)) (eOp pEq (eUn (atSl 0 0) (eVar 0)) (eUn (atSl 0 0) (eVar 1))))
def F_Standing___eq__ : FF := defB 2 2 [] s_Standing___eq__
def s__law_are_bounds_right : SF := sSeq (sPar 3 4 (aCons (eOp (mTwo 0 F_Standing___or__) (eVar 0) (eVar 1)) (aCons (eOp (mTwo 0 F_Standing___and__) (eVar 0) (eVar 1)) (aNil)))) (sSeq (sIf (tCm pNe (eAn (eMet 0 F_Standing_within (eVar 0) (aCons (eVar 2) (aNil))) (eMet 0 F_Standing_within (eVar 1) (aCons (eVar 2) (aNil)))) (eMet 0 F_Standing_within (eVar 3) (aCons (eVar 2) (aNil)))) (sRet (eC (.bl false))) (sPass)) (sSeq (sIf (tCm pNe (eAn (eMet 0 F_Standing_within (eVar 2) (aCons (eVar 0) (aNil))) (eMet 0 F_Standing_within (eVar 2) (aCons (eVar 1) (aNil)))) (eMet 0 F_Standing_within (eVar 2) (aCons (eVar 4) (aNil)))) (sRet (eC (.bl false))) (sPass)) (sSeq (sIf (tOo (tCm (mNeO 0 F_Standing___eq__) (eOp (mTwo 0 F_Standing___or__) (eOp (mTwo 0 F_Standing___or__) (eVar 0) (eVar 1)) (eVar 2)) (eOp (mTwo 0 F_Standing___or__) (eVar 0) (eOp (mTwo 0 F_Standing___or__) (eVar 1) (eVar 2)))) (tCm (mNeO 0 F_Standing___eq__) (eOp (mTwo 0 F_Standing___and__) (eOp (mTwo 0 F_Standing___and__) (eVar 0) (eVar 1)) (eVar 2)) (eOp (mTwo 0 F_Standing___and__) (eVar 0) (eOp (mTwo 0 F_Standing___and__) (eVar 1) (eVar 2))))) (sRet (eC (.bl false))) (sPass)) (sRet (eAn (eOp (mTwo 0 F_Standing___eq__) (eOp (mTwo 0 F_Standing___or__) (eVar 0) (eOp (mTwo 0 F_Standing___and__) (eVar 0) (eVar 1))) (eVar 0)) (eOp (mTwo 0 F_Standing___eq__) (eOp (mTwo 0 F_Standing___and__) (eVar 0) (eOp (mTwo 0 F_Standing___or__) (eVar 0) (eVar 1))) (eVar 0)))))))
def F__law_are_bounds_right : FF := defB 5 3 [] s__law_are_bounds_right
def s__law_cells : SF := sRet (eLrg (eApp pMax2 (aCons (eC (.int 1)) (aCons (eApp pMin2 (aCons (eVar 1) (aCons (eApp pLen (aCons (eVar 0) (aNil))) (aNil)))) (aNil)))))
def F__law_cells : FF := defB 2 2 [] s__law_cells
def s__law_pot : SF := sSeq (sAsg (eIf (tCm pLt (eVar 1) (eApp pLen (aCons (eVar 0) (aNil)))) (eOp pIx (eVar 0) (eVar 1)) (eOp pAdd (eOp pMul (eC (.int 173)) (eVar 1)) (eC (.int 83)))) (gSet 2)) (sSeq (sAsg (eOp pMul (eOp pMod (eApp pInt (aCons (eApp pAbs (aCons (eVar 2) (aNil))) (aNil))) (eOp pPow (eOp pPow (eC (.int 10)) (eC (.int 60))) (eC (.int 5)))) (eApp pInt (aCons (eOp pGe (eApp pAbs (aCons (eVar 2) (aNil))) (eOp pPow (eC (.int 10)) (eC (.int 18)))) (aNil)))) (gSet 3)) (sSeq (sAsg (eOp pMod (eApp pInt (aCons (eVar 2) (aNil))) (eC (.int 2305843009213693951))) (gSet 4)) (sRet (eLst (aCons (eVar 3) (aCons (eOp pMod (eApp pInt (aCons (eOp pAdd (eOp pAdd (eOp pMul (eVar 4) (eC (.int 70313))) (eOp pMul (eOp pMul (eC (.int 7297)) (eVar 1)) (eVar 1))) (eC (.int 151))) (aNil))) (eC (.int 2305843009213693921))) (aCons (eC (.int 0)) (aNil))))))))
def F__law_pot : FF := defB 5 2 [] s__law_pot
def s__law_take : SF := sSeq (sIf (tCm pGt (eOp pIx (eVar 0) (eC (.int 0))) (eC (.int 0))) (sSeq (sAsg (eOp pMod (eApp pInt (aCons (eOp pIx (eVar 0) (eC (.int 0))) (aNil))) (eVar 1)) (gSet 2)) (sSeq (sSub (eVar 0) (eC (.int 0)) (eOp pDiv (eOp pIx (eVar 0) (eC (.int 0))) (eVar 1)) stIx) (sRet (eVar 2)))) (sPass)) (sSeq (sSub (eVar 0) (eC (.int 2)) (eOp pAdd (eOp pIx (eVar 0) (eC (.int 2))) (eC (.int 1))) stIx) (sSeq (sAsg (eOp pIx (eLst (aCons (eC (.int 2147483647)) (aCons (eC (.int 2147483629)) (aCons (eC (.int 2147483587)) (aCons (eC (.int 2147483579)) (aCons (eC (.int 2147483563)) (aNil))))))) (eOp pMod (eApp pInt (aCons (eOp pIx (eVar 0) (eC (.int 2))) (aNil))) (eC (.int 5)))) (gSet 3)) (sSeq (sAsg (eOp pMod (eApp pInt (aCons (eOp pPow (eApp pInt (aCons (eOp pAdd (eOp pAdd (eOp pIx (eVar 0) (eC (.int 1))) (eOp pMul (eOp pMul (eC (.int 99809)) (eOp pIx (eVar 0) (eC (.int 2)))) (eOp pIx (eVar 0) (eC (.int 2))))) (eC (.int 59))) (aNil))) (eC (.int 3))) (aNil))) (eVar 3)) (gSet 4)) (sSeq (sAsg (eOp pMod (eApp pInt (aCons (eOp pMul (eVar 4) (eOp pAdd (eOp pMod (eApp pInt (aCons (eVar 4) (aNil))) (eC (.int 10433))) (eOp pMul (eC (.int 151)) (eOp pIx (eVar 0) (eC (.int 2)))))) (aNil))) (eC (.int 2305843009213693907))) (gSet 4)) (sRet (eOp pMod (eApp pInt (aCons (eOp pDiv (eVar 4) (eC (.int 143))) (aNil))) (eVar 1)))))))
def F__law_take : FF := defB 5 2 [] s__law_take
def s__law_of : SF := sRet (eOp pIx (eVar 1) (eApp F__law_take (aCons (eVar 0) (aCons (eApp pLen (aCons (eVar 1) (aNil))) (aNil)))))
def F__law_of : FF := defB 2 2 [] s__law_of
def s__law_drawn_marks : SF := sSeq (sAsg (eTup (aNil)) (gSet 2)) (sSeq (sFor (iRg1 (eVar 1)) (gSet 3) (sAsg (eOp pAdd (eVar 2) (eTup (aCons (eApp F__law_of (aCons (eVar 0) (aCons (eOp pAdd (eLst (aCons (eVar 3) (aNil))) (eUn pSS (eVar 2))) (aNil)))) (aNil)))) (gSet 2))) (sRet (eVar 2)))
def F__law_drawn_marks : FF := defB 4 2 [] s__law_drawn_marks
def s_Standing_bare : SF := sSeq (sIf (tNo (tOf (eApp F_is_integer (aCons (eVar 0) (aCons (eC (.int 1)) (aCons (eC (.int 4)) (aNil))))))) (sNev) (sPass)) (sRet (eApp (mMake 0 F_Standing___init__) (aCons (eApp pTuple (aCons (eLrg (eOp pAdd (eVar 0) (eC (.int 2)))) (aNil))) (aNil))))
def F_Standing_bare : FF := defB 1 1 [] s_Standing_bare
def s__law_right : SF := sSeq (sAsg (eOp pAdd (eC (.int 4)) (eApp F__law_take (aCons (eVar 0) (aCons (eC (.int 3)) (aNil))))) (gSet 1)) (sSeq (sAsg (eLc (iRg1 (eC (.int 3))) [3] (gSet 3) (tYes) (eApp (mMake 0 F_Standing___init__) (aCons (eApp F__law_drawn_marks (aCons (eVar 0) (aCons (eVar 1) (aNil)))) (aNil)))) (gSet 2)) (sSeq (sAsg (eApp F_Standing_bare (aCons (eOp pSub (eVar 1) (eC (.int 2))) (aNil))) (gSet 4)) (sSeq (sIf (tOo (tNo (tOf (eMet 0 F_Standing_within (eVar 4) (aCons (eOp pIx (eVar 2) (eC (.int 0))) (aNil))))) (tOo (tCm (mNeO 0 F_Standing___eq__) (eOp (mTwo 0 F_Standing___or__) (eOp pIx (eVar 2) (eC (.int 1))) (eVar 4)) (eOp pIx (eVar 2) (eC (.int 1)))) (tCm (mNeO 0 F_Standing___eq__) (eOp (mTwo 0 F_Standing___and__) (eOp pIx (eVar 2) (eC (.int 1))) (eVar 4)) (eVar 4)))) (sRet (eC (.bl false))) (sPass)) (sSeq (sIf (tAn (tOf (eMet 0 F_Standing_within (eOp pIx (eVar 2) (eC (.int 0))) (aCons (eOp pIx (eVar 2) (eC (.int 1))) (aNil)))) (tAn (tOf (eMet 0 F_Standing_within (eOp pIx (eVar 2) (eC (.int 1))) (aCons (eOp pIx (eVar 2) (eC (.int 0))) (aNil)))) (tCm (mNeO 0 F_Standing___eq__) (eOp pIx (eVar 2) (eC (.int 0))) (eOp pIx (eVar 2) (eC (.int 1)))))) (sRet (eC (.bl false))) (sPass)) (sSeq (sFor (iRg1 (eC (.int 3))) (gSet 5) (sIf (tNo (tOf (eApp F__law_are_bounds_right (aCons (eOp pIx (eVar 2) (eVar 5)) (aCons (eOp pIx (eVar 2) (eOp pSub (eVar 5) (eC (.int 1)))) (aCons (eOp pIx (eVar 2) (eOp pSub (eVar 5) (eC (.int 2)))) (aNil))))))) (sRet (eC (.bl false))) (sPass))) (sRet (eC (.bl true))))))))
def F__law_right : FF := defB 6 1 [] s__law_right
def s_law : SF := sSeq (sAsg (eLc (iSeq (eApp F__law_all_marks (aCons (eC (.int 3)) (aNil)))) [2] (gSet 2) (tYes) (eApp (mMake 0 F_Standing___init__) (aCons (eVar 2) (aNil)))) (gSet 1)) (sSeq (sFor (iSeq (eVar 1)) (gSet 3) (sFor (iSeq (eVar 1)) (gSet 4) (sIf (tNo (tOf (eApp pAll (aCons (eLc (iSeq (eVar 1)) [5] (gSet 5) (tYes) (eApp F__law_are_bounds_right (aCons (eVar 3) (aCons (eVar 4) (aCons (eVar 5) (aNil)))))) (aNil))))) (sRet (eC (.bl false))) (sPass)))) (sSeq (sFor (iSeq (eApp F__law_cells (aCons (eVar 0) (aCons (eC (.int 4)) (aNil))))) (gSet 6) (sSeq (sAsg (eApp F__law_pot (aCons (eVar 0) (aCons (eVar 6) (aNil)))) (gSet 7)) (sIf (tNo (tOf (eApp pAll (aCons (eLc (iRg1 (eC (.int 6))) [8] (gSet 8) (tYes) (eApp F__law_right (aCons (eVar 7) (aNil)))) (aNil))))) (sRet (eC (.bl false))) (sPass)))) (sRet (eC (.bl true)))))
def F_law : FF := defB 9 1 [] s_law
section
variable {P : Program} {w : World} {K : PySem.W.Frag} {mg : Str → Option Value} {base : Heap}
theorem ok__law_all_marks (e : Wd K mg) : FnX P w K mg base (cas K) 1 (a__law_all_marks K) F__law_all_marks := by
  obtain ⟨fd, F⟩ := e.d__law_all_marks
  refine fnX_of (N := N__law_all_marks) (ps := ["_law_count"]) (m := 1) (dxs := []) F sc__law_all_marks (F.bindsN fun _ _ _ _ _ _ us hl => match us, hl with | [_], _ => rfl) .nil (fun _ _ => .nil) rfl fun cdv A outer s H E hr tk po => ?_
  have hu := hr.units
  have hu1 := Nat.lt_of_le_of_lt (Nat.add_le_add_left (show 1 ≤ 64 by decide) _) hu
  exact (pxss_cons (pxs_set 1 sc__law_all_marks.nd (px_lst (pxa_cons (px_tup pxa_nil) pxa_nil)))
      (pxss_cons (pxs_for (vs := [2]) po rfl (pxi_range1 rfl e.b_range (px_var 0)) (pxg_name 2 (by decide) sc__law_all_marks.nd) (pxss_cons (pxs_set 3 sc__law_all_marks.nd (px_lst pxa_nil))
      (pxss_cons (pxs_for (vs := [4]) po rfl (pxi_seq (px_var 1)) (pxg_name 4 (by decide) sc__law_all_marks.nd) (pxss_cons (pxs_expr (px_bm PySem.F.plainAttrs_list PySem.F.slot_list_extend PySem.F.type_list_extend (fun _ _ _ _ _ _ _ A r P => ckLst_ok A r P) ca_extend (px_var 3) (pxa_cons (px_lc (own := [("_law_mark", 5)]) rfl sc__law_all_marks.nd (pxi_seq (px_ss rfl rfl e.b_sorted rfl e.b_set (px_var 4))) (blkOk_by (own := [("_law_mark", 5)]) (N := N__law_all_marks) (sc := defScope t__law_all_marks) (by decide +kernel)) (fun _ _ _ _ _ => (pxg_name 5 (by decide) sc__law_all_marks.nd)) (fun _ _ _ _ _ => pxts_nil) (fun _ _ _ _ _ => (px_op om_add (px_var 4) (px_tup (pxa_cons (px_var 5) pxa_nil))))) pxa_nil)))
      (pxss_one (pxs_expr (px_bm PySem.F.plainAttrs_list PySem.F.slot_list_append PySem.F.type_list_append (fun _ _ _ _ _ _ _ A r P => ckLst_ok A r P) ca_append (px_var 3) (pxa_cons (px_op om_add (px_var 4) (px_tup (pxa_cons (px_var 2) pxa_nil))) pxa_nil))))))
      (pxss_one (pxs_set 1 sc__law_all_marks.nd (px_var 3))))))
      (pxss_one (pxs_ret (px_var 1)))))
theorem ok_is_tuple (e : Wd K mg) : FnX P w K mg base (cas K) 1 (a_is_tuple K) F_is_tuple := by
  obtain ⟨fd, F⟩ := e.d_is_tuple
  obtain ⟨ds, hds, b⟩ := F.binds1 (ps := ["value", "least", "most"]) 3 1 (by simp) rfl fun _ _ _ _ _ _ _ us its h1 h2 => match us, h1, its, h2 with
    | [_, _, _], _, [_], _ => ⟨_, rfl, rfl⟩
  refine fnX_of (N := N_is_tuple) (ps := ["value", "least", "most"]) (m := 3) (dxs := []) F sc_is_tuple b hds (fun _ _ => .nil) rfl fun cdv A outer s H E hr tk po => ?_
  have hu := hr.units
  have hu1 := Nat.lt_of_le_of_lt (Nat.add_le_add_left (show 1 ≤ 64 by decide) _) hu
  exact (pxss_cons (pxs_if (pxt_w (pxw_or (pxt_not (pxt_of (px_isi (.ty _) e.i_tuple (px_var 0) (pe_bltn rfl e.b_tuple bo_tuple rfl) rfl e.b_isinstance))) (pxw_or1 (pxt_cmp om_lt (px_callB ca_len rfl e.b_len bo_len (pxa_cons (px_var 0) pxa_nil)) (px_var 1) (by rfl))))) (pxss_one (pxs_ret px_bl)) pxss_nil)
      (pxss_one (pxs_ret (px_or (px_cmp om_isN (px_var 2) px_non (by rfl)) (px_one (px_cmp om_le (px_callB ca_len rfl e.b_len bo_len (pxa_cons (px_var 0) pxa_nil)) (px_var 2) (by rfl)))))))
theorem ok_is_integer (e : Wd K mg) : FnX P w K mg base (cas K) 1 (a_is_integer K) F_is_integer := by
  obtain ⟨fd, F⟩ := e.d_is_integer
  obtain ⟨ds, hds, b⟩ := F.binds1 (ps := ["value", "low", "high"]) 3 2 (by simp) rfl fun _ _ _ _ _ _ _ us its h1 h2 => match us, h1, its, h2 with
    | [_, _, _], _, [_, _], _ => ⟨_, rfl, rfl⟩
  refine fnX_of (N := N_is_integer) (ps := ["value", "low", "high"]) (m := 3) (dxs := []) F sc_is_integer b hds (fun _ _ => .nil) rfl fun cdv A outer s H E hr tk po => ?_
  have hu := hr.units
  have hu1 := Nat.lt_of_le_of_lt (Nat.add_le_add_left (show 1 ≤ 64 by decide) _) hu
  exact (pxss_cons (pxs_if (pxt_w (pxw_or (pxt_not (pxt_of (px_isi (.ty _) e.i_int (px_var 0) (pe_bltn rfl e.b_int bo_int rfl) rfl e.b_isinstance))) (pxw_or1 (pxt_of (px_isi (.ty _) e.i_bool (px_var 0) (pe_bltn rfl e.b_bool bo_bool rfl) rfl e.b_isinstance))))) (pxss_one (pxs_ret px_bl)) pxss_nil)
      (pxss_one (pxs_ret (px_and (px_or (px_cmp om_isN (px_var 1) px_non (by rfl)) (px_one (px_cmp om_le (px_var 1) (px_var 0) (by rfl)))) (px_one (px_or (px_cmp om_isN (px_var 2) px_non (by rfl)) (px_one (px_cmp om_le (px_var 0) (px_var 2) (by rfl)))))))))
theorem ok_are_marks (e : Wd K mg) : FnX P w K mg base (cas K) 2 (a_are_marks K) F_are_marks := by
  obtain ⟨fd, F⟩ := e.d_are_marks
  refine fnX_of (N := N_are_marks) (ps := ["value"]) (m := 1) (dxs := []) F sc_are_marks (F.bindsN fun _ _ _ _ _ _ us hl => match us, hl with | [_], _ => rfl) .nil (fun _ _ => .nil) rfl fun cdv A outer s H E hr tk po => ?_
  have hu := hr.units
  have hu1 := Nat.lt_of_le_of_lt (Nat.add_le_add_left (show 1 ≤ 64 by decide) _) hu
  exact (pxss_cons (pxs_if (pxt_not (pxt_of (px_call ((ok_is_tuple e).mono (by decide)) hr tk rfl e.g_is_tuple (pxa_cons (px_var 0) (pxa_cons (px_op om_add px_int (px_gint rfl e.c_SUPPLY)) (pxa_cons (px_op om_add (px_gint rfl e.c_MOST_WIRES) (px_gint rfl e.c_SUPPLY)) pxa_nil)))))) (pxss_one (pxs_ret px_bl)) pxss_nil)
      (pxss_cons (pxs_if (pxt_not (pxt_of (px_callB (ca_all rfl) rfl e.b_all bo_all (pxa_cons (px_lc (own := [("number", 1), ("mark", 2)]) rfl sc_are_marks.nd (pxi_enum rfl e.b_enumerate (px_var 0)) (blkOk_by (own := [("number", 1), ("mark", 2)]) (N := N_are_marks) (sc := defScope t_are_marks) (by decide +kernel)) (fun _ _ _ _ _ => (pxg_tupl rfl (pxgs_cons (fun _ _ _ _ _ h => h) (pxg_name 1 (by decide) sc_are_marks.nd) (pxgs_cons (fun _ _ _ _ _ h => h) (pxg_name 2 (by decide) sc_are_marks.nd) pxgs_nil)))) (fun _ _ _ _ _ => pxts_nil) (fun _ _ _ _ _ => (px_call ((ok_is_integer e).mono (by decide)) hr takes0 rfl e.g_is_integer (pxa_cons (px_var 2) (pxa_cons px_int (pxa_cons (px_var 1) pxa_nil)))))) pxa_nil)))) (pxss_one (pxs_ret px_bl)) pxss_nil)
      (pxss_one (pxs_ret (px_callB (ca_all rfl) rfl e.b_all bo_all (pxa_cons (px_lc (own := [("mark", 2)]) rfl sc_are_marks.nd (pxi_seq (px_var 0)) (blkOk_by (own := [("mark", 2)]) (N := N_are_marks) (sc := defScope t_are_marks) (by decide +kernel)) (fun _ _ _ _ _ => (pxg_name 2 (by decide) sc_are_marks.nd)) (fun _ _ _ _ _ => pxts_nil) (fun _ _ _ _ _ => (px_cmp (om_eq hu) (px_ix ixm_seq (px_var 0) (px_var 2)) (px_var 2) (by rfl)))) pxa_nil))))))
theorem ok_Standing___init__ (e : Wd K mg) : FnX P w K mg base (cas K) 3 (a_Standing___init__ K) F_Standing___init__ := by
  obtain ⟨fd, F⟩ := e.d_Standing___init__
  refine fnX_of (N := N_Standing___init__) (ps := ["self", "marks"]) (m := 2) (dxs := []) F sc_Standing___init__ (F.bindsN fun _ _ _ _ _ _ us hl => match us, hl with | [_, _], _ => rfl) .nil (fun _ _ => .nil) rfl fun cdv A outer s H E hr tk po => ?_
  have hu := hr.units
  have hu1 := Nat.lt_of_le_of_lt (Nat.add_le_add_left (show 1 ≤ 64 by decide) _) hu
  exact (pxss_cons (pxs_if (pxt_not (pxt_of (px_call ((ok_are_marks e).mono (by decide)) hr tk rfl e.g_are_marks (pxa_cons (px_var 1) pxa_nil)))) (pxss_one pxs_never) pxss_nil)
      (pxss_one (pxs_fld (c := 0) e.o_Standing.sc e.s_Standing_own_marks (px_var 0) (px_var 1))))
theorem ok_Standing_wires (e : Wd K mg) : FnX P w K mg base (cas K) 1 (a_Standing_wires K) F_Standing_wires := by
  obtain ⟨fd, F⟩ := e.d_Standing_wires
  refine fnX_of (N := N_Standing_wires) (ps := ["self"]) (m := 1) (dxs := []) F sc_Standing_wires (F.bindsN fun _ _ _ _ _ _ us hl => match us, hl with | [_], _ => rfl) .nil (fun _ _ => .nil) rfl fun cdv A outer s H E hr tk po => ?_
  have hu := hr.units
  have hu1 := Nat.lt_of_le_of_lt (Nat.add_le_add_left (show 1 ≤ 64 by decide) _) hu
  exact (pxss_one (pxs_ret (px_op om_sub (px_callB ca_len rfl e.b_len bo_len (pxa_cons (px_attr (at_slot (c := 0) e.o_Standing.sc e.s_Standing_own_marks) (px_var 0)) pxa_nil)) (px_gint rfl e.c_SUPPLY))))
theorem ok_Standing_check (e : Wd K mg) : FnX P w K mg base (cas K) 3 (a_Standing_check K) F_Standing_check := by
  obtain ⟨fd, F⟩ := e.d_Standing_check
  refine fnX_of (N := N_Standing_check) (ps := ["self", "other"]) (m := 2) (dxs := []) F sc_Standing_check (F.bindsN fun _ _ _ _ _ _ us hl => match us, hl with | [_, _], _ => rfl) .nil (fun _ _ => .nil) rfl fun cdv A outer s H E hr tk po => ?_
  have hu := hr.units
  have hu1 := Nat.lt_of_le_of_lt (Nat.add_le_add_left (show 1 ≤ 64 by decide) _) hu
  exact (pxss_one (pxs_if (pxt_cmp (om_ne hu) (px_attr (at_prop (c := 0) e.o_Standing.sc e.p_Standing_wires ((ok_Standing_wires e).mono (by decide)) hr) (px_var 0)) (px_attr (at_prop (c := 0) e.o_Standing.sc e.p_Standing_wires ((ok_Standing_wires e).mono (by decide)) hr) (px_var 1)) (by rfl)) (pxss_one pxs_never) pxss_nil))
theorem ok_marks_byT (e : Wd K mg) : FnX P w K mg base (cas K) 1 (a_marks_by K) F_marks_byT := by
  obtain ⟨fd, F⟩ := e.d_marks_by
  refine fnX_of (N := N_marks_byT) (ps := ["roots", "things"]) (m := 2) (dxs := []) F sc_marks_byT (F.bindsN fun _ _ _ _ _ _ us hl => match us, hl with | [_, _], _ => rfl) .nil (fun _ _ => .nil) rfl fun cdv A outer s H E hr tk po => ?_
  have hu := hr.units
  have hu1 := Nat.lt_of_le_of_lt (Nat.add_le_add_left (show 1 ≤ 64 by decide) _) hu
  exact (pxss_cons (pxs_set 2 sc_marks_byT.nd px_dnewT)
      (pxss_cons (pxs_for (vs := [3, 4]) po rfl (pxi_enum rfl e.b_enumerate (px_var 1)) (pxg_tupl rfl (pxgs_cons (fun _ _ _ _ _ h => h) (pxg_name 3 (by decide) sc_marks_byT.nd) (pxgs_cons (fun _ _ _ _ _ h => h) (pxg_name 4 (by decide) sc_marks_byT.nd) pxgs_nil))) (pxss_one (pxs_expr (px_dm PySem.F.slot_dict_setdefault PySem.F.type_dict_setdefault (ca_setd hu1) (px_var 2) (pxa_cons (px_ix ixm_seq (px_var 0) (px_var 4)) (pxa_cons (px_var 3) pxa_nil))))))
      (pxss_one (pxs_ret (px_callT ca_tuple rfl e.b_tuple bo_tuple (pxa_cons (px_lc (own := [("thing", 4)]) rfl sc_marks_byT.nd (pxi_seq (px_var 1)) (blkOk_by (own := [("thing", 4)]) (N := N_marks_byT) (sc := defScope t_marks_by) (by decide +kernel)) (fun _ _ _ _ _ => (pxg_name 4 (by decide) sc_marks_byT.nd)) (fun _ _ _ _ _ => pxts_nil) (fun _ _ _ _ _ => (px_dget hu1 (px_var 2) (px_ix ixm_seq (px_var 0) (px_var 4)) (by intro _ _; rfl)))) pxa_nil))))))
theorem ok_Standing___and__ (e : Wd K mg) : FnX P w K mg base (cas K) 5 (a_Standing___and__ K) F_Standing___and__ := by
  obtain ⟨fd, F⟩ := e.d_Standing___and__
  refine fnX_of (N := N_Standing___and__) (ps := ["self", "other"]) (m := 2) (dxs := []) F sc_Standing___and__ (F.bindsN fun _ _ _ _ _ _ us hl => match us, hl with | [_, _], _ => rfl) .nil (fun _ _ => .nil) rfl fun cdv A outer s H E hr tk po => ?_
  have hu := hr.units
  have hu1 := Nat.lt_of_le_of_lt (Nat.add_le_add_left (show 1 ≤ 64 by decide) _) hu
  exact (pxss_cons (pxs_if (pxt_not (pxt_of (px_isi (.own _) e.i_Standing (px_var 1) (pe_glob rfl e.g_Standing rfl) rfl e.b_isinstance))) (pxss_one pxs_never) pxss_nil)
      (pxss_cons (pxs_expr (px_meth (c := 0) e.o_Standing.sc e.m_Standing_check ((ok_Standing_check e).mono (by decide)) hr tk (px_var 0) (pxa_cons (px_var 1) pxa_nil)))
      (pxss_cons (pxs_set 2 sc_Standing___and__.nd (px_lz rfl rfl e.b_list rfl e.b_zip (px_attr (at_slot (c := 0) e.o_Standing.sc e.s_Standing_own_marks) (px_var 0)) (px_attr (at_slot (c := 0) e.o_Standing.sc e.s_Standing_own_marks) (px_var 1))))
      (pxss_one (pxs_ret (px_make (c := 0) e.mk_Standing ((ok_Standing___init__ e).mono (by decide)) hr tk rfl e.g_Standing (pxa_cons (px_call ((ok_marks_byT e).mono (by decide)) hr tk rfl e.g_marks_by (pxa_cons (px_var 2) (pxa_cons (px_lrg rfl rfl e.b_list rfl e.b_range (px_callB ca_len rfl e.b_len bo_len (pxa_cons (px_var 2) pxa_nil))) pxa_nil))) pxa_nil)))))))
theorem ok_marks_byK (e : Wd K mg) : FnX P w K mg base (cas K) 1 (a_marks_by K) F_marks_byK := by
  obtain ⟨fd, F⟩ := e.d_marks_by
  refine fnX_of (N := N_marks_byK) (ps := ["roots", "things"]) (m := 2) (dxs := []) F sc_marks_byK (F.bindsN fun _ _ _ _ _ _ us hl => match us, hl with | [_, _], _ => rfl) .nil (fun _ _ => .nil) rfl fun cdv A outer s H E hr tk po => ?_
  have hu := hr.units
  have hu1 := Nat.lt_of_le_of_lt (Nat.add_le_add_left (show 1 ≤ 64 by decide) _) hu
  exact (pxss_cons (pxs_set 2 sc_marks_byK.nd px_dnewK)
      (pxss_cons (pxs_for (vs := [3, 4]) po rfl (pxi_enum rfl e.b_enumerate (px_var 1)) (pxg_tupl rfl (pxgs_cons (fun _ _ _ _ _ h => h) (pxg_name 3 (by decide) sc_marks_byK.nd) (pxgs_cons (fun _ _ _ _ _ h => h) (pxg_name 4 (by decide) sc_marks_byK.nd) pxgs_nil))) (pxss_one (pxs_expr (px_dm PySem.F.slot_dict_setdefault PySem.F.type_dict_setdefault (ca_setd hu1) (px_var 2) (pxa_cons (px_dget hu1 (px_var 0) (px_var 4) (by intro _ _; rfl)) (pxa_cons (px_var 3) pxa_nil))))))
      (pxss_one (pxs_ret (px_callT ca_tuple rfl e.b_tuple bo_tuple (pxa_cons (px_lc (own := [("thing", 4)]) rfl sc_marks_byK.nd (pxi_seq (px_var 1)) (blkOk_by (own := [("thing", 4)]) (N := N_marks_byK) (sc := defScope t_marks_by) (by decide +kernel)) (fun _ _ _ _ _ => (pxg_name 4 (by decide) sc_marks_byK.nd)) (fun _ _ _ _ _ => pxts_nil) (fun _ _ _ _ _ => (px_dget hu1 (px_var 2) (px_dget hu1 (px_var 0) (px_var 4) (by intro _ _; rfl)) (by intro _ _; rfl)))) pxa_nil))))))
theorem ok_root_of (e : Wd K mg) : FnX P w K mg base (cas K) 1 (a_root_of K) F_root_of := by
  obtain ⟨fd, F⟩ := e.d_root_of
  refine fnX_of (N := N_root_of) (ps := ["above", "thing"]) (m := 2) (dxs := []) F sc_root_of (F.bindsN fun _ _ _ _ _ _ us hl => match us, hl with | [_, _], _ => rfl) .nil (fun _ _ => .nil) rfl fun cdv A outer s H E hr tk po => ?_
  have hu := hr.units
  have hu1 := Nat.lt_of_le_of_lt (Nat.add_le_add_left (show 1 ≤ 64 by decide) _) hu
  exact (pxss_cons (pxs_while po (pxt_cmp (om_ne hu) (px_dget hu1 (px_var 0) (px_var 1) (by intro _ _; rfl)) (px_var 1) (by rfl)) (pxss_one (pxs_set 1 sc_root_of.nd (px_dget hu1 (px_var 0) (px_var 1) (by intro _ _; rfl)))))
      (pxss_one (pxs_ret (px_var 1))))
theorem ok_grouped (e : Wd K mg) : FnX P w K mg base (cas K) 2 (a_grouped K) F_grouped := by
  obtain ⟨fd, F⟩ := e.d_grouped
  refine fnX_of (N := N_grouped) (ps := ["things", "pairs"]) (m := 2) (dxs := []) F sc_grouped (F.bindsN fun _ _ _ _ _ _ us hl => match us, hl with | [_, _], _ => rfl) .nil (fun _ _ => .nil) rfl fun cdv A outer s H E hr tk po => ?_
  have hu := hr.units
  have hu1 := Nat.lt_of_le_of_lt (Nat.add_le_add_left (show 1 ≤ 64 by decide) _) hu
  exact (pxss_cons (pxs_set 2 sc_grouped.nd (px_callT (ca_dictP rfl) rfl e.b_dict bo_dict (pxa_cons (px_lc (own := [("thing", 3)]) rfl sc_grouped.nd (pxi_seq (px_var 0)) (blkOk_by (own := [("thing", 3)]) (N := N_grouped) (sc := defScope t_grouped) (by decide +kernel)) (fun _ _ _ _ _ => (pxg_name 3 (by decide) sc_grouped.nd)) (fun _ _ _ _ _ => pxts_nil) (fun _ _ _ _ _ => (px_tup (pxa_cons (px_var 3) (pxa_cons (px_var 3) pxa_nil))))) pxa_nil)))
      (pxss_cons (pxs_for (vs := [4, 5]) po rfl (pxi_seq (px_var 1)) (pxg_tupl rfl (pxgs_cons (fun _ _ _ _ _ h => h) (pxg_name 4 (by decide) sc_grouped.nd) (pxgs_cons (fun _ _ _ _ _ h => h) (pxg_name 5 (by decide) sc_grouped.nd) pxgs_nil))) (pxss_one (pxs_sub (stm_dct hu1) (px_call ((ok_root_of e).mono (by decide)) hr tk rfl e.g_root_of (pxa_cons (px_var 2) (pxa_cons (px_var 4) pxa_nil))) (px_var 2) (px_call ((ok_root_of e).mono (by decide)) hr tk rfl e.g_root_of (pxa_cons (px_var 2) (pxa_cons (px_var 5) pxa_nil))) (by intro _; rfl))))
      (pxss_one (pxs_ret (px_dc (own := [("thing", 3)]) rfl sc_grouped.nd (pxi_seq (px_var 0)) (blkOk_by (own := [("thing", 3)]) (N := N_grouped) (sc := defScope t_grouped) (by decide +kernel)) (fun _ _ _ _ _ => (pxg_name 3 (by decide) sc_grouped.nd)) (fun _ _ _ _ _ => pxts_nil) (fun _ _ _ _ _ => (px_var 3)) (fun _ _ _ _ _ => (px_call ((ok_root_of e).mono (by decide)) hr takes0 rfl e.g_root_of (pxa_cons (px_var 2) (pxa_cons (px_var 3) pxa_nil)))))))))
theorem ok_Standing_pairs (e : Wd K mg) : FnX P w K mg base (cas K) 1 (a_Standing_pairs K) F_Standing_pairs := by
  obtain ⟨fd, F⟩ := e.d_Standing_pairs
  refine fnX_of (N := N_Standing_pairs) (ps := ["self"]) (m := 1) (dxs := []) F sc_Standing_pairs (F.bindsN fun _ _ _ _ _ _ us hl => match us, hl with | [_], _ => rfl) .nil (fun _ _ => .nil) rfl fun cdv A outer s H E hr tk po => ?_
  have hu := hr.units
  have hu1 := Nat.lt_of_le_of_lt (Nat.add_le_add_left (show 1 ≤ 64 by decide) _) hu
  exact (pxss_one (pxs_ret (px_lc (own := [("number", 1), ("mark", 2)]) rfl sc_Standing_pairs.nd (pxi_enum rfl e.b_enumerate (px_attr (at_slot (c := 0) e.o_Standing.sc e.s_Standing_own_marks) (px_var 0))) (blkOk_by (own := [("number", 1), ("mark", 2)]) (N := N_Standing_pairs) (sc := defScope t_Standing_pairs) (by decide +kernel)) (fun _ _ _ _ _ => (pxg_tupl rfl (pxgs_cons (fun _ _ _ _ _ h => h) (pxg_name 1 (by decide) sc_Standing_pairs.nd) (pxgs_cons (fun _ _ _ _ _ h => h) (pxg_name 2 (by decide) sc_Standing_pairs.nd) pxgs_nil)))) (fun _ _ _ _ _ => pxts_one (pxt_cmp om_lt (px_var 2) (px_var 1) (by rfl))) (fun _ _ _ _ _ => (px_tup (pxa_cons (px_var 2) (pxa_cons (px_var 1) pxa_nil)))))))
theorem ok_Standing___or__ (e : Wd K mg) : FnX P w K mg base (cas K) 5 (a_Standing___or__ K) F_Standing___or__ := by
  obtain ⟨fd, F⟩ := e.d_Standing___or__
  refine fnX_of (N := N_Standing___or__) (ps := ["self", "other"]) (m := 2) (dxs := []) F sc_Standing___or__ (F.bindsN fun _ _ _ _ _ _ us hl => match us, hl with | [_, _], _ => rfl) .nil (fun _ _ => .nil) rfl fun cdv A outer s H E hr tk po => ?_
  have hu := hr.units
  have hu1 := Nat.lt_of_le_of_lt (Nat.add_le_add_left (show 1 ≤ 64 by decide) _) hu
  exact (pxss_cons (pxs_if (pxt_not (pxt_of (px_isi (.own _) e.i_Standing (px_var 1) (pe_glob rfl e.g_Standing rfl) rfl e.b_isinstance))) (pxss_one pxs_never) pxss_nil)
      (pxss_cons (pxs_expr (px_meth (c := 0) e.o_Standing.sc e.m_Standing_check ((ok_Standing_check e).mono (by decide)) hr tk (px_var 0) (pxa_cons (px_var 1) pxa_nil)))
      (pxss_cons (pxs_set 2 sc_Standing___or__.nd (px_lrg rfl rfl e.b_list rfl e.b_range (px_callB ca_len rfl e.b_len bo_len (pxa_cons (px_attr (at_slot (c := 0) e.o_Standing.sc e.s_Standing_own_marks) (px_var 0)) pxa_nil))))
      (pxss_one (pxs_ret (px_make (c := 0) e.mk_Standing ((ok_Standing___init__ e).mono (by decide)) hr tk rfl e.g_Standing (pxa_cons (px_call ((ok_marks_byK e).mono (by decide)) hr tk rfl e.g_marks_by (pxa_cons (px_call ((ok_grouped e).mono (by decide)) hr tk rfl e.g_grouped (pxa_cons (px_var 2) (pxa_cons (px_lst (pxa_star (px_attr (at_prop (c := 0) e.o_Standing.sc e.p_Standing_pairs ((ok_Standing_pairs e).mono (by decide)) hr) (px_var 0)) (pxa_star (px_attr (at_prop (c := 0) e.o_Standing.sc e.p_Standing_pairs ((ok_Standing_pairs e).mono (by decide)) hr) (px_var 1)) pxa_nil))) pxa_nil))) (pxa_cons (px_var 2) pxa_nil))) pxa_nil)))))))
theorem ok_Standing___contains__ (e : Wd K mg) : FnX P w K mg base (cas K) 2 (a_Standing___contains__ K) F_Standing___contains__ := by
  obtain ⟨fd, F⟩ := e.d_Standing___contains__
  refine fnX_of (N := N_Standing___contains__) (ps := ["self", "value"]) (m := 2) (dxs := []) F sc_Standing___contains__ (F.bindsN fun _ _ _ _ _ _ us hl => match us, hl with | [_, _], _ => rfl) .nil (fun _ _ => .nil) rfl fun cdv A outer s H E hr tk po => ?_
  have hu := hr.units
  have hu1 := Nat.lt_of_le_of_lt (Nat.add_le_add_left (show 1 ≤ 64 by decide) _) hu
  exact (pxss_cons (pxs_if (pxt_not (pxt_of (px_call ((ok_is_tuple e).mono (by decide)) hr tk rfl e.g_is_tuple (pxa_cons (px_var 1) (pxa_cons (px_gint rfl e.c_PAIR) (pxa_cons (px_gint rfl e.c_PAIR) pxa_nil)))))) (pxss_one (pxs_ret px_bl)) pxss_nil)
      (pxss_cons (pxs_if (pxt_not (pxt_of (px_callB (ca_all rfl) rfl e.b_all bo_all (pxa_cons (px_lc (own := [("thing", 2)]) rfl sc_Standing___contains__.nd (pxi_seq (px_var 1)) (blkOk_by (own := [("thing", 2)]) (N := N_Standing___contains__) (sc := defScope t_Standing___contains__) (by decide +kernel)) (fun _ _ _ _ _ => (pxg_name 2 (by decide) sc_Standing___contains__.nd)) (fun _ _ _ _ _ => pxts_nil) (fun _ _ _ _ _ => (px_call ((ok_is_integer e).mono (by decide)) hr takes0 rfl e.g_is_integer (pxa_cons (px_var 2) (pxa_cons px_int (pxa_cons (px_op om_sub (px_callB ca_len rfl e.b_len bo_len (pxa_cons (px_attr (at_slot (c := 0) e.o_Standing.sc e.s_Standing_own_marks) (px_var 0)) pxa_nil)) px_int) pxa_nil)))))) pxa_nil)))) (pxss_one (pxs_ret px_bl)) pxss_nil)
      (pxss_one (pxs_ret (px_cmp (om_eq hu) (px_ix ixm_seq (px_attr (at_slot (c := 0) e.o_Standing.sc e.s_Standing_own_marks) (px_var 0)) (px_ix ixm_seq (px_var 1) px_int)) (px_ix ixm_seq (px_attr (at_slot (c := 0) e.o_Standing.sc e.s_Standing_own_marks) (px_var 0)) (px_ix ixm_seq (px_var 1) px_int)) (by rfl))))))
theorem ok_Standing_within (e : Wd K mg) : FnX P w K mg base (cas K) 4 (a_Standing_within K) F_Standing_within := by
  obtain ⟨fd, F⟩ := e.d_Standing_within
  refine fnX_of (N := N_Standing_within) (ps := ["self", "other"]) (m := 2) (dxs := []) F sc_Standing_within (F.bindsN fun _ _ _ _ _ _ us hl => match us, hl with | [_, _], _ => rfl) .nil (fun _ _ => .nil) rfl fun cdv A outer s H E hr tk po => ?_
  have hu := hr.units
  have hu1 := Nat.lt_of_le_of_lt (Nat.add_le_add_left (show 1 ≤ 64 by decide) _) hu
  exact (pxss_cons (pxs_expr (px_meth (c := 0) e.o_Standing.sc e.m_Standing_check ((ok_Standing_check e).mono (by decide)) hr tk (px_var 0) (pxa_cons (px_var 1) pxa_nil)))
      (pxss_one (pxs_ret (px_callB (ca_all rfl) rfl e.b_all bo_all (pxa_cons (px_lc (own := [("pair", 2)]) rfl sc_Standing_within.nd (pxi_seq (px_attr (at_prop (c := 0) e.o_Standing.sc e.p_Standing_pairs ((ok_Standing_pairs e).mono (by decide)) hr) (px_var 0))) (blkOk_by (own := [("pair", 2)]) (N := N_Standing_within) (sc := defScope t_Standing_within) (by decide +kernel)) (fun _ _ _ _ _ => (pxg_name 2 (by decide) sc_Standing_within.nd)) (fun _ _ _ _ _ => pxts_nil) (fun _ _ _ _ _ => (px_cmp (om_in (c := 0) e.op_Standing___contains__ ((ok_Standing___contains__ e).mono (by decide)) hr takes0) (px_var 2) (px_var 1) (by rfl)))) pxa_nil)))))
theorem ok_Standing___eq__ (e : Wd K mg) : FnX P w K mg base (cas K) 1 (a_Standing___eq__ K) F_Standing___eq__ := by
  obtain ⟨fd, F⟩ := e.d_Standing___eq__
  refine fnX_of (N := N_Standing___eq__) (ps := ["self", "other"]) (m := 2) (dxs := []) F sc_Standing___eq__ (F.bindsN fun _ _ _ _ _ _ us hl => match us, hl with | [_, _], _ => rfl) .nil (fun _ _ => .nil) rfl fun cdv A outer s H E hr tk po => ?_
  have hu := hr.units
  have hu1 := Nat.lt_of_le_of_lt (Nat.add_le_add_left (show 1 ≤ 64 by decide) _) hu
  exact (pxss_one (pxs_ret (px_and (px_isi (.own _) e.i_Standing (px_var 1) (pe_glob rfl e.g_Standing rfl) rfl e.b_isinstance) (px_one (px_cmp (om_eq hu) (px_attr (at_slot (c := 0) e.o_Standing.sc e.s_Standing_own_marks) (px_var 0)) (px_attr (at_slot (c := 0) e.o_Standing.sc e.s_Standing_own_marks) (px_var 1)) (by rfl))))))
theorem ok__law_are_bounds_right (e : Wd K mg) : FnX P w K mg base (cas K) 6 (a__law_are_bounds_right K) F__law_are_bounds_right := by
  obtain ⟨fd, F⟩ := e.d__law_are_bounds_right
  refine fnX_of (N := N__law_are_bounds_right) (ps := ["_law_one", "_law_other", "_law_third"]) (m := 3) (dxs := []) F sc__law_are_bounds_right (F.bindsN fun _ _ _ _ _ _ us hl => match us, hl with | [_, _, _], _ => rfl) .nil (fun _ _ => .nil) rfl fun cdv A outer s H E hr tk po => ?_
  have hu := hr.units
  have hu1 := Nat.lt_of_le_of_lt (Nat.add_le_add_left (show 1 ≤ 64 by decide) _) hu
  exact (pxss_cons (pxs_par 3 4 rfl sc__law_are_bounds_right.nd (by decide) (pxa_cons (px_op (om_own (c := 0) e.op_Standing___or__ e.o_Standing.sf ((ok_Standing___or__ e).mono (by decide)) hr tk) (px_var 0) (px_var 1)) (pxa_cons (px_op (om_own (c := 0) e.op_Standing___and__ e.o_Standing.sf ((ok_Standing___and__ e).mono (by decide)) hr tk) (px_var 0) (px_var 1)) pxa_nil)))
      (pxss_cons (pxs_if (pxt_cmp (om_ne hu) (px_and (px_meth (c := 0) e.o_Standing.sc e.m_Standing_within ((ok_Standing_within e).mono (by decide)) hr tk (px_var 0) (pxa_cons (px_var 2) pxa_nil)) (px_one (px_meth (c := 0) e.o_Standing.sc e.m_Standing_within ((ok_Standing_within e).mono (by decide)) hr tk (px_var 1) (pxa_cons (px_var 2) pxa_nil)))) (px_meth (c := 0) e.o_Standing.sc e.m_Standing_within ((ok_Standing_within e).mono (by decide)) hr tk (px_var 3) (pxa_cons (px_var 2) pxa_nil)) (by rfl)) (pxss_one (pxs_ret px_bl)) pxss_nil)
      (pxss_cons (pxs_if (pxt_cmp (om_ne hu) (px_and (px_meth (c := 0) e.o_Standing.sc e.m_Standing_within ((ok_Standing_within e).mono (by decide)) hr tk (px_var 2) (pxa_cons (px_var 0) pxa_nil)) (px_one (px_meth (c := 0) e.o_Standing.sc e.m_Standing_within ((ok_Standing_within e).mono (by decide)) hr tk (px_var 2) (pxa_cons (px_var 1) pxa_nil)))) (px_meth (c := 0) e.o_Standing.sc e.m_Standing_within ((ok_Standing_within e).mono (by decide)) hr tk (px_var 2) (pxa_cons (px_var 4) pxa_nil)) (by rfl)) (pxss_one (pxs_ret px_bl)) pxss_nil)
      (pxss_cons (pxs_if (pxt_w (pxw_or (pxt_cmp (om_neO (c := 0) e.op_Standing___eq__ e.o_Standing.ne e.o_Standing.mo ((ok_Standing___eq__ e).mono (by decide)) hr tk) (px_op (om_own (c := 0) e.op_Standing___or__ e.o_Standing.sf ((ok_Standing___or__ e).mono (by decide)) hr tk) (px_op (om_own (c := 0) e.op_Standing___or__ e.o_Standing.sf ((ok_Standing___or__ e).mono (by decide)) hr tk) (px_var 0) (px_var 1)) (px_var 2)) (px_op (om_own (c := 0) e.op_Standing___or__ e.o_Standing.sf ((ok_Standing___or__ e).mono (by decide)) hr tk) (px_var 0) (px_op (om_own (c := 0) e.op_Standing___or__ e.o_Standing.sf ((ok_Standing___or__ e).mono (by decide)) hr tk) (px_var 1) (px_var 2))) (by rfl)) (pxw_or1 (pxt_cmp (om_neO (c := 0) e.op_Standing___eq__ e.o_Standing.ne e.o_Standing.mo ((ok_Standing___eq__ e).mono (by decide)) hr tk) (px_op (om_own (c := 0) e.op_Standing___and__ e.o_Standing.sf ((ok_Standing___and__ e).mono (by decide)) hr tk) (px_op (om_own (c := 0) e.op_Standing___and__ e.o_Standing.sf ((ok_Standing___and__ e).mono (by decide)) hr tk) (px_var 0) (px_var 1)) (px_var 2)) (px_op (om_own (c := 0) e.op_Standing___and__ e.o_Standing.sf ((ok_Standing___and__ e).mono (by decide)) hr tk) (px_var 0) (px_op (om_own (c := 0) e.op_Standing___and__ e.o_Standing.sf ((ok_Standing___and__ e).mono (by decide)) hr tk) (px_var 1) (px_var 2))) (by rfl))))) (pxss_one (pxs_ret px_bl)) pxss_nil)
      (pxss_one (pxs_ret (px_and (px_cmp (om_eqO (c := 0) e.op_Standing___eq__ e.o_Standing.nf ((ok_Standing___eq__ e).mono (by decide)) hr tk) (px_op (om_own (c := 0) e.op_Standing___or__ e.o_Standing.sf ((ok_Standing___or__ e).mono (by decide)) hr tk) (px_var 0) (px_op (om_own (c := 0) e.op_Standing___and__ e.o_Standing.sf ((ok_Standing___and__ e).mono (by decide)) hr tk) (px_var 0) (px_var 1))) (px_var 0) (by rfl)) (px_one (px_cmp (om_eqO (c := 0) e.op_Standing___eq__ e.o_Standing.nf ((ok_Standing___eq__ e).mono (by decide)) hr tk) (px_op (om_own (c := 0) e.op_Standing___and__ e.o_Standing.sf ((ok_Standing___and__ e).mono (by decide)) hr tk) (px_var 0) (px_op (om_own (c := 0) e.op_Standing___or__ e.o_Standing.sf ((ok_Standing___or__ e).mono (by decide)) hr tk) (px_var 0) (px_var 1))) (px_var 0) (by rfl))))))))))
theorem ok__law_cells (e : Wd K mg) : FnX P w K mg base (cas K) 1 (a__law_cells K) F__law_cells := by
  obtain ⟨fd, F⟩ := e.d__law_cells
  refine fnX_of (N := N__law_cells) (ps := ["_law_script", "_law_limit"]) (m := 2) (dxs := []) F sc__law_cells (F.bindsN fun _ _ _ _ _ _ us hl => match us, hl with | [_, _], _ => rfl) .nil (fun _ _ => .nil) rfl fun cdv A outer s H E hr tk po => ?_
  have hu := hr.units
  have hu1 := Nat.lt_of_le_of_lt (Nat.add_le_add_left (show 1 ≤ 64 by decide) _) hu
  exact (pxss_one (pxs_ret (px_lrg rfl rfl e.b_list rfl e.b_range (px_callB (ca_max2 rfl) rfl e.b_max bo_max (pxa_cons px_int (pxa_cons (px_callB (ca_min2 rfl) rfl e.b_min bo_min (pxa_cons (px_var 1) (pxa_cons (px_callB ca_len rfl e.b_len bo_len (pxa_cons (px_var 0) pxa_nil)) pxa_nil))) pxa_nil))))))
theorem ok__law_pot (e : Wd K mg) : FnX P w K mg base (cas K) 1 (a__law_pot K) F__law_pot := by
  obtain ⟨fd, F⟩ := e.d__law_pot
  refine fnX_of (N := N__law_pot) (ps := ["_law_script", "_law_place"]) (m := 2) (dxs := []) F sc__law_pot (F.bindsN fun _ _ _ _ _ _ us hl => match us, hl with | [_, _], _ => rfl) .nil (fun _ _ => .nil) rfl fun cdv A outer s H E hr tk po => ?_
  have hu := hr.units
  have hu1 := Nat.lt_of_le_of_lt (Nat.add_le_add_left (show 1 ≤ 64 by decide) _) hu
  exact (pxss_cons (pxs_set 2 sc__law_pot.nd (px_if (pxt_cmp om_lt (px_var 1) (px_callB ca_len rfl e.b_len bo_len (pxa_cons (px_var 0) pxa_nil)) (by rfl)) (px_ix ixm_seq (px_var 0) (px_var 1)) (px_op om_add (px_op om_mul px_int (px_var 1)) px_int)))
      (pxss_cons (pxs_set 3 sc__law_pot.nd (px_op om_mul (px_op om_mod (px_callT ca_int rfl e.b_int bo_int (pxa_cons (px_callB ca_abs rfl e.b_abs bo_abs (pxa_cons (px_var 2) pxa_nil)) pxa_nil)) (px_op om_pow (px_op om_pow px_int px_int) px_int)) (px_callT ca_int rfl e.b_int bo_int (pxa_cons (px_cmp om_ge (px_callB ca_abs rfl e.b_abs bo_abs (pxa_cons (px_var 2) pxa_nil)) (px_op om_pow px_int px_int) (by rfl)) pxa_nil))))
      (pxss_cons (pxs_set 4 sc__law_pot.nd (px_op om_mod (px_callT ca_int rfl e.b_int bo_int (pxa_cons (px_var 2) pxa_nil)) px_int))
      (pxss_one (pxs_ret (px_lst (pxa_cons (px_var 3) (pxa_cons (px_op om_mod (px_callT ca_int rfl e.b_int bo_int (pxa_cons (px_op om_add (px_op om_add (px_op om_mul (px_var 4) px_int) (px_op om_mul (px_op om_mul px_int (px_var 1)) (px_var 1))) px_int) pxa_nil)) px_int) (pxa_cons px_int pxa_nil)))))))))
theorem ok__law_take (e : Wd K mg) : FnX P w K mg base (cas K) 1 (a__law_take K) F__law_take := by
  obtain ⟨fd, F⟩ := e.d__law_take
  refine fnX_of (N := N__law_take) (ps := ["_law_pot_here", "_law_upto"]) (m := 2) (dxs := []) F sc__law_take (F.bindsN fun _ _ _ _ _ _ us hl => match us, hl with | [_, _], _ => rfl) .nil (fun _ _ => .nil) rfl fun cdv A outer s H E hr tk po => ?_
  have hu := hr.units
  have hu1 := Nat.lt_of_le_of_lt (Nat.add_le_add_left (show 1 ≤ 64 by decide) _) hu
  exact (pxss_cons (pxs_if (pxt_cmp om_gt (px_ix ixm_seq (px_var 0) px_int) px_int (by rfl)) (pxss_cons (pxs_set 2 sc__law_take.nd (px_op om_mod (px_callT ca_int rfl e.b_int bo_int (pxa_cons (px_ix ixm_seq (px_var 0) px_int) pxa_nil)) (px_var 1)))
      (pxss_cons (pxs_sub stm_list (px_op om_div (px_ix ixm_seq (px_var 0) px_int) (px_var 1)) (px_var 0) px_int (by intro _; rfl))
      (pxss_one (pxs_ret (px_var 2))))) pxss_nil)
      (pxss_cons (pxs_sub stm_list (px_op om_add (px_ix ixm_seq (px_var 0) px_int) px_int) (px_var 0) px_int (by intro _; rfl))
      (pxss_cons (pxs_set 3 sc__law_take.nd (px_ix ixm_seq (px_lst (pxa_cons px_int (pxa_cons px_int (pxa_cons px_int (pxa_cons px_int (pxa_cons px_int pxa_nil)))))) (px_op om_mod (px_callT ca_int rfl e.b_int bo_int (pxa_cons (px_ix ixm_seq (px_var 0) px_int) pxa_nil)) px_int)))
      (pxss_cons (pxs_set 4 sc__law_take.nd (px_op om_mod (px_callT ca_int rfl e.b_int bo_int (pxa_cons (px_op om_pow (px_callT ca_int rfl e.b_int bo_int (pxa_cons (px_op om_add (px_op om_add (px_ix ixm_seq (px_var 0) px_int) (px_op om_mul (px_op om_mul px_int (px_ix ixm_seq (px_var 0) px_int)) (px_ix ixm_seq (px_var 0) px_int))) px_int) pxa_nil)) px_int) pxa_nil)) (px_var 3)))
      (pxss_cons (pxs_set 4 sc__law_take.nd (px_op om_mod (px_callT ca_int rfl e.b_int bo_int (pxa_cons (px_op om_mul (px_var 4) (px_op om_add (px_op om_mod (px_callT ca_int rfl e.b_int bo_int (pxa_cons (px_var 4) pxa_nil)) px_int) (px_op om_mul px_int (px_ix ixm_seq (px_var 0) px_int)))) pxa_nil)) px_int))
      (pxss_one (pxs_ret (px_op om_mod (px_callT ca_int rfl e.b_int bo_int (pxa_cons (px_op om_div (px_var 4) px_int) pxa_nil)) (px_var 1)))))))))
theorem ok__law_of (e : Wd K mg) : FnX P w K mg base (cas K) 2 (a__law_of K) F__law_of := by
  obtain ⟨fd, F⟩ := e.d__law_of
  refine fnX_of (N := N__law_of) (ps := ["_law_pot_here", "_law_some"]) (m := 2) (dxs := []) F sc__law_of (F.bindsN fun _ _ _ _ _ _ us hl => match us, hl with | [_, _], _ => rfl) .nil (fun _ _ => .nil) rfl fun cdv A outer s H E hr tk po => ?_
  have hu := hr.units
  have hu1 := Nat.lt_of_le_of_lt (Nat.add_le_add_left (show 1 ≤ 64 by decide) _) hu
  exact (pxss_one (pxs_ret (px_ix ixm_seq (px_var 1) (px_call ((ok__law_take e).mono (by decide)) hr tk rfl e.g__law_take (pxa_cons (px_var 0) (pxa_cons (px_callB ca_len rfl e.b_len bo_len (pxa_cons (px_var 1) pxa_nil)) pxa_nil))))))
theorem ok__law_drawn_marks (e : Wd K mg) : FnX P w K mg base (cas K) 3 (a__law_drawn_marks K) F__law_drawn_marks := by
  obtain ⟨fd, F⟩ := e.d__law_drawn_marks
  refine fnX_of (N := N__law_drawn_marks) (ps := ["_law_pot_here", "_law_count"]) (m := 2) (dxs := []) F sc__law_drawn_marks (F.bindsN fun _ _ _ _ _ _ us hl => match us, hl with | [_, _], _ => rfl) .nil (fun _ _ => .nil) rfl fun cdv A outer s H E hr tk po => ?_
  have hu := hr.units
  have hu1 := Nat.lt_of_le_of_lt (Nat.add_le_add_left (show 1 ≤ 64 by decide) _) hu
  exact (pxss_cons (pxs_set 2 sc__law_drawn_marks.nd (px_tup pxa_nil))
      (pxss_cons (pxs_for (vs := [3]) po rfl (pxi_range1 rfl e.b_range (px_var 1)) (pxg_name 3 (by decide) sc__law_drawn_marks.nd) (pxss_one (pxs_set 2 sc__law_drawn_marks.nd (px_op om_add (px_var 2) (px_tup (pxa_cons (px_call ((ok__law_of e).mono (by decide)) hr tk rfl e.g__law_of (pxa_cons (px_var 0) (pxa_cons (px_op om_add (px_lst (pxa_cons (px_var 3) pxa_nil)) (px_ss rfl rfl e.b_sorted rfl e.b_set (px_var 2))) pxa_nil))) pxa_nil))))))
      (pxss_one (pxs_ret (px_var 2)))))
theorem ok_Standing_bare (e : Wd K mg) : FnX P w K mg base (cas K) 5 (a_Standing_bare K) F_Standing_bare := by
  obtain ⟨fd, F⟩ := e.d_Standing_bare
  refine fnX_of (N := N_Standing_bare) (ps := ["wires"]) (m := 1) (dxs := []) F sc_Standing_bare (F.bindsN fun _ _ _ _ _ _ us hl => match us, hl with | [_], _ => rfl) .nil (fun _ _ => .nil) rfl fun cdv A outer s H E hr tk po => ?_
  have hu := hr.units
  have hu1 := Nat.lt_of_le_of_lt (Nat.add_le_add_left (show 1 ≤ 64 by decide) _) hu
  exact (pxss_cons (pxs_if (pxt_not (pxt_of (px_call ((ok_is_integer e).mono (by decide)) hr tk rfl e.g_is_integer (pxa_cons (px_var 0) (pxa_cons px_int (pxa_cons (px_gint rfl e.c_MOST_WIRES) pxa_nil)))))) (pxss_one pxs_never) pxss_nil)
      (pxss_one (pxs_ret (px_make (c := 0) e.mk_Standing ((ok_Standing___init__ e).mono (by decide)) hr tk rfl e.g_Standing (pxa_cons (px_callT ca_tuple rfl e.b_tuple bo_tuple (pxa_cons (px_lrg rfl rfl e.b_list rfl e.b_range (px_op om_add (px_var 0) (px_gint rfl e.c_SUPPLY))) pxa_nil)) pxa_nil)))))
theorem ok__law_right (e : Wd K mg) : FnX P w K mg base (cas K) 7 (a__law_right K) F__law_right := by
  obtain ⟨fd, F⟩ := e.d__law_right
  refine fnX_of (N := N__law_right) (ps := ["_law_pot_here"]) (m := 1) (dxs := []) F sc__law_right (F.bindsN fun _ _ _ _ _ _ us hl => match us, hl with | [_], _ => rfl) .nil (fun _ _ => .nil) rfl fun cdv A outer s H E hr tk po => ?_
  have hu := hr.units
  have hu1 := Nat.lt_of_le_of_lt (Nat.add_le_add_left (show 1 ≤ 64 by decide) _) hu
  exact (pxss_cons (pxs_set 1 sc__law_right.nd (px_op om_add px_int (px_call ((ok__law_take e).mono (by decide)) hr tk rfl e.g__law_take (pxa_cons (px_var 0) (pxa_cons px_int pxa_nil)))))
      (pxss_cons (pxs_setLc (own := [("_law_lap", 3)]) (k := 2) rfl sc__law_right.nd rfl rfl (sw_true rfl rfl rfl (by decide +kernel)) (pxi_range1 rfl e.b_range px_int) (blkOk_by (own := [("_law_lap", 3)]) (N := N__law_right) (sc := defScope t__law_right) (by decide +kernel)) (fun _ _ _ _ _ => (pxg_name 3 (by decide) sc__law_right.nd)) (fun _ _ _ _ _ => pxts_nil) (fun _ _ _ _ _ => (px_make (c := 0) e.mk_Standing ((ok_Standing___init__ e).mono (by decide)) hr takes0 rfl e.g_Standing (pxa_cons (px_call ((ok__law_drawn_marks e).mono (by decide)) hr takes0 rfl e.g__law_drawn_marks (pxa_cons (px_var 0) (pxa_cons (px_var 1) pxa_nil))) pxa_nil))))
      (pxss_cons (pxs_set 4 sc__law_right.nd (px_sm e.st_Standing_bare ((ok_Standing_bare e).mono (by decide)) hr tk rfl e.g_Standing (pxa_cons (px_op om_sub (px_var 1) px_int) pxa_nil)))
      (pxss_cons (pxs_if (pxt_w (pxw_or (pxt_not (pxt_of (px_meth (c := 0) e.o_Standing.sc e.m_Standing_within ((ok_Standing_within e).mono (by decide)) hr tk (px_var 4) (pxa_cons (px_ix ixm_seq (px_var 2) px_int) pxa_nil)))) (pxw_or (pxt_cmp (om_neO (c := 0) e.op_Standing___eq__ e.o_Standing.ne e.o_Standing.mo ((ok_Standing___eq__ e).mono (by decide)) hr tk) (px_op (om_own (c := 0) e.op_Standing___or__ e.o_Standing.sf ((ok_Standing___or__ e).mono (by decide)) hr tk) (px_ix ixm_seq (px_var 2) px_int) (px_var 4)) (px_ix ixm_seq (px_var 2) px_int) (by rfl)) (pxw_or1 (pxt_cmp (om_neO (c := 0) e.op_Standing___eq__ e.o_Standing.ne e.o_Standing.mo ((ok_Standing___eq__ e).mono (by decide)) hr tk) (px_op (om_own (c := 0) e.op_Standing___and__ e.o_Standing.sf ((ok_Standing___and__ e).mono (by decide)) hr tk) (px_ix ixm_seq (px_var 2) px_int) (px_var 4)) (px_var 4) (by rfl)))))) (pxss_one (pxs_ret px_bl)) pxss_nil)
      (pxss_cons (pxs_if (pxt_w (pxw_and (pxt_of (px_meth (c := 0) e.o_Standing.sc e.m_Standing_within ((ok_Standing_within e).mono (by decide)) hr tk (px_ix ixm_seq (px_var 2) px_int) (pxa_cons (px_ix ixm_seq (px_var 2) px_int) pxa_nil))) (pxw_and (pxt_of (px_meth (c := 0) e.o_Standing.sc e.m_Standing_within ((ok_Standing_within e).mono (by decide)) hr tk (px_ix ixm_seq (px_var 2) px_int) (pxa_cons (px_ix ixm_seq (px_var 2) px_int) pxa_nil))) (pxw_and1 (pxt_cmp (om_neO (c := 0) e.op_Standing___eq__ e.o_Standing.ne e.o_Standing.mo ((ok_Standing___eq__ e).mono (by decide)) hr tk) (px_ix ixm_seq (px_var 2) px_int) (px_ix ixm_seq (px_var 2) px_int) (by rfl)))))) (pxss_one (pxs_ret px_bl)) pxss_nil)
      (pxss_cons (pxs_for (vs := [5]) po rfl (pxi_range1 rfl e.b_range px_int) (pxg_name 5 (by decide) sc__law_right.nd) (pxss_one (pxs_if (pxt_not (pxt_of (px_call ((ok__law_are_bounds_right e).mono (by decide)) hr tk rfl e.g__law_are_bounds_right (pxa_cons (px_ix ixm_seq (px_var 2) (px_var 5)) (pxa_cons (px_ix ixm_seq (px_var 2) (px_op om_sub (px_var 5) px_int)) (pxa_cons (px_ix ixm_seq (px_var 2) (px_op om_sub (px_var 5) px_int)) pxa_nil)))))) (pxss_one (pxs_ret px_bl)) pxss_nil)))
      (pxss_one (pxs_ret px_bl))))))))
theorem ok_law (e : Wd K mg) : FnX P w K mg base (cas K) 8 (a_law K) F_law := by
  obtain ⟨fd, F⟩ := e.d_law
  refine fnX_of (N := N_law) (ps := ["_law_script"]) (m := 1) (dxs := []) F sc_law (F.bindsN fun _ _ _ _ _ _ us hl => match us, hl with | [_], _ => rfl) .nil (fun _ _ => .nil) rfl fun cdv A outer s H E hr tk po => ?_
  have hu := hr.units
  have hu1 := Nat.lt_of_le_of_lt (Nat.add_le_add_left (show 1 ≤ 64 by decide) _) hu
  exact (pxss_cons (pxs_setLc (own := [("_law_marks", 2)]) (k := 1) rfl sc_law.nd rfl rfl (sw_true rfl rfl rfl (by decide +kernel)) (pxi_seq (px_call ((ok__law_all_marks e).mono (by decide)) hr tk rfl e.g__law_all_marks (pxa_cons px_int pxa_nil))) (blkOk_by (own := [("_law_marks", 2)]) (N := N_law) (sc := defScope t_law) (by decide +kernel)) (fun _ _ _ _ _ => (pxg_name 2 (by decide) sc_law.nd)) (fun _ _ _ _ _ => pxts_nil) (fun _ _ _ _ _ => (px_make (c := 0) e.mk_Standing ((ok_Standing___init__ e).mono (by decide)) hr takes0 rfl e.g_Standing (pxa_cons (px_var 2) pxa_nil))))
      (pxss_cons (pxs_for (vs := [3]) po rfl (pxi_seq (px_var 1)) (pxg_name 3 (by decide) sc_law.nd) (pxss_one (pxs_for (vs := [4]) po rfl (pxi_seq (px_var 1)) (pxg_name 4 (by decide) sc_law.nd) (pxss_one (pxs_if (pxt_not (pxt_of (px_callB (ca_all rfl) rfl e.b_all bo_all (pxa_cons (px_lc (own := [("_law_third", 5)]) rfl sc_law.nd (pxi_seq (px_var 1)) (blkOk_by (own := [("_law_third", 5)]) (N := N_law) (sc := defScope t_law) (by decide +kernel)) (fun _ _ _ _ _ => (pxg_name 5 (by decide) sc_law.nd)) (fun _ _ _ _ _ => pxts_nil) (fun _ _ _ _ _ => (px_call ((ok__law_are_bounds_right e).mono (by decide)) hr takes0 rfl e.g__law_are_bounds_right (pxa_cons (px_var 3) (pxa_cons (px_var 4) (pxa_cons (px_var 5) pxa_nil)))))) pxa_nil)))) (pxss_one (pxs_ret px_bl)) pxss_nil)))))
      (pxss_cons (pxs_for (vs := [6]) po rfl (pxi_seq (px_call ((ok__law_cells e).mono (by decide)) hr tk rfl e.g__law_cells (pxa_cons (px_var 0) (pxa_cons px_int pxa_nil)))) (pxg_name 6 (by decide) sc_law.nd) (pxss_cons (pxs_set 7 sc_law.nd (px_call ((ok__law_pot e).mono (by decide)) hr tk rfl e.g__law_pot (pxa_cons (px_var 0) (pxa_cons (px_var 6) pxa_nil))))
      (pxss_one (pxs_if (pxt_not (pxt_of (px_callB (ca_all rfl) rfl e.b_all bo_all (pxa_cons (px_lc (own := [("_law_lap", 8)]) rfl sc_law.nd (pxi_range1 rfl e.b_range px_int) (blkOk_by (own := [("_law_lap", 8)]) (N := N_law) (sc := defScope t_law) (by decide +kernel)) (fun _ _ _ _ _ => (pxg_name 8 (by decide) sc_law.nd)) (fun _ _ _ _ _ => pxts_nil) (fun _ _ _ _ _ => (px_call ((ok__law_right e).mono (by decide)) hr takes0 rfl e.g__law_right (pxa_cons (px_var 7) pxa_nil)))) pxa_nil)))) (pxss_one (pxs_ret px_bl)) pxss_nil))))
      (pxss_one (pxs_ret px_bl)))))
end
section
variable {P : Program} {w : World} {K : PySem.W.Frag} {mg : Str → Option Value} {base : Heap}
theorem okl (e : Wd K mg) : ∃ fd : FuncData, (∀ (s : Shared) (v : Value), BindsTo s fd ⟨[v], []⟩ [("_law_script", v)]) ∧ ∀ base : Heap, FnOk P w K mg base CX0 8 (a_law K) fd ["_law_script"] (spL K (cas K) N_law.length s_law 1) := by
  obtain ⟨fd, F⟩ := e.d_law
  have b := FunD.bindsA (ps := ["_law_script"]) F fun _ _ _ _ _ _ us hl => match us, hl with | [_], _ => rfl
  refine ⟨fd, fun s v => b s [v] rfl, fun base => fnOk_of (N := N_law) (ps := ["_law_script"]) F sc_law fun cdv A outer s H E hr tk po => ?_⟩
  have hu := hr.units
  have hu1 := Nat.lt_of_le_of_lt (Nat.add_le_add_left (show 1 ≤ 64 by decide) _) hu
  exact (pxss_cons (pxs_setLc (own := [("_law_marks", 2)]) (k := 1) rfl sc_law.nd rfl rfl (sw_true rfl rfl rfl (by decide +kernel)) (pxi_seq (px_call ((ok__law_all_marks e).mono (by decide)) hr tk rfl e.g__law_all_marks (pxa_cons px_int pxa_nil))) (blkOk_by (own := [("_law_marks", 2)]) (N := N_law) (sc := defScope t_law) (by decide +kernel)) (fun _ _ _ _ _ => (pxg_name 2 (by decide) sc_law.nd)) (fun _ _ _ _ _ => pxts_nil) (fun _ _ _ _ _ => (px_make (c := 0) e.mk_Standing ((ok_Standing___init__ e).mono (by decide)) hr takes0 rfl e.g_Standing (pxa_cons (px_var 2) pxa_nil))))
      (pxss_cons (pxs_for (vs := [3]) po rfl (pxi_seq (px_var 1)) (pxg_name 3 (by decide) sc_law.nd) (pxss_one (pxs_for (vs := [4]) po rfl (pxi_seq (px_var 1)) (pxg_name 4 (by decide) sc_law.nd) (pxss_one (pxs_if (pxt_not (pxt_of (px_callB (ca_all rfl) rfl e.b_all bo_all (pxa_cons (px_lc (own := [("_law_third", 5)]) rfl sc_law.nd (pxi_seq (px_var 1)) (blkOk_by (own := [("_law_third", 5)]) (N := N_law) (sc := defScope t_law) (by decide +kernel)) (fun _ _ _ _ _ => (pxg_name 5 (by decide) sc_law.nd)) (fun _ _ _ _ _ => pxts_nil) (fun _ _ _ _ _ => (px_call ((ok__law_are_bounds_right e).mono (by decide)) hr takes0 rfl e.g__law_are_bounds_right (pxa_cons (px_var 3) (pxa_cons (px_var 4) (pxa_cons (px_var 5) pxa_nil)))))) pxa_nil)))) (pxss_one (pxs_ret px_bl)) pxss_nil)))))
      (pxss_cons (pxs_for (vs := [6]) po rfl (pxi_seq (px_call ((ok__law_cells e).mono (by decide)) hr tk rfl e.g__law_cells (pxa_cons (px_var 0) (pxa_cons px_int pxa_nil)))) (pxg_name 6 (by decide) sc_law.nd) (pxss_cons (pxs_set 7 sc_law.nd (px_call ((ok__law_pot e).mono (by decide)) hr tk rfl e.g__law_pot (pxa_cons (px_var 0) (pxa_cons (px_var 6) pxa_nil))))
      (pxss_one (pxs_if (pxt_not (pxt_of (px_callB (ca_all rfl) rfl e.b_all bo_all (pxa_cons (px_lc (own := [("_law_lap", 8)]) rfl sc_law.nd (pxi_range1 rfl e.b_range px_int) (blkOk_by (own := [("_law_lap", 8)]) (N := N_law) (sc := defScope t_law) (by decide +kernel)) (fun _ _ _ _ _ => (pxg_name 8 (by decide) sc_law.nd)) (fun _ _ _ _ _ => pxts_nil) (fun _ _ _ _ _ => (px_call ((ok__law_right e).mono (by decide)) hr takes0 rfl e.g__law_right (pxa_cons (px_var 7) pxa_nil)))) pxa_nil)))) (pxss_one (pxs_ret px_bl)) pxss_nil))))
      (pxss_one (pxs_ret px_bl)))))
end
abbrev lawFact : Nat := 50
def fa : List FaB := [fun K => (He.Fa.glo "_law_all_marks").ok K,
  fun K => (He.Fa.glo "is_tuple").ok K,
  fun K => (He.Fa.glo "is_integer").ok K,
  fun K => (He.Fa.glo "are_marks").ok K,
  fun K => (He.Fa.glo "Standing").ok K,
  fun K => (He.Fa.glo "marks_by").ok K,
  fun K => (He.Fa.glo "root_of").ok K,
  fun K => (He.Fa.glo "grouped").ok K,
  fun K => (He.Fa.glo "_law_are_bounds_right").ok K,
  fun K => (He.Fa.glo "_law_cells").ok K,
  fun K => (He.Fa.glo "_law_pot").ok K,
  fun K => (He.Fa.glo "_law_take").ok K,
  fun K => (He.Fa.glo "_law_of").ok K,
  fun K => (He.Fa.glo "_law_drawn_marks").ok K,
  fun K => (He.Fa.glo "_law_right").ok K,
  fun K => (He.Fa.free "range").ok K,
  fun K => (He.Fa.free "sorted").ok K,
  fun K => (He.Fa.free "set").ok K,
  fun K => (He.Fa.free "isinstance").ok K,
  fun K => (He.Fa.free "tuple").ok K,
  fun K => (He.Fa.free "len").ok K,
  fun K => (He.Fa.free "all").ok K,
  fun K => (He.Fa.free "enumerate").ok K,
  fun K => (He.Fa.free "int").ok K,
  fun K => (He.Fa.free "bool").ok K,
  fun K => (He.Fa.free "list").ok K,
  fun K => (He.Fa.free "zip").ok K,
  fun K => (He.Fa.free "dict").ok K,
  fun K => (He.Fa.free "max").ok K,
  fun K => (He.Fa.free "min").ok K,
  fun K => (He.Fa.free "abs").ok K,
  fun K => (He.Fa.int "MOST_WIRES" 4).ok K,
  fun K => (He.Fa.int "SUPPLY" 2).ok K,
  fun K => (He.Fa.int "PAIR" 2).ok K,
  bOcl a_Standing,
  bSlot a_Standing "own_marks" 0,
  bPr a_Standing "wires",
  bPr a_Standing "pairs",
  bOp a_Standing "__and__",
  bOp a_Standing "__or__",
  bOp a_Standing "__contains__",
  bOp a_Standing "__eq__",
  fun K => (He.Fa.meth "Standing" "check").ok K,
  fun K => (He.Fa.meth "Standing" "within").ok K,
  bSt a_Standing "bare",
  fun K => (He.Fa.mkr "Standing").ok K,
  bTb cA [0] (fun _ => .type "tuple") (tbT ["tuple"]),
  bTb cA [0] (fun _ => .type "int") (tbT ["int", "bool"]),
  bTb cA [0] (fun _ => .type "bool") (tbT ["bool"]),
  bTb cA [0] (fun K => .ref (a_Standing K)) (tbC 0),
  fun K => (He.Fa.glo "law").ok K]
def fn : List He5.DefA := [{ at_ := a__law_all_marks, name := "_law_all_marks", qual := "_law_all_marks", params := defArgs t__law_all_marks, body := defBody t__law_all_marks, scope := defScope t__law_all_marks, dfl := [] },
  { at_ := a_is_tuple, name := "is_tuple", qual := "is_tuple", params := defArgs t_is_tuple, body := defBody t_is_tuple, scope := defScope t_is_tuple, dfl := [.non] },
  { at_ := a_is_integer, name := "is_integer", qual := "is_integer", params := defArgs t_is_integer, body := defBody t_is_integer, scope := defScope t_is_integer, dfl := [.non, .non] },
  { at_ := a_are_marks, name := "are_marks", qual := "are_marks", params := defArgs t_are_marks, body := defBody t_are_marks, scope := defScope t_are_marks, dfl := [] },
  { at_ := a_Standing___init__, name := "__init__", qual := "Standing.__init__", params := defArgs t_Standing___init__, body := defBody t_Standing___init__, scope := defScope t_Standing___init__, dfl := [] },
  { at_ := a_Standing_wires, name := "wires", qual := "Standing.wires", params := defArgs t_Standing_wires, body := defBody t_Standing_wires, scope := defScope t_Standing_wires, dfl := [] },
  { at_ := a_Standing_check, name := "check", qual := "Standing.check", params := defArgs t_Standing_check, body := defBody t_Standing_check, scope := defScope t_Standing_check, dfl := [] },
  { at_ := a_marks_by, name := "marks_by", qual := "marks_by", params := defArgs t_marks_by, body := defBody t_marks_by, scope := defScope t_marks_by, dfl := [] },
  { at_ := a_Standing___and__, name := "__and__", qual := "Standing.__and__", params := defArgs t_Standing___and__, body := defBody t_Standing___and__, scope := defScope t_Standing___and__, dfl := [] },
  { at_ := a_root_of, name := "root_of", qual := "root_of", params := defArgs t_root_of, body := defBody t_root_of, scope := defScope t_root_of, dfl := [] },
  { at_ := a_grouped, name := "grouped", qual := "grouped", params := defArgs t_grouped, body := defBody t_grouped, scope := defScope t_grouped, dfl := [] },
  { at_ := a_Standing_pairs, name := "pairs", qual := "Standing.pairs", params := defArgs t_Standing_pairs, body := defBody t_Standing_pairs, scope := defScope t_Standing_pairs, dfl := [] },
  { at_ := a_Standing___or__, name := "__or__", qual := "Standing.__or__", params := defArgs t_Standing___or__, body := defBody t_Standing___or__, scope := defScope t_Standing___or__, dfl := [] },
  { at_ := a_Standing___contains__, name := "__contains__", qual := "Standing.__contains__", params := defArgs t_Standing___contains__, body := defBody t_Standing___contains__, scope := defScope t_Standing___contains__, dfl := [] },
  { at_ := a_Standing_within, name := "within", qual := "Standing.within", params := defArgs t_Standing_within, body := defBody t_Standing_within, scope := defScope t_Standing_within, dfl := [] },
  { at_ := a_Standing___eq__, name := "__eq__", qual := "Standing.__eq__", params := defArgs t_Standing___eq__, body := defBody t_Standing___eq__, scope := defScope t_Standing___eq__, dfl := [] },
  { at_ := a__law_are_bounds_right, name := "_law_are_bounds_right", qual := "_law_are_bounds_right", params := defArgs t__law_are_bounds_right, body := defBody t__law_are_bounds_right, scope := defScope t__law_are_bounds_right, dfl := [] },
  { at_ := a__law_cells, name := "_law_cells", qual := "_law_cells", params := defArgs t__law_cells, body := defBody t__law_cells, scope := defScope t__law_cells, dfl := [] },
  { at_ := a__law_pot, name := "_law_pot", qual := "_law_pot", params := defArgs t__law_pot, body := defBody t__law_pot, scope := defScope t__law_pot, dfl := [] },
  { at_ := a__law_take, name := "_law_take", qual := "_law_take", params := defArgs t__law_take, body := defBody t__law_take, scope := defScope t__law_take, dfl := [] },
  { at_ := a__law_of, name := "_law_of", qual := "_law_of", params := defArgs t__law_of, body := defBody t__law_of, scope := defScope t__law_of, dfl := [] },
  { at_ := a__law_drawn_marks, name := "_law_drawn_marks", qual := "_law_drawn_marks", params := defArgs t__law_drawn_marks, body := defBody t__law_drawn_marks, scope := defScope t__law_drawn_marks, dfl := [] },
  { at_ := a_Standing_bare, name := "bare", qual := "Standing.bare", params := defArgs t_Standing_bare, body := defBody t_Standing_bare, scope := defScope t_Standing_bare, dfl := [] },
  { at_ := a__law_right, name := "_law_right", qual := "_law_right", params := defArgs t__law_right, body := defBody t__law_right, scope := defScope t__law_right, dfl := [] },
  { at_ := a_law, name := "law", qual := "law", params := defArgs t_law, body := defBody t_law, scope := defScope t_law, dfl := [] }]
theorem wd {K : PySem.W.Frag} {h : Heap} {mg : Str → Option Value} (X : K.In h) (G : h.Ns mainGlobals mg) (c : SaysB fa fn K) : Wd K mg := by
  have hoc : ∀ d ∈ ([0] : List Nat), Ocl K (cA d K) := by
    intro d hd
    rcases List.mem_cons.mp hd with rfl | hd
    · exact bOcl_ok (C := a_Standing) (c.fact 34 rfl)
    cases hd
  exact ⟨c.def_ 0 rfl,
    c.def_ 1 rfl,
    c.def_ 2 rfl,
    c.def_ 3 rfl,
    c.def_ 4 rfl,
    c.def_ 5 rfl,
    c.def_ 6 rfl,
    c.def_ 7 rfl,
    c.def_ 8 rfl,
    c.def_ 9 rfl,
    c.def_ 10 rfl,
    c.def_ 11 rfl,
    c.def_ 12 rfl,
    c.def_ 13 rfl,
    c.def_ 14 rfl,
    c.def_ 15 rfl,
    c.def_ 16 rfl,
    c.def_ 17 rfl,
    c.def_ 18 rfl,
    c.def_ 19 rfl,
    c.def_ 20 rfl,
    c.def_ 21 rfl,
    c.def_ 22 rfl,
    c.def_ 23 rfl,
    c.def_ 24 rfl,
    He.glo_ok X G (c.fact 0 rfl),
    He.glo_ok X G (c.fact 1 rfl),
    He.glo_ok X G (c.fact 2 rfl),
    He.glo_ok X G (c.fact 3 rfl),
    He.glo_ok X G (c.fact 4 rfl),
    He.glo_ok X G (c.fact 5 rfl),
    He.glo_ok X G (c.fact 6 rfl),
    He.glo_ok X G (c.fact 7 rfl),
    He.glo_ok X G (c.fact 8 rfl),
    He.glo_ok X G (c.fact 9 rfl),
    He.glo_ok X G (c.fact 10 rfl),
    He.glo_ok X G (c.fact 11 rfl),
    He.glo_ok X G (c.fact 12 rfl),
    He.glo_ok X G (c.fact 13 rfl),
    He.glo_ok X G (c.fact 14 rfl),
    He.free_ok X G (c.fact 15 rfl),
    He.free_ok X G (c.fact 16 rfl),
    He.free_ok X G (c.fact 17 rfl),
    He.free_ok X G (c.fact 18 rfl),
    He.free_ok X G (c.fact 19 rfl),
    He.free_ok X G (c.fact 20 rfl),
    He.free_ok X G (c.fact 21 rfl),
    He.free_ok X G (c.fact 22 rfl),
    He.free_ok X G (c.fact 23 rfl),
    He.free_ok X G (c.fact 24 rfl),
    He.free_ok X G (c.fact 25 rfl),
    He.free_ok X G (c.fact 26 rfl),
    He.free_ok X G (c.fact 27 rfl),
    He.free_ok X G (c.fact 28 rfl),
    He.free_ok X G (c.fact 29 rfl),
    He.free_ok X G (c.fact 30 rfl),
    He.int_ok X G (c.fact 31 rfl),
    He.int_ok X G (c.fact 32 rfl),
    He.int_ok X G (c.fact 33 rfl),
    bOcl_ok (C := a_Standing) (c.fact 34 rfl),
    bSlot_ok (C := a_Standing) (c.fact 35 rfl),
    bPr_ok (C := a_Standing) (c.fact 36 rfl),
    bPr_ok (C := a_Standing) (c.fact 37 rfl),
    bOp_ok (C := a_Standing) (c.fact 38 rfl),
    bOp_ok (C := a_Standing) (c.fact 39 rfl),
    bOp_ok (C := a_Standing) (c.fact 40 rfl),
    bOp_ok (C := a_Standing) (c.fact 41 rfl),
    He.meth_ok (c.fact 42 rfl),
    He.meth_ok (c.fact 43 rfl),
    bSt_ok (C := a_Standing) (c.fact 44 rfl),
    He.mkr_ok (c.fact 45 rfl),
    bTb_ok (ca := cA) (c.fact 46 rfl) hoc,
    bTb_ok (ca := cA) (c.fact 47 rfl) hoc,
    bTb_ok (ca := cA) (c.fact 48 rfl) hoc,
    bTb_ok (ca := cA) (c.fact 49 rfl) hoc⟩
abbrev Rw : PySem.W.OpenRow := PySem.W.OpenLaw.row PySem.Challenge.rw_landingwires_k03_whole_standings_least_a
abbrev hk : PySem.W.Hook := hookB 6 fa fn
def ob (s : PySem.W.SharedT) : He.AlD := obsBG 6 fa fn (HandSHeadRun.getT s)
theorem ob_eq (s : PySem.W.SharedT) : ob s = hk.obs s.abs := obsBG_eq (HandSHeadRun.getT_eq s)
def loose : List Str := ["_wall", "WireError", "BadMarks", "BadWires", "OtherWires", "PAIR", "is_integer", "is_tuple", "MOST_WIRES", "SUPPLY", "root_of", "grouped", "marks_by", "are_marks", "Standing", "_law_pot", "_law_take", "_law_of", "_law_cells", "_law_all_marks", "_law_drawn_marks", "_law_are_bounds_right", "_law_right"]
theorem run (w : World) : HandSHeadRun.RunEq Rw (PySem.W.view Rw.prog [27]) hk ob 20000 loose w := by
  intro os
  kernel_rfl
end FX

set_option Elab.async false
set_option linter.all false
set_option maxRecDepth 100000
set_option maxHeartbeats 2000000
namespace FX
def wp {α : Type} (m : M α) (h : MH) (Q : α → MH → Prop) : Prop := ∃ x h', m h = .ok x h' ∧ Q x h'
def nox : Out → Prop
  | .xc _ _ _ => False
  | _ => True
/-- a statement that raises nothing -/
def ws (m : M Out) (h : MH) (Q : Out → MH → Prop) : Prop := wp m h fun o h' => nox o ∧ Q o h'
section
variable {α β : Type} {m : M α} {k : α → M β} {h h' : MH} {Q Q' : α → MH → Prop} {Qb : β → MH → Prop}
theorem wp.mono (p : wp m h Q) (i : ∀ x h', Q x h' → Q' x h') : wp m h Q' := let ⟨x, h', e, q⟩ := p; ⟨x, h', e, i x h' q⟩
theorem ws.mono {m : M Out} {Q Q' : Out → MH → Prop} (p : ws m h Q) (i : ∀ x h', Q x h' → Q' x h') : ws m h Q' := wp.mono p fun x h' ⟨a, b⟩ => ⟨a, i x h' b⟩
@[simp] theorem wp_ret {x : α} : wp (M.ret x) h Q ↔ Q x h := ⟨fun ⟨_, _, e, q⟩ => by cases e; exact q, fun q => ⟨_, _, rfl, q⟩⟩
@[simp] theorem wp_bad : wp (M.bad : M α) h Q ↔ False := ⟨fun ⟨_, _, e, _⟩ => (nomatch e), fun z => z.elim⟩
@[simp] theorem wp_bind : wp (m.bind k) h Qb ↔ wp m h fun x h1 => wp (k x) h1 Qb := by
  constructor
  · rintro ⟨y, h2, e, q⟩
    unfold M.bind at e
    cases em : m h with
    | ok x h1 => rw [em] at e; exact ⟨x, h1, (by first | exact em | rfl), y, h2, e, q⟩
    | exc c x h1 => rw [em] at e; cases e
    | bad => rw [em] at e; cases e
  · rintro ⟨x, h1, e1, y, h2, e2, q⟩
    exact ⟨y, h2, by unfold M.bind; rw [e1]; exact e2, q⟩
@[simp] theorem wp_ite {c : Prop} [Decidable c] {m n : M α} : wp (if c then m else n) h Q ↔ if c then wp m h Q else wp n h Q := by split <;> rfl
@[simp] theorem wp_noX : wp (noX m) h Q ↔ wp m h Q := by
  unfold noX
  constructor
  · rintro ⟨x, h', e, q⟩
    cases em : m h with
    | ok x1 h1 => simp only [em] at e; exact ⟨_, _, em, by cases e; exact q⟩
    | exc c x h1 => simp only [em] at e; cases e
    | bad => simp only [em] at e; cases e
  · rintro ⟨x, h', e, q⟩
    exact ⟨x, h', by simp only [e], q⟩
@[simp] theorem wp_mAt {n : Nat} {f : MO → M α} : wp (mAt n f) h Q ↔ ∃ o, h.get n = some o ∧ wp (f o) h Q := by
  constructor
  · rintro ⟨x, h', e, q⟩
    unfold mAt at e
    cases eo : h.get n with
    | none => rw [eo] at e; cases e
    | some o => rw [eo] at e; exact ⟨o, rfl, x, h', e, q⟩
  · rintro ⟨o, eo, x, h', e, q⟩
    exact ⟨x, h', (mAt_ok eo).trans e, q⟩
@[simp] theorem wp_mNew {o : MO} {Q : PV → MH → Prop} : wp (mNew o) h Q ↔ Q (.ref h.nx) (h.new o) := ⟨fun ⟨_, _, e, q⟩ => by cases e; exact q, fun q => ⟨_, _, rfl, q⟩⟩
@[simp] theorem wp_mPut {n : Nat} {o : MO} {Q : Unit → MH → Prop} : wp (mPut n o) h Q ↔ Q () (h.put n o) := ⟨fun ⟨_, _, e, q⟩ => by cases e; exact q, fun q => ⟨_, _, rfl, q⟩⟩
variable {ρ : Env} {i j : Nat} {x y : PV} {g : PV → PV → M PV} {u : PV → M PV} {a b : EF} {t s : TF} {r : AF} {F : FF} {QP : PV → MH → Prop} {QB : Bool → MH → Prop} {QA : List PV → MH → Prop}
@[simp] theorem wp_eVar : wp (eVar i ρ) h QP ↔ ∃ x, ρ[i]? = some (some x) ∧ QP x h := by
  constructor
  · rintro ⟨x, h', e, q⟩
    unfold eVar at e
    split at e
    · rename_i y hy
      cases e; exact ⟨_, hy, q⟩
    · cases e
  · rintro ⟨x, e, q⟩
    exact ⟨x, h, by unfold eVar; rw [e], q⟩
@[simp] theorem wp_eC : wp (eC x ρ) h QP ↔ QP x h := wp_ret
@[simp] theorem wp_eOp : wp (eOp g a b ρ) h QP ↔ wp (a ρ) h fun x h1 => wp (b ρ) h1 fun y h2 => wp (g x y) h2 QP := by unfold eOp; simp only [wp_bind]
@[simp] theorem wp_eUn : wp (eUn u a ρ) h QP ↔ wp (a ρ) h fun x h1 => wp (u x) h1 QP := by unfold eUn; simp only [wp_bind]
@[simp] theorem wp_tOf : wp (tOf a ρ) h QB ↔ wp (a ρ) h fun x h1 => wp (tru x) h1 QB := by unfold tOf; simp only [wp_bind]
@[simp] theorem wp_asB : wp (asB x) h QB ↔ ∃ b, x = .bl b ∧ QB b h := by
  cases x with
  | bl b => simp [asB]
  | _ => simp [asB]
@[simp] theorem wp_tCm : wp (tCm g a b ρ) h QB ↔ wp (a ρ) h fun x h1 => wp (b ρ) h1 fun y h2 => wp (g x y) h2 fun z h3 => ∃ k, z = .bl k ∧ QB k h3 := by unfold tCm; simp only [wp_bind, wp_eOp, wp_asB]
@[simp] theorem wp_tNo : wp (tNo t ρ) h QB ↔ wp (t ρ) h fun k h1 => QB (!k) h1 := by unfold tNo; simp only [wp_bind, wp_ret]
@[simp] theorem wp_tAn : wp (tAn t s ρ) h QB ↔ wp (t ρ) h fun k h1 => if k = true then wp (s ρ) h1 QB else QB false h1 := by unfold tAn; simp only [wp_bind, wp_ite, wp_ret]
@[simp] theorem wp_tOo : wp (tOo t s ρ) h QB ↔ wp (t ρ) h fun k h1 => if k = true then QB true h1 else wp (s ρ) h1 QB := by unfold tOo; simp only [wp_bind, wp_ite, wp_ret]
@[simp] theorem wp_eAn : wp (eAn a b ρ) h QP ↔ wp (a ρ) h fun x h1 => wp (tru x) h1 fun k h2 => if k = true then wp (b ρ) h2 QP else QP x h2 := by unfold eAn; simp only [wp_bind, wp_ite, wp_ret]
@[simp] theorem wp_eOo : wp (eOo a b ρ) h QP ↔ wp (a ρ) h fun x h1 => wp (tru x) h1 fun k h2 => if k = true then QP x h2 else wp (b ρ) h2 QP := by unfold eOo; simp only [wp_bind, wp_ite, wp_ret]
@[simp] theorem wp_eNo : wp (eNo a ρ) h QP ↔ wp (a ρ) h fun x h1 => wp (tru x) h1 fun k h2 => QP (.bl (!k)) h2 := by unfold eNo; simp only [wp_bind, wp_ret]
@[simp] theorem wp_eIf : wp (eIf t a b ρ) h QP ↔ wp (t ρ) h fun k h1 => if k = true then wp (a ρ) h1 QP else wp (b ρ) h1 QP := by unfold eIf; simp only [wp_bind, wp_ite]
@[simp] theorem wp_tYes : wp (tYes ρ) h QB ↔ QB true h := wp_ret
@[simp] theorem wp_aNil : wp (aNil ρ) h QA ↔ QA [] h := wp_ret
@[simp] theorem wp_aCons : wp (aCons a r ρ) h QA ↔ wp (a ρ) h fun x h1 => wp (r ρ) h1 fun xs h2 => QA (x :: xs) h2 := by unfold aCons; simp only [wp_bind, wp_ret]
@[simp] theorem wp_eTup : wp (eTup r ρ) h QP ↔ wp (r ρ) h fun xs h1 => if xs.length ≤ 10000000 then QP (.tup xs) h1 else False := by unfold eTup; simp only [wp_bind, wp_ite, wp_ret, wp_bad]
@[simp] theorem wp_eLst : wp (eLst r ρ) h QP ↔ wp (r ρ) h fun xs h1 => if xs.length ≤ 10000000 then QP (.ref h1.nx) (h1.new (.lst xs)) else False := by unfold eLst; simp only [wp_bind, wp_ite, wp_mNew, wp_bad]
@[simp] theorem wp_eApp : wp (eApp F r ρ) h QP ↔ wp (r ρ) h fun xs h1 => wp (F xs) h1 QP := by unfold eApp; simp only [wp_bind]
@[simp] theorem wp_aStar : wp (aStar a r ρ) h QA ↔ wp (a ρ) h fun x h1 => wp (mSeq x fun xs => (r ρ).bind fun ys => M.ret (xs ++ ys)) h1 QA := by unfold aStar; simp only [wp_bind]
variable {S U : SF} {QO : Out → MH → Prop} {G : GF}
@[simp] theorem nox_nx : nox (.nx ρ) ↔ True := Iff.rfl
@[simp] theorem nox_rt : nox (.rt x) ↔ True := Iff.rfl
@[simp] theorem nox_bk : nox (.bk ρ) ↔ True := Iff.rfl
@[simp] theorem nox_ct : nox (.ct ρ) ↔ True := Iff.rfl
@[simp] theorem ws_ret {o : Out} : ws (M.ret o) h QO ↔ nox o ∧ QO o h := wp_ret
@[simp] theorem ws_bad : ws (M.bad : M Out) h QO ↔ False := wp_bad
@[simp] theorem ws_sThen {k : α → M Out} : ws (sThen m ρ k) h QO ↔ wp m h fun x h1 => ws (k x) h1 QO := by
  unfold ws
  constructor
  · rintro ⟨o, h2, e, n, q⟩
    unfold sThen at e
    cases em : m h with
    | ok x h1 => rw [em] at e; exact ⟨x, h1, (by first | exact em | rfl), o, h2, e, n, q⟩
    | exc c x h1 => rw [em] at e; cases e; exact n.elim
    | bad => rw [em] at e; cases e
  · rintro ⟨x, h1, e1, o, h2, e2, q⟩
    exact ⟨o, h2, by unfold sThen; rw [e1]; exact e2, q⟩
@[simp] theorem ws_ite {c : Prop} [Decidable c] {m n : M Out} : ws (if c then m else n) h QO ↔ if c then ws m h QO else ws n h QO := by split <;> rfl
@[simp] theorem ws_sExp : ws (sExp a ρ) h QO ↔ wp (a ρ) h fun _ h1 => QO (.nx ρ) h1 := by unfold sExp; simp
@[simp] theorem ws_sRet : ws (sRet a ρ) h QO ↔ wp (a ρ) h fun x h1 => QO (.rt x) h1 := by unfold sRet; simp
@[simp] theorem ws_sRetN : ws (sRetN ρ) h QO ↔ QO (.rt .non) h := by unfold sRetN; simp
@[simp] theorem ws_sPass : ws (sPass ρ) h QO ↔ QO (.nx ρ) h := by unfold sPass; simp
@[simp] theorem ws_sBrk : ws (sBrk ρ) h QO ↔ QO (.bk ρ) h := by unfold sBrk; simp
@[simp] theorem ws_sCnt : ws (sCnt ρ) h QO ↔ QO (.ct ρ) h := by unfold sCnt; simp
@[simp] theorem ws_sNev : ws (sNev ρ) h QO ↔ False := ws_bad
@[simp] theorem ws_sAsg : ws (sAsg a G ρ) h QO ↔ wp (a ρ) h fun x h1 => wp (G x ρ) h1 fun ρ' h2 => QO (.nx ρ') h2 := by unfold sAsg; simp
@[simp] theorem wp_gSet {QE : Env → MH → Prop} : wp (gSet i x ρ) h QE ↔ QE (ρ.set i (some x)) h := wp_ret
def nxt (Q : Env → MH → Prop) (Q' : Out → MH → Prop) : Out → MH → Prop
  | .nx ρ, h => Q ρ h
  | o, h => Q' o h
@[simp] theorem nxt_nx {Q : Env → MH → Prop} : nxt Q QO (.nx ρ) h ↔ Q ρ h := Iff.rfl
@[simp] theorem nxt_rt {Q : Env → MH → Prop} : nxt Q QO (.rt x) h ↔ QO (.rt x) h := Iff.rfl
@[simp] theorem nxt_bk {Q : Env → MH → Prop} : nxt Q QO (.bk ρ) h ↔ QO (.bk ρ) h := Iff.rfl
@[simp] theorem nxt_ct {Q : Env → MH → Prop} : nxt Q QO (.ct ρ) h ↔ QO (.ct ρ) h := Iff.rfl
@[simp] theorem ws_sSeq : ws (sSeq S U ρ) h QO ↔ ws (S ρ) h (nxt (fun ρ' h1 => ws (U ρ') h1 QO) QO) := by
  unfold ws sSeq
  simp only [wp_bind]
  constructor
  · rintro ⟨o, h1, e, p⟩
    cases o with
    | nx ρ' => exact ⟨_, h1, e, trivial, p⟩
    | rt x => exact ⟨_, h1, e, wp_ret.mp p⟩
    | bk x => exact ⟨_, h1, e, wp_ret.mp p⟩
    | ct x => exact ⟨_, h1, e, wp_ret.mp p⟩
    | xc _ _ _ => exact ((wp_ret.mp p).1).elim
  · rintro ⟨o, h1, e, n, p⟩
    refine ⟨o, h1, e, ?_⟩
    cases o with
    | nx ρ' => exact p
    | rt x => exact wp_ret.mpr ⟨n, p⟩
    | bk x => exact wp_ret.mpr ⟨n, p⟩
    | ct x => exact wp_ret.mpr ⟨n, p⟩
    | xc _ _ _ => exact n.elim
@[simp] theorem ws_sIf : ws (sIf t S U ρ) h QO ↔ wp (t ρ) h fun k h1 => if k = true then ws (S ρ) h1 QO else ws (U ρ) h1 QO := by unfold sIf; simp
@[simp] theorem ws_sPar {i j : Nat} : ws (sPar i j r ρ) h QO ↔ wp (r ρ) h fun xs h1 => ∃ x y, xs = [x, y] ∧ QO (.nx ((ρ.set i (some x)).set j (some y))) h1 := by
  unfold sPar
  simp only [ws_sThen]
  constructor
  · intro p
    refine p.mono fun xs h1 q => ?_
    match xs, q with
    | [], q => exact (ws_bad.mp q).elim
    | [_], q => exact (ws_bad.mp q).elim
    | [x, y], q => exact ⟨x, y, rfl, (ws_ret.mp q).2⟩
    | _ :: _ :: _ :: _, q => exact (ws_bad.mp q).elim
  · intro p
    refine p.mono fun xs h1 ⟨x, y, e, q⟩ => ?_
    subst e
    exact ws_ret.mpr ⟨trivial, q⟩
/-- a body's run -/
theorem wp_runB {n : Nat} {xs : List PV} (p : ws (S (xs.map some ++ List.replicate (n - xs.length) none)) h fun o h' => match o with
    | .nx _ => QP .non h'
    | .rt x => QP x h'
    | _ => False) : wp (runB n S xs) h QP := by
  unfold runB
  rw [wp_bind, wp_noX]
  refine wp.mono p fun o h' ⟨nn, q⟩ => ?_
  cases o with
  | nx _ => exact wp_ret.mpr q
  | rt x => exact wp_ret.mpr q
  | _ => exact q.elim
theorem wp_defB {n k : Nat} {dxs xs : List PV} (hl : xs.length = k) (p : wp (runB n S (xs ++ dxs)) h QP) : wp (defB n k dxs S xs) h QP := by
  unfold defB
  rw [if_pos hl]; exact p
/-- how a turn ends -/
def turnQ (I : Env → MH → Prop) (Q : Out → MH → Prop) : Out → MH → Prop
  | .nx ρ, h => I ρ h
  | .ct ρ, h => I ρ h
  | .bk ρ, h => Q (.nx ρ) h
  | .rt x, h => Q (.rt x) h
  | .xc _ _ _, _ => False
@[simp] theorem turnQ_nx {I : Env → MH → Prop} : turnQ I QO (.nx ρ) h ↔ I ρ h := Iff.rfl
@[simp] theorem turnQ_ct {I : Env → MH → Prop} : turnQ I QO (.ct ρ) h ↔ I ρ h := Iff.rfl
@[simp] theorem turnQ_bk {I : Env → MH → Prop} : turnQ I QO (.bk ρ) h ↔ QO (.nx ρ) h := Iff.rfl
@[simp] theorem turnQ_rt {I : Env → MH → Prop} : turnQ I QO (.rt x) h ↔ QO (.rt x) h := Iff.rfl
theorem ws_forN {nx : Src} {n : Nat} (I : Nat → Env → MH → Prop) (step : ∀ i ρ h, i < n → I i ρ h → ∃ x, nx i h = some (some x) ∧ wp (G x ρ) h fun ρ' h1 => ws (S ρ') h1 (turnQ (I (i + 1)) QO)) (last : ∀ ρ h, I n ρ h → nx n h = some none ∧ QO (.nx ρ) h) :
    ∀ (f i : Nat) (ρ : Env) (h : MH), i ≤ n → n - i < f → I i ρ h → ws (forN nx G S f i ρ) h QO
  | 0, _, _, _, _, hf, _ => absurd hf (Nat.not_lt_zero _)
  | f + 1, i, ρ, h, hi, hf, p => by
    by_cases e : i = n
    · subst e
      obtain ⟨e1, q⟩ := last ρ h p
      refine ⟨.nx ρ, h, ?_, trivial, q⟩
      unfold forN
      rw [e1]
    · obtain ⟨x, e1, q⟩ := step i ρ h (by omega) p
      have q2 : ws (sThen (G x ρ) ρ fun ρ' => S ρ') h (turnQ (I (i + 1)) QO) := ws_sThen.mpr q
      obtain ⟨o, h2, e2, n2, q2⟩ := q2
      have cont : ∀ ρ2, I (i + 1) ρ2 h2 → ws (forN nx G S f (i + 1) ρ2) h2 QO := fun ρ2 p2 => ws_forN I step last f (i + 1) ρ2 h2 (by omega) (by omega) p2
      have un : ∀ r, (M.bind (sThen (G x ρ) ρ fun ρ' => S ρ') fun o => match o with
        | .nx ρ' => forN nx G S f (i + 1) ρ'
        | .ct ρ' => forN nx G S f (i + 1) ρ'
        | .bk ρ' => M.ret (.nx ρ')
        | o => M.ret o) h = r → forN nx G S (f + 1) i ρ h = r := fun r z => by
        unfold forN
        rw [e1]; exact z
      cases o with
      | nx ρ2 =>
        obtain ⟨o3, h3, e3, z⟩ := cont ρ2 q2
        exact ⟨o3, h3, un _ (by rw [M.bind_ok e2]; exact e3), z⟩
      | ct ρ2 =>
        obtain ⟨o3, h3, e3, z⟩ := cont ρ2 q2
        exact ⟨o3, h3, un _ (by rw [M.bind_ok e2]; exact e3), z⟩
      | bk ρ2 => exact ⟨.nx ρ2, h2, un _ (by rw [M.bind_ok e2]; rfl), trivial, q2⟩
      | rt x2 => exact ⟨.rt x2, h2, un _ (by rw [M.bind_ok e2]; rfl), trivial, q2⟩
      | xc _ _ _ => exact n2.elim
theorem ws_sFor {s : IF} (I : Nat → Env → MH → Prop) (n : Nat) (hn : n < fuel) (p : wp (s ρ) h fun nx h1 => I 0 ρ h1 ∧ (∀ i ρ h, i < n → I i ρ h → ∃ x, nx i h = some (some x) ∧ wp (G x ρ) h fun ρ' h1 => ws (S ρ') h1 (turnQ (I (i + 1)) QO)) ∧
    ∀ ρ h, I n ρ h → nx n h = some none ∧ QO (.nx ρ) h) : ws (sFor s G S ρ) h QO := by
  unfold sFor
  rw [ws_sThen]
  exact p.mono fun nx h1 ⟨p0, step, last⟩ => ws_forN I step last fuel 0 ρ h1 (Nat.zero_le _) (by omega) p0
theorem ws_wN (I : Nat → Env → MH → Prop) (step : ∀ m ρ h, I m ρ h → wp (t ρ) h fun k h1 => if k = true then ws (S ρ) h1 (turnQ (fun ρ' h2 => ∃ m', m' < m ∧ I m' ρ' h2) QO) else QO (.nx ρ) h1) :
    ∀ (f m : Nat) (ρ : Env) (h : MH), m < f → I m ρ h → ws (wN t S f ρ) h QO
  | 0, _, _, _, hf, _ => absurd hf (Nat.not_lt_zero _)
  | f + 1, m, ρ, h, hf, p => by
    unfold wN
    rw [ws_sThen]
    refine (step m ρ h p).mono fun k h1 q => ?_
    cases k with
    | false => exact ws_ret.mpr ⟨trivial, by simpa using q⟩
    | true =>
      simp only [if_true] at q ⊢
      obtain ⟨o, h2, e2, n2, q2⟩ := q
      cases o with
      | nx ρ2 =>
        obtain ⟨m', hm, p2⟩ := q2
        obtain ⟨o3, h3, e3, z⟩ := ws_wN I step f m' ρ2 h2 (by omega) p2
        exact ⟨o3, h3, by rw [M.bind_ok e2]; exact e3, z⟩
      | ct ρ2 =>
        obtain ⟨m', hm, p2⟩ := q2
        obtain ⟨o3, h3, e3, z⟩ := ws_wN I step f m' ρ2 h2 (by omega) p2
        exact ⟨o3, h3, by rw [M.bind_ok e2]; exact e3, z⟩
      | bk ρ2 => exact ⟨.nx ρ2, h2, by rw [M.bind_ok e2]; rfl, trivial, q2⟩
      | rt x2 => exact ⟨.rt x2, h2, by rw [M.bind_ok e2]; rfl, trivial, q2⟩
      | xc _ _ _ => exact n2.elim
theorem ws_sWh (I : Nat → Env → MH → Prop) (m : Nat) (hm : m < fuel) (p : I m ρ h) (step : ∀ m ρ h, I m ρ h → wp (t ρ) h fun k h1 => if k = true then ws (S ρ) h1 (turnQ (fun ρ' h2 => ∃ m', m' < m ∧ I m' ρ' h2) QO) else QO (.nx ρ) h1) : ws (sWh t S ρ) h QO :=
  ws_wN I step fuel m ρ h hm p
theorem wp_compN {nx : Src} {n : Nat} {ρ : Env} {e : EF} (hn : n ≤ 10000000) (I : Nat → List PV → MH → Prop) (step : ∀ i acc h, i < n → I i acc h → ∃ x, nx i h = some (some x) ∧ wp (G x ρ) h fun ρ2 h2 => wp (t ρ2) h2 fun k h3 => if k = true then wp (e ρ2) h3 fun y h4 => I (i + 1) (acc ++ [y]) h4 else I (i + 1) acc h3)
    (last : ∀ acc h, I n acc h → nx n h = some none) : ∀ (f i : Nat) (acc : List PV) (h : MH), i ≤ n → n - i < f → acc.length ≤ i → I i acc h → wp (compN nx G t e f i acc.length ρ) h fun ys h' => I n (acc ++ ys) h'
  | 0, _, _, _, _, hf, _, _ => absurd hf (Nat.not_lt_zero _)
  | f + 1, i, acc, h, hi, hf, hl, p => by
    by_cases ei : i = n
    · subst ei
      have e1 := last acc h p
      refine ⟨[], h, ?_, by show I i (acc ++ []) h; rw [List.append_nil]; exact p⟩
      unfold compN
      rw [e1]
    · obtain ⟨x, e1, q⟩ := step i acc h (by omega) p
      have un : ∀ Q, wp ((G x ρ).bind fun ρ2 => (t ρ2).bind fun b => if b then (e ρ2).bind fun y => if acc.length < 10000000 then (compN nx G t e f (i + 1) (acc.length + 1) ρ).bind fun ys => M.ret (y :: ys) else M.bad
        else compN nx G t e f (i + 1) acc.length ρ) h Q → wp (compN nx G t e (f + 1) i acc.length ρ) h Q := fun Q ⟨a, b, c, d⟩ => ⟨a, b, by unfold compN; rw [e1]; exact c, d⟩
      refine un _ ?_
      rw [wp_bind]
      refine q.mono fun ρ2 h2 q => ?_
      rw [wp_bind]
      refine q.mono fun k h3 q => ?_
      cases k with
      | true =>
        simp only [if_true] at q ⊢
        rw [wp_bind]
        refine q.mono fun y h4 q => ?_
        rw [if_pos (by omega), wp_bind]
        have z := wp_compN hn I step last f (i + 1) (acc ++ [y]) h4 (by omega) (by omega) (by rw [List.length_append, List.length_singleton]; omega) q
        rw [List.length_append, List.length_singleton] at z
        refine z.mono fun ys h5 q => ?_
        rw [wp_ret]
        rw [List.append_assoc] at q
        exact q
      | false =>
        simp only [Bool.false_eq_true, if_false] at q ⊢
        exact wp_compN hn I step last f (i + 1) acc h3 (by omega) (by omega) (by omega) q
theorem wp_eLc {s : IF} {vs : List Nat} {e : EF} (I : Nat → List PV → MH → Prop) (n : Nat) (hn : n ≤ 10000000) (p : wp (s ρ) h fun nx h1 => I 0 [] h1 ∧ (∀ i acc h, i < n → I i acc h → ∃ x, nx i h = some (some x) ∧ wp (G x (wipeE ρ vs)) h fun ρ2 h2 => wp (t ρ2) h2 fun k h3 => if k = true then wp (e ρ2) h3 fun y h4 => I (i + 1) (acc ++ [y]) h4 else I (i + 1) acc h3) ∧
    ∀ acc h, I n acc h → nx n h = some none ∧ QP (.ref h.nx) (h.new (.lst acc))) : wp (eLc s vs G t e ρ) h QP := by
  unfold eLc
  rw [wp_bind]
  refine p.mono fun nx h1 ⟨p0, step, last⟩ => ?_
  rw [wp_bind, wp_noX]
  have z := wp_compN (e := e) hn I step (fun acc h p => (last acc h p).1) fuel 0 [] h1 (Nat.zero_le _) (by unfold fuel; omega) (Nat.le_refl _) p0
  refine z.mono fun ys h2 q => ?_
  rw [List.nil_append] at q
  exact wp_mNew.mpr (last ys h2 q).2
theorem wp_dcompN {nx : Src} {n : Nat} {ρ : Env} {ek ev : EF} (I : Nat → List (PV × PV) → MH → Prop) (step : ∀ i acc h, i < n → I i acc h → ∃ x, nx i h = some (some x) ∧ wp (G x ρ) h fun ρ2 h2 => wp (t ρ2) h2 fun k h3 => if k = true then wp (ek ρ2) h3 fun y h4 => wp (ev ρ2) h4 fun z h5 => (asK y).isSome = true ∧ acc.length < 10000000 ∧ I (i + 1) (dPut acc y z) h5 else I (i + 1) acc h3)
    (last : ∀ acc h, I n acc h → nx n h = some none) : ∀ (f i : Nat) (acc : List (PV × PV)) (h : MH), i ≤ n → n - i < f → I i acc h → wp (dcompN nx G t ek ev f i acc ρ) h fun kvs h' => I n kvs h'
  | 0, _, _, _, _, hf, _ => absurd hf (Nat.not_lt_zero _)
  | f + 1, i, acc, h, hi, hf, p => by
    by_cases ei : i = n
    · subst ei
      have e1 := last acc h p
      refine ⟨acc, h, ?_, p⟩
      unfold dcompN
      rw [e1]
    · obtain ⟨x, e1, q⟩ := step i acc h (by omega) p
      have un : ∀ Q, wp ((G x ρ).bind fun ρ2 => (t ρ2).bind fun b => if b then (ek ρ2).bind fun y => (ev ρ2).bind fun z => match asK y with
          | some _ => if acc.length < 10000000 then dcompN nx G t ek ev f (i + 1) (dPut acc y z) ρ else M.bad
          | none => M.bad
        else dcompN nx G t ek ev f (i + 1) acc ρ) h Q → wp (dcompN nx G t ek ev (f + 1) i acc ρ) h Q := fun Q ⟨a, b, c, d⟩ => ⟨a, b, by unfold dcompN; rw [e1]; exact c, d⟩
      refine un _ ?_
      rw [wp_bind]
      refine q.mono fun ρ2 h2 q => ?_
      rw [wp_bind]
      refine q.mono fun k h3 q => ?_
      cases k with
      | true =>
        simp only [if_true] at q ⊢
        rw [wp_bind]
        refine q.mono fun y h4 q => ?_
        rw [wp_bind]
        refine q.mono fun z h5 ⟨q1, q2, q3⟩ => ?_
        cases hk : asK y with
        | none => rw [hk] at q1; cases q1
        | some k =>
          simp only [if_pos q2]
          exact wp_dcompN I step last f (i + 1) _ h5 (by omega) (by omega) q3
      | false =>
        simp only [Bool.false_eq_true, if_false] at q ⊢
        exact wp_dcompN I step last f (i + 1) acc h3 (by omega) (by omega) q
theorem wp_eDc {s : IF} {vs : List Nat} {ek ev : EF} (I : Nat → List (PV × PV) → MH → Prop) (n : Nat) (hn : n < fuel) (p : wp (s ρ) h fun nx h1 => I 0 [] h1 ∧ (∀ i acc h, i < n → I i acc h → ∃ x, nx i h = some (some x) ∧ wp (G x (wipeE ρ vs)) h fun ρ2 h2 => wp (t ρ2) h2 fun k h3 => if k = true then wp (ek ρ2) h3 fun y h4 => wp (ev ρ2) h4 fun z h5 => (asK y).isSome = true ∧ acc.length < 10000000 ∧ I (i + 1) (dPut acc y z) h5 else I (i + 1) acc h3) ∧
    ∀ acc h, I n acc h → nx n h = some none ∧ QP (.ref h.nx) (h.new (.dct acc))) : wp (eDc s vs G t ek ev ρ) h QP := by
  unfold eDc
  rw [wp_bind]
  refine p.mono fun nx h1 ⟨p0, step, last⟩ => ?_
  rw [wp_bind, wp_noX]
  have z := wp_dcompN (ek := ek) (ev := ev) I step (fun acc h p => (last acc h p).1) fuel 0 [] h1 (Nat.zero_le _) (by omega) p0
  exact z.mono fun ys h2 q => wp_mNew.mpr (last ys h2 q).2
end
end FX

set_option linter.all false
namespace FX
/-- own marks: the least of its part, for each -/
def Mk (n : Nat) (x : Nat → Nat) : Prop := ∀ i, i < n → x i ≤ i ∧ x (x i) = x i
/-- all that x joins, y joins -/
def Wi (n : Nat) (x y : Nat → Nat) : Prop := ∀ i, i < n → y (x i) = y i
def Eqm (n : Nat) (x y : Nat → Nat) : Prop := ∀ i, i < n → x i = y i
instance {n : Nat} {x y : Nat → Nat} : Decidable (Eqm n x y) := by unfold Eqm; infer_instance
instance {n : Nat} {x y : Nat → Nat} : Decidable (Wi n x y) := by unfold Wi; infer_instance
structure JoinOf (n : Nat) (x y m : Nat → Nat) : Prop where
  ok : Mk n m
  up : ∀ z : Nat → Nat, Wi n m z ↔ Wi n x z ∧ Wi n y z
structure MeetOf (n : Nat) (x y m : Nat → Nat) : Prop where
  ok : Mk n m
  up : ∀ z : Nat → Nat, (∀ i, i < n → z i < n) → (Wi n z m ↔ Wi n z x ∧ Wi n z y)
section
variable {n : Nat} {x y z m m' p q : Nat → Nat}
theorem Mk.lt (h : Mk n x) : ∀ i, i < n → x i < n := fun i hi => Nat.lt_of_le_of_lt (h i hi).1 hi
theorem Mk.refl (h : Mk n x) : Wi n x x := fun i hi => (h i hi).2
theorem Wi.trans (hx : Mk n x) (hy : Mk n y) (a : Wi n x y) (b : Wi n y z) : Wi n x z := fun i hi => by
  have h1 := b (x i) (hx.lt i hi)
  rw [a i hi, b i hi] at h1
  exact h1.symm
theorem Wi.anti (hx : Mk n x) (hy : Mk n y) (a : Wi n x y) (b : Wi n y x) : Eqm n x y := fun i hi => by
  have h1 := (hy (x i) (hx.lt i hi)).1
  rw [a i hi] at h1
  have h2 := (hx (y i) (hy.lt i hi)).1
  rw [b i hi] at h2
  omega
theorem Eqm.symm (h : Eqm n x y) : Eqm n y x := fun i hi => (h i hi).symm
theorem Eqm.wi (hx : Mk n x) (hy : Mk n y) (h : Eqm n x y) : Wi n x y := fun i hi => by
  rw [h i hi]; exact (hy i hi).2
theorem JoinOf.l (j : JoinOf n x y m) : Wi n x m := ((j.up m).mp j.ok.refl).1
theorem JoinOf.r (j : JoinOf n x y m) : Wi n y m := ((j.up m).mp j.ok.refl).2
theorem MeetOf.l (j : MeetOf n x y m) : Wi n m x := ((j.up m j.ok.lt).mp j.ok.refl).1
theorem MeetOf.r (j : MeetOf n x y m) : Wi n m y := ((j.up m j.ok.lt).mp j.ok.refl).2
/-- (x | y) | z = x | (y | z) -/
theorem join_assoc (j1 : JoinOf n x y m) (j2 : JoinOf n m z p) (j3 : JoinOf n y z m') (j4 : JoinOf n x m' q) : Eqm n p q := by
  refine Wi.anti j2.ok j4.ok ((j2.up q).mpr ⟨(j1.up q).mpr ⟨j4.l, ?_⟩, ?_⟩) ((j4.up p).mpr ⟨?_, (j3.up p).mpr ⟨?_, j2.r⟩⟩)
  · exact ((j3.up q).mp j4.r).1
  · exact ((j3.up q).mp j4.r).2
  · exact ((j1.up p).mp j2.l).1
  · exact ((j1.up p).mp j2.l).2
theorem meet_assoc (j1 : MeetOf n x y m) (j2 : MeetOf n m z p) (j3 : MeetOf n y z m') (j4 : MeetOf n x m' q) : Eqm n p q := by
  refine Wi.anti j2.ok j4.ok ((j4.up p j2.ok.lt).mpr ⟨?_, (j3.up p j2.ok.lt).mpr ⟨?_, j2.r⟩⟩) ((j2.up q j4.ok.lt).mpr ⟨(j1.up q j4.ok.lt).mpr ⟨j4.l, ?_⟩, ?_⟩)
  · exact ((j1.up p j2.ok.lt).mp j2.l).1
  · exact ((j1.up p j2.ok.lt).mp j2.l).2
  · exact ((j3.up q j4.ok.lt).mp j4.r).1
  · exact ((j3.up q j4.ok.lt).mp j4.r).2
/-- x | (x & y) = x -/
theorem absorb1 (hx : Mk n x) (j1 : MeetOf n x y m) (j2 : JoinOf n x m p) : Eqm n p x := Wi.anti j2.ok hx ((j2.up x).mpr ⟨hx.refl, j1.l⟩) j2.l
theorem absorb2 (hx : Mk n x) (j1 : JoinOf n x y m) (j2 : MeetOf n x m p) : Eqm n p x := Wi.anti j2.ok hx j2.l ((j2.up x hx.lt).mpr ⟨hx.refl, j1.l⟩)
theorem bare_mk : Mk n id := fun i _ => ⟨Nat.le_refl _, rfl⟩
theorem bare_wi : Wi n id y := fun _ _ => rfl
theorem join_bare (hx : Mk n x) (j : JoinOf n x id m) : Eqm n m x := Wi.anti j.ok hx ((j.up x).mpr ⟨hx.refl, bare_wi⟩) j.l
theorem meet_bare (hx : Mk n x) (j : MeetOf n x id m) : Eqm n m id := Wi.anti j.ok bare_mk j.r bare_wi
structure IsBy {κ : Type} (n : Nat) (key : Nat → κ) (m : Nat → Nat) : Prop where
  le : ∀ i, i < n → m i ≤ i
  ke : ∀ i, i < n → key (m i) = key i
  least : ∀ i, i < n → ∀ j, j < m i → key j ≠ key i
theorem IsBy.eq {κ : Type} {key : Nat → κ} (b : IsBy n key m) {i j : Nat} (hi : i < n) (hj : j < n) : m i = m j ↔ key i = key j := by
  constructor
  · intro e
    rw [← b.ke i hi, e, b.ke j hj]
  · intro e
    rcases Nat.lt_trichotomy (m i) (m j) with h | h | h
    · exact absurd ((b.ke i hi).trans e) (b.least j hj _ h)
    · exact h
    · exact absurd ((b.ke j hj).trans e.symm) (b.least i hi _ h)
theorem IsBy.ok {κ : Type} {key : Nat → κ} (b : IsBy n key m) : Mk n m := fun i hi => by
  have hl := Nat.lt_of_le_of_lt (b.le i hi) hi
  exact ⟨b.le i hi, (b.eq hl hi).mpr (b.ke i hi)⟩
theorem meet_by (b : IsBy n (fun i => (x i, y i)) m) : MeetOf n x y m := by
  refine ⟨b.ok, fun z hz => ?_⟩
  constructor
  · intro h
    have e : ∀ i, i < n → (x (z i), y (z i)) = (x i, y i) := fun i hi => (b.eq (hz i hi) hi).mp (h i hi)
    exact ⟨fun i hi => (Prod.mk.inj (e i hi)).1, fun i hi => (Prod.mk.inj (e i hi)).2⟩
  · intro ⟨h1, h2⟩ i hi
    exact (b.eq (hz i hi) hi).mpr (by show (x (z i), y (z i)) = (x i, y i); rw [h1 i hi, h2 i hi])
/-- roots that tell just what z of x and y must join -/
theorem join_by {R : Nat → Nat} (hR : ∀ i, i < n → R i < n ∧ R (R i) = R i) (b : IsBy n R m) (h : ∀ z : Nat → Nat, (∀ i, i < n → z (R i) = z i) ↔ Wi n x z ∧ Wi n y z) : JoinOf n x y m := by
  refine ⟨b.ok, fun z => ?_⟩
  rw [← h z]
  constructor
  · intro w i hi
    have e : m (R i) = m i := (b.eq (hR i hi).1 hi).mpr (hR i hi).2
    rw [← w (R i) (hR i hi).1, e, w i hi]
  · intro w i hi
    have hl := Nat.lt_of_le_of_lt (b.le i hi) hi
    rw [← w (m i) hl, b.ke i hi, w i hi]
/-- the roots R, reached in d steps by p, tell what the pairs join -/
structure Uf (n k : Nat) (ps : List (Nat × Nat)) (p R d : Nat → Nat) : Prop where
  lt : ∀ i, i < n → R i < n
  rr : ∀ i, i < n → R (R i) = R i
  up : ∀ i, i < n → p i < n
  same : ∀ i, i < n → R (p i) = R i
  root : ∀ i, i < n → (p i = i ↔ R i = i)
  step : ∀ i, i < n → p i ≠ i → d (p i) + 1 ≤ d i
  zero : ∀ i, i < n → p i = i → d i = 0
  few : ∀ i, i < n → d i ≤ k
  says : ∀ z : Nat → Nat, (∀ i, i < n → z (R i) = z i) ↔ ∀ q ∈ ps, z q.1 = z q.2
theorem uf_new : Uf n 0 [] id id (fun _ => 0) := ⟨fun _ h => h, fun _ _ => rfl, fun _ h => h, fun _ _ => rfl, fun _ _ => ⟨fun _ => rfl, fun _ => rfl⟩, fun _ _ h => absurd rfl h, fun _ _ _ => rfl, fun _ _ => Nat.le_refl _, fun z => ⟨fun _ q h => by simp at h, fun _ _ _ => rfl⟩⟩
def upd1 (f : Nat → Nat) (a b : Nat) : Nat → Nat := fun i => if i = a then b else f i
theorem uf_add {k : Nat} {ps : List (Nat × Nat)} {R d : Nat → Nat} (u : Uf n k ps p R d) {a b : Nat} (ha : a < n) (hb : b < n) : ∃ R' d', Uf n (k + 1) (ps ++ [(a, b)]) (upd1 p (R b) (R a)) R' d' := by
  by_cases e : R a = R b
  · have hp : upd1 p (R b) (R a) = p := by
      funext i
      unfold upd1
      split
      · rename_i h
        rw [e, h]
        exact ((u.root (R b) (u.lt b hb)).mpr (u.rr b hb)).symm
      · rfl
    rw [hp]
    refine ⟨R, d, u.lt, u.rr, u.up, u.same, u.root, u.step, u.zero, fun i hi => Nat.le_succ_of_le (u.few i hi), fun z => ?_⟩
    rw [u.says z]
    constructor
    · intro h q hq
      rcases List.mem_append.mp hq with hq | hq
      · exact h q hq
      · rw [List.mem_singleton.mp hq]
        have w := (u.says z).mpr h
        show z a = z b
        rw [← w a ha, e, w b hb]
    · exact fun h q hq => h q (List.mem_append_left _ hq)
  · have ra := u.rr a ha
    have rb := u.rr b hb
    have pa : p (R a) = R a := (u.root _ (u.lt a ha)).mpr ra
    have pb : p (R b) = R b := (u.root _ (u.lt b hb)).mpr rb
    refine ⟨fun i => if R i = R b then R a else R i, fun i => if R i = R b then d i + 1 else d i, ?_⟩
    refine ⟨fun i hi => ?_, fun i hi => ?_, fun i hi => ?_, fun i hi => ?_, fun i hi => ?_, fun i hi hne => ?_, fun i hi he => ?_, fun i hi => ?_, fun z => ?_⟩
    · show (if R i = R b then R a else R i) < n
      split
      · exact u.lt a ha
      · exact u.lt i hi
    · show (if R (if R i = R b then R a else R i) = R b then R a else R (if R i = R b then R a else R i)) = if R i = R b then R a else R i
      by_cases h : R i = R b
      · simp only [if_pos h, ra, if_neg e]
      · simp only [if_neg h, u.rr i hi]
    · show upd1 p (R b) (R a) i < n
      unfold upd1
      split
      · exact u.lt a ha
      · exact u.up i hi
    · show (if R (upd1 p (R b) (R a) i) = R b then R a else R (upd1 p (R b) (R a) i)) = if R i = R b then R a else R i
      unfold upd1
      by_cases h : i = R b
      · subst h
        simp only [if_true, ra, rb, if_neg e]
      · simp only [if_neg h, u.same i hi]
    · show upd1 p (R b) (R a) i = i ↔ (if R i = R b then R a else R i) = i
      unfold upd1
      by_cases h : i = R b
      · subst h
        simp only [if_true, rb]
      · simp only [if_neg h]
        rw [u.root i hi]
        by_cases h2 : R i = R b
        · simp only [if_pos h2]
          constructor
          · intro h3; exact absurd (h3.symm.trans h2) h
          · intro h3
            have : R i = R a := by rw [← h3]; exact ra
            exact absurd (this.symm.trans h2) e
        · simp only [if_neg h2]
    · show (if R (upd1 p (R b) (R a) i) = R b then d (upd1 p (R b) (R a) i) + 1 else d (upd1 p (R b) (R a) i)) + 1 ≤ if R i = R b then d i + 1 else d i
      unfold upd1 at hne ⊢
      by_cases h : i = R b
      · subst h
        simp only [if_true, ra, rb, if_neg e]
        rw [u.zero _ (u.lt a ha) pa, u.zero _ (u.lt b hb) pb]
        exact Nat.le_refl _
      · simp only [if_neg h] at hne ⊢
        simp only [u.same i hi]
        have := u.step i hi hne
        split <;> omega
    · show (if R i = R b then d i + 1 else d i) = 0
      unfold upd1 at he
      by_cases h : i = R b
      · subst h
        simp only [if_true] at he
        exact absurd (by rw [← ra, he, rb]) e
      · simp only [if_neg h] at he
        have h3 := (u.root i hi).mp he
        rw [h3, if_neg h]
        exact u.zero i hi he
    · show (if R i = R b then d i + 1 else d i) ≤ k + 1
      have := u.few i hi
      split <;> omega
    · constructor
      · intro h q hq
        have hi : ∀ i, i < n → z (R i) = z i := fun i hi => by
          have h1 := h i hi
          by_cases h2 : R i = R b
          · simp only [if_pos h2] at h1
            have h3 := h (R b) (u.lt b hb)
            simp only [rb, if_true] at h3
            rw [h2, ← h3, h1]
          · simp only [if_neg h2] at h1
            exact h1
        rcases List.mem_append.mp hq with hq | hq
        · exact (u.says z).mp hi q hq
        · rw [List.mem_singleton.mp hq]
          show z a = z b
          have h1 := h b hb
          simp only [if_true] at h1
          rw [← h1, hi a ha]
      · intro h i hi
        have w := (u.says z).mpr fun q hq => h q (List.mem_append_left _ hq)
        have hab : z a = z b := h (a, b) (List.mem_append_right _ List.mem_cons_self)
        show z (if R i = R b then R a else R i) = z i
        by_cases h2 : R i = R b
        · simp only [if_pos h2]
          rw [w a ha, hab, ← w b hb, ← h2, w i hi]
        · simp only [if_neg h2]
          exact w i hi
end
end FX

set_option Elab.async false
set_option linter.all false
set_option maxRecDepth 100000
set_option maxHeartbeats 1000000
namespace FX
open L2
def mkL (n : Nat) (x : Nat → Nat) : List PV := (List.range n).map fun i => PV.int (x i : Nat)
def mkP (n : Nat) (x : Nat → Nat) : PV := .tup (mkL n x)
@[simp] theorem mkL_len {n : Nat} {x : Nat → Nat} : (mkL n x).length = n := by simp [mkL]
theorem mkL_get {n : Nat} {x : Nat → Nat} {i : Nat} (h : i < n) : (mkL n x)[i]? = some (.int (x i : Nat)) := by simp [mkL, h]
theorem mkL_ext {n : Nat} {x y : Nat → Nat} (h : Eqm n x y) : mkL n x = mkL n y := by
  unfold mkL
  exact List.map_congr_left fun i hi => by rw [h i (List.mem_range.mp hi)]
@[simp] theorem wp_isiT {tb : Kd → Option Bool} {x : PV} {h : MH} {Q : PV → MH → Prop} : wp (isiT tb x) h Q ↔ ∃ b, (kdOf x h).bind tb = some b ∧ Q (.bl b) h := by
  unfold isiT
  constructor
  · rintro ⟨z, h', e, q⟩
    cases hb : (kdOf x h).bind tb with
    | none => simp only [hb] at e; cases e
    | some b => simp only [hb] at e; cases e; exact ⟨b, rfl, q⟩
  · rintro ⟨b, e, q⟩
    exact ⟨.bl b, h, by simp only [e], q⟩
theorem c_int {h : MH} {Q : PV → MH → Prop} {v lo hi : Int} (q : Q (.bl (decide (lo ≤ v) && decide (v ≤ hi))) h) : wp (F_is_integer [.int v, .int lo, .int hi]) h Q := by
  refine wp_defB rfl (wp_runB ?_)
  simp [s_is_integer, N_is_integer, kdOf, ti_int, ti_bool, tbL, tbT, tyNames, tru, pIsN, isNon, pLe]
  by_cases h1 : lo ≤ v
  · simpa [h1] using q
  · simpa [h1] using q
theorem c_tup {h : MH} {Q : PV → MH → Prop} {xs : List PV} {lo hi : Int} (q : Q (.bl (decide (lo ≤ xs.length) && decide ((xs.length : Int) ≤ hi))) h) : wp (F_is_tuple [.tup xs, .int lo, .int hi]) h Q := by
  refine wp_defB rfl (wp_runB ?_)
  simp [s_is_tuple, N_is_tuple, kdOf, ti_tuple, tbL, tbT, tyNames, tru, pIsN, isNon, pLe, pLt, pLen, mSeq]
  by_cases h1 : (xs.length : Int) < lo
  · have h2 : ¬ lo ≤ (xs.length : Int) := by omega
    simpa [h1, h2] using q
  · have h2 : lo ≤ (xs.length : Int) := by omega
    simpa [h1, h2] using q
structure Le (h h' : MH) : Prop where
  nx : h.nx ≤ h'.nx
  get : ∀ n o, h.get n = some o → h'.get n = some o
theorem Le.refl (h : MH) : Le h h := ⟨Nat.le_refl _, fun _ _ e => e⟩
theorem Le.trans {a b c : MH} (x : Le a b) (y : Le b c) : Le a c := ⟨Nat.le_trans x.nx y.nx, fun n o e => y.get n o (x.get n o e)⟩
theorem Le.new (h : MH) (o : MO) : Le h (h.new o) := ⟨Nat.le_succ _, fun _ _ e => MH.get_new_old e⟩
theorem Le.put {a b : MH} {n : Nat} {o : MO} (x : Le a b) (hn : a.nx ≤ n) : Le a (b.put n o) := ⟨x.nx, fun m u e => by
  rw [MH.get_put_ne (Nat.ne_of_lt (Nat.lt_of_lt_of_le (MH.get_lt e) hn))]
  exact x.get m u e⟩
theorem toBs_bl : ∀ bs : List Bool, toBs (bs.map PV.bl) = some bs
  | [] => rfl
  | b :: r => by simp [toBs, toBs_bl r]
theorem wp_all {h : MH} {Q : PV → MH → Prop} {r : Nat} {bs : List Bool} (e : h.get r = some (.lst (bs.map PV.bl))) (q : Q (.bl (bs.all id)) h) : wp (pAll [.ref r]) h Q := by
  simp [pAll, mLst, e, toBs_bl]
  exact q
@[simp] theorem wp_iSeq {f : EF} {ρ : Env} {h : MH} {Q : Src → MH → Prop} : wp (iSeq f ρ) h Q ↔ wp (f ρ) h fun x h1 => wp (srcOf x) h1 Q := by unfold iSeq; simp
@[simp] theorem wp_iEnu {f : EF} {ρ : Env} {h : MH} {Q : Src → MH → Prop} : wp (iEnu f ρ) h Q ↔ wp (f ρ) h fun x h1 => wp (srcOf x) h1 fun s h2 => Q (enumS s) h2 := by unfold iEnu; simp
theorem atI_nat {α : Type} {xs : List α} {i : Nat} (h : i < xs.length) : atI xs (i : Int) = xs[i]? := by
  unfold atI ixN
  simp [h]
/-- marks that fit are marks -/
theorem c_marks {h : MH} {Q : PV → MH → Prop} {n : Nat} {x : Nat → Nat} (h3 : 3 ≤ n) (h6 : n ≤ 6) (ok : Mk n x) (q : ∀ h', Le h h' → Q (.bl true) h') : wp (F_are_marks [mkP n x]) h Q := by
  refine wp_defB rfl (wp_runB ?_)
  simp [s_are_marks, N_are_marks, mkP, pAdd]
  refine c_tup ?_
  have e1 : (decide ((3 : Int) ≤ ((mkL n x).length : Int)) && decide (((mkL n x).length : Int) ≤ 6)) = true := by simp; omega
  rw [e1]
  simp [tru]
  refine wp_eLc (I := fun i acc h' => acc = (List.replicate i true).map PV.bl ∧ Le h h') n (by omega) ?_
  refine wp_iEnu.mpr (wp_eVar.mpr ⟨_, rfl, wp_ret.mpr ⟨⟨rfl, Le.refl h⟩, fun i acc h' hi ⟨ha, le⟩ => ?_, fun acc h' ⟨ha, le⟩ => ⟨by simp [enumS, srcL], ?_⟩⟩⟩)
  · refine ⟨.tup [.int i, .int (x i : Nat)], by simp [enumS, srcL, mkL_get hi], ?_⟩
    simp [gTupl, gAll, wipeE]
    refine c_int ?_
    have := (ok i hi).1
    have e2 : (decide ((0 : Int) ≤ (x i : Nat)) && decide (((x i : Nat) : Int) ≤ (i : Nat))) = true := by simp; omega
    rw [e2]
    exact ⟨by simp [ha, List.replicate_succ'], le⟩
  · refine wp_all (bs := List.replicate n true) (by rw [MH.get_new, ha]) ?_
    simp [tru]
    refine wp_eLc (I := fun i acc h2 => acc = (List.replicate i true).map PV.bl ∧ Le h h2) n (by omega) ?_
    refine wp_iSeq.mpr (wp_eVar.mpr ⟨_, rfl, wp_ret.mpr ⟨⟨rfl, le.trans (Le.new _ _)⟩, fun i acc2 h2 hi ⟨hb, le2⟩ => ?_, fun acc2 h2 ⟨hb, le2⟩ => ⟨by simp [srcL], ?_⟩⟩⟩)
    · refine ⟨.int (x i : Nat), by simp [srcL, mkL_get hi], ?_⟩
      have hx := ok.lt i hi
      simp [wipeE, pIx, mSeq, atI_nat (xs := mkL n x) (i := x i) (by simpa using hx), mkL_get hx, (ok i hi).2, pEq, okD, eqv]
      exact ⟨by simp [hb, List.replicate_succ'], le2⟩
    · refine wp_all (bs := List.replicate n true) (by rw [MH.get_new, hb]) ?_
      simp
      exact q _ (le2.trans (Le.new _ _))
end FX

set_option Elab.async false
set_option linter.all false
set_option maxRecDepth 100000
set_option maxHeartbeats 1000000
namespace FX
open L2
/-- a standing of marks x at a -/
def Ob (h : MH) (a n : Nat) (x : Nat → Nat) : Prop := h.get a = some (.ins 0 [some (mkP n x)])
theorem Ob.le {h h' : MH} {a n : Nat} {x : Nat → Nat} (o : Ob h a n x) (l : Le h h') : Ob h' a n x := l.get _ _ o
section
variable {h : MH} {Q : PV → MH → Prop} {i j : Int} {xs : List PV}
theorem eqvI {i j : Int} : eqv (.int i) (.int j) = decide (i = j) := by simp [eqv]
@[simp] theorem wp_eqI : wp (pEq (.int i) (.int j)) h Q ↔ Q (.bl (decide (i = j))) h := by
  have e : (okD 40 (.int i) && okD 40 (.int j)) = true := rfl
  unfold pEq
  rw [if_pos e, wp_ret, eqvI]
@[simp] theorem wp_neI : wp (pNe (.int i) (.int j)) h Q ↔ Q (.bl (!decide (i = j))) h := by
  have e : (okD 40 (.int i) && okD 40 (.int j)) = true := rfl
  unfold pNe
  rw [if_pos e, wp_ret, eqvI]
@[simp] theorem wp_neB {a b : Bool} : wp (pNe (.bl a) (.bl b)) h Q ↔ Q (.bl (!(a == b))) h := by
  have e : (okD 40 (.bl a) && okD 40 (.bl b)) = true := rfl
  have e2 : eqv (.bl a) (.bl b) = (a == b) := by simp [eqv]
  unfold pNe
  rw [if_pos e, wp_ret, e2]
theorem okD_ints : ∀ (l : List Nat) (f : Nat → Nat), (l.map fun i => PV.int (f i : Nat)).all (okD 39) = true
  | [], _ => rfl
  | i :: l, f => by
    show (okD 39 (PV.int (f i : Nat)) && (l.map fun i => PV.int (f i : Nat)).all (okD 39)) = true
    rw [okD_ints l f]; rfl
theorem eqvL_ints : ∀ (l : List Nat) (f g : Nat → Nat), eqvL (l.map fun i => PV.int (f i : Nat)) (l.map fun i => PV.int (g i : Nat)) = decide (∀ i ∈ l, f i = g i)
  | [], _, _ => by simp [eqvL]
  | i :: l, f, g => by
    show (eqv (PV.int (f i : Nat)) (PV.int (g i : Nat)) && eqvL (l.map fun i => PV.int (f i : Nat)) (l.map fun i => PV.int (g i : Nat))) = _
    rw [eqvI, eqvL_ints l f g]
    have : (((f i : Nat) : Int) = (g i : Nat)) ↔ f i = g i := by omega
    by_cases h1 : f i = g i
    · simp [h1]
    · simp [h1, this]
theorem wp_eqM {n : Nat} {x y : Nat → Nat} : wp (pEq (mkP n x) (mkP n y)) h Q ↔ Q (.bl (decide (Eqm n x y))) h := by
  have e : (okD 40 (mkP n x) && okD 40 (mkP n y)) = true := by
    show ((mkL n x).all (okD 39) && (mkL n y).all (okD 39)) = true
    unfold mkL
    rw [okD_ints, okD_ints]; rfl
  have e2 : eqv (mkP n x) (mkP n y) = decide (Eqm n x y) := by
    show eqvL (mkL n x) (mkL n y) = _
    unfold mkL
    rw [eqvL_ints]
    congr 1
    unfold Eqm
    simp
  unfold pEq
  rw [if_pos e, wp_ret, e2]
@[simp] theorem wp_ixT : wp (pIx (.tup xs) (.int i)) h Q ↔ ∃ z, atI xs i = some z ∧ Q z h := by
  simp only [pIx, mSeq]
  cases atI xs i with
  | none => simp
  | some z => simp
theorem wp_ixR {n : Nat} (e : h.get n = some (.lst xs)) : wp (pIx (.ref n) (.int i)) h Q ↔ ∃ z, atI xs i = some z ∧ Q z h := by
  simp only [pIx, mSeq, wp_mAt, e, Option.some.injEq, exists_eq_left']
  cases atI xs i with
  | none => simp
  | some z => simp
theorem wp_srcR {r : Nat} {Q : Src → MH → Prop} (e : h.get r = some (.lst xs)) : wp (srcOf (.ref r)) h Q ↔ Q (srcH r) h := by simp [srcOf, e]
theorem srcH_at {r i : Nat} (e : h.get r = some (.lst xs)) : srcH r i h = some xs[i]? := by simp [srcH, e]
@[simp] theorem wp_lenT : wp (pLen [.tup xs]) h Q ↔ Q (.int xs.length) h := by simp [pLen, mSeq]
theorem wp_lenR {n : Nat} (e : h.get n = some (.lst xs)) : wp (pLen [.ref n]) h Q ↔ Q (.int xs.length) h := by simp [pLen, mSeq, e]
theorem wp_ixM {n v : Nat} {x : Nat → Nat} (hv : v < n) : wp (pIx (mkP n x) (.int (v : Nat))) h Q ↔ Q (.int (x v : Nat)) h := by
  unfold mkP
  rw [wp_ixT, atI_nat (by simpa using hv), mkL_get hv]
  simp
@[simp] theorem wp_lenM {n : Nat} {x : Nat → Nat} : wp (pLen [mkP n x]) h Q ↔ Q (.int (n : Nat)) h := by
  unfold mkP
  rw [wp_lenT, mkL_len]
end
section
variable {h : MH} {a b n : Nat} {x y : Nat → Nat} {Q : PV → MH → Prop}
theorem wp_slot (o : Ob h a n x) : wp (atSl 0 0 (.ref a)) h Q ↔ Q (mkP n x) h := by
  unfold Ob at o
  simp [atSl, mIns, o, slGet]
theorem wp_ins {α : Type} {k : Nat → List (Option PV) → M α} {Q : α → MH → Prop} (o : Ob h a n x) : wp (mIns 0 (.ref a) k) h Q ↔ wp (k a [some (mkP n x)]) h Q := by
  unfold Ob at o
  simp [mIns, o]
theorem c_make (h3 : 3 ≤ n) (h6 : n ≤ 6) (ok : Mk n x) (q : ∀ h', Le h h' → h.nx < h'.nx → Ob h' h.nx n x → Q (.ref h.nx) h') : wp (mMake 0 F_Standing___init__ [mkP n x]) h Q := by
  unfold mMake
  simp only [wp_bind, wp_mNew]
  refine wp_defB rfl (wp_runB ?_)
  simp [s_Standing___init__, N_Standing___init__]
  refine c_marks h3 h6 ok fun h' le => ?_
  have e : h'.get h.nx = some (.ins 0 []) := le.get _ _ MH.get_new
  have hlt : h.nx < h'.nx := MH.get_lt e
  simp [tru, sFld, slPut, mIns, e, putE]
  exact q _ (((Le.new h _).trans le).put (Nat.le_refl _)) hlt (MH.get_put hlt)
theorem c_wires (o : Ob h a n x) (q : Q (.int ((n : Int) - 2)) h) : wp (F_Standing_wires [.ref a]) h Q := by
  refine wp_defB rfl (wp_runB ?_)
  simp [s_Standing_wires, N_Standing_wires, wp_slot o, pSub]
  exact q
theorem c_check (o : Ob h a n x) (o2 : Ob h b n y) (q : Q .non h) : wp (F_Standing_check [.ref a, .ref b]) h Q := by
  refine wp_defB rfl (wp_runB ?_)
  simp [s_Standing_check, N_Standing_check, atPr, wp_ins o]
  refine c_wires o ?_
  simp [wp_ins o2]
  refine c_wires o2 ?_
  simp
  exact q
def prL (n : Nat) (x : Nat → Nat) : List PV := ((List.range n).filter fun i => decide (x i < i)).map fun i => PV.tup [.int (x i : Nat), .int (i : Nat)]
theorem c_pairs (hn : n ≤ 6) (o : Ob h a n x) (q : ∀ h', Le h h' → h'.get r = some (.lst (prL n x)) → Q (.ref r) h') (hr : r = h.nx) : wp (F_Standing_pairs [.ref a]) h Q := by
  refine wp_defB rfl (wp_runB ?_)
  simp only [s_Standing_pairs, ws_sRet]
  refine wp_eLc (I := fun i acc h' => acc = prL i x ∧ h' = h) n (by omega) ?_
  refine wp_iEnu.mpr (wp_eUn.mpr (wp_eVar.mpr ⟨_, rfl, (wp_slot o).mpr (wp_ret.mpr ⟨⟨rfl, rfl⟩, fun i acc h' hi ⟨ha, eh⟩ => ?_, fun acc h' ⟨ha, eh⟩ => ⟨by simp [enumS, srcL], ?_⟩⟩)⟩))
  · subst ha eh
    refine ⟨.tup [.int i, .int (x i : Nat)], by simp [enumS, srcL, mkL_get hi], ?_⟩
    simp [gTupl, gAll, wipeE, pLt]
    by_cases hx : x i < i
    · simp [hx, prL, List.range_succ]
    · simp [hx, prL, List.range_succ]
      omega
  · subst ha eh hr
    exact q _ (Le.new _ _) MH.get_new
theorem c_contains (hn3 : 3 ≤ n) {i j : Nat} (hi : i < n) (hj : j < n) (o : Ob h a n x) (q : ∀ h', Le h h' → Q (.bl (decide (x i = x j))) h') : wp (F_Standing___contains__ [.ref a, .tup [.int (i : Nat), .int (j : Nat)]]) h Q := by
  refine wp_defB rfl (wp_runB ?_)
  simp [s_Standing___contains__, N_Standing___contains__]
  refine c_tup ?_
  simp [tru]
  refine wp_eLc (I := fun k acc h' => acc = (List.replicate k true).map PV.bl ∧ Le h h') 2 (by omega) ?_
  refine wp_iSeq.mpr (wp_eVar.mpr ⟨_, rfl, wp_ret.mpr ⟨⟨rfl, Le.refl h⟩, fun k acc h' hk ⟨ha, le⟩ => ?_, fun acc h' ⟨ha, le⟩ => ⟨by simp [srcL], ?_⟩⟩⟩)
  · have hv : ∃ v : Nat, v < n ∧ ([PV.int (i : Nat), .int (j : Nat)])[k]? = some (.int (v : Nat)) := by
      match k, hk with
      | 0, _ => exact ⟨i, hi, rfl⟩
      | 1, _ => exact ⟨j, hj, rfl⟩
    obtain ⟨v, hvn, ev⟩ := hv
    refine ⟨.int (v : Nat), by simp [srcL, ev], ?_⟩
    simp [wipeE, wp_slot (o.le le), pSub]
    refine c_int ?_
    have e2 : (decide ((0 : Int) ≤ (v : Nat)) && decide ((v : Int) ≤ (n : Int) - 1)) = true := by simp; omega
    rw [e2]
    exact ⟨by simp [ha, List.replicate_succ'], le⟩
  · refine wp_all (bs := List.replicate 2 true) (by rw [MH.get_new, ha]) ?_
    have o2 := o.le (le.trans (Le.new h' (.lst acc)))
    have l0 : atI [PV.int (i : Nat), .int (j : Nat)] (0 : Int) = some (.int (i : Nat)) := rfl
    have l1 : atI [PV.int (i : Nat), .int (j : Nat)] (1 : Int) = some (.int (j : Nat)) := rfl
    simp [wp_slot o2, l0, l1, wp_ixM hi, wp_ixM hj]
    have e3 : decide (x i = x j) = decide (((x i : Nat) : Int) = (x j : Nat)) := by
      by_cases h1 : x i = x j
      · simp [h1]
      · have : ¬ ((x i : Nat) : Int) = (x j : Nat) := by omega
        simp [h1, this]
    have := q _ (le.trans (Le.new h' (.lst acc)))
    rw [e3] at this
    simpa using this
theorem wi_prs (ok : Mk n x) : Wi n x y ↔ ∀ i, i < n → x i < i → y (x i) = y i := by
  constructor
  · exact fun w i hi _ => w i hi
  · intro w i hi
    rcases Nat.lt_or_ge (x i) i with h1 | h1
    · exact w i hi h1
    · have := (ok i hi).1
      rw [show x i = i by omega]
theorem c_within (h3 : 3 ≤ n) (h6 : n ≤ 6) (ok : Mk n x) (o : Ob h a n x) (o2 : Ob h b n y) (q : ∀ h', Le h h' → Q (.bl (decide (Wi n x y))) h') : wp (F_Standing_within [.ref a, .ref b]) h Q := by
  refine wp_defB rfl (wp_runB ?_)
  simp [s_Standing_within, N_Standing_within, eMet, wp_ins o]
  refine c_check o o2 ?_
  let js := (List.range n).filter fun i => decide (x i < i)
  have hjs : ∀ k j, js[k]? = some j → j < n ∧ x j < j := fun k j e => by
    have := List.mem_of_getElem? e
    simpa [js] using this
  have hlen : js.length ≤ n := Nat.le_trans (List.length_filter_le _ _) (by simp)
  have hpr : prL n x = js.map fun i => PV.tup [.int (x i : Nat), .int (i : Nat)] := rfl
  refine wp_eLc (I := fun k acc h' => acc = ((js.take k).map fun i => decide (y (x i) = y i)).map PV.bl ∧ Le h h' ∧ h'.get h.nx = some (.lst (prL n x))) js.length (by omega) ?_
  refine wp_iSeq.mpr ?_
  simp only [atPr, wp_eUn, wp_eVar, List.getElem?_cons_zero, Option.some.injEq, exists_eq_left', wp_ins o, wp_noX]
  refine c_pairs h6 o (fun h1 le1 e1 => ?_) rfl
  refine (wp_srcR e1).mpr ⟨⟨by simp, le1, e1⟩, fun k acc h2 hk ⟨ha, le2, e2⟩ => ?_, fun acc h2 ⟨ha, le2, e2⟩ => ⟨by rw [srcH_at e2, hpr]; simp, ?_⟩⟩
  · obtain ⟨j, hj⟩ : ∃ j, js[k]? = some j := ⟨_, List.getElem?_eq_getElem hk⟩
    obtain ⟨hjn, hjx⟩ := hjs k j hj
    refine ⟨.tup [.int (x j : Nat), .int (j : Nat)], by rw [srcH_at e2, hpr]; simp [hj], ?_⟩
    simp only [wp_gSet, wp_tYes, if_true, wp_eOp, wp_eVar]
    refine ⟨_, rfl, _, rfl, ?_⟩
    simp only [mIn, wp_ins (o2.le le2), wp_bind]
    refine c_contains h3 (ok.lt j hjn) hjn (o2.le le2) fun h4 le4 => ?_
    simp only [wp_ret]
    refine ⟨?_, le2.trans le4, le4.get _ _ e2⟩
    rw [ha, List.take_succ, hj]
    simp
  · rw [List.take_length] at ha
    subst ha
    refine wp_all (bs := js.map fun i => decide (y (x i) = y i)) MH.get_new ?_
    have ed : (js.map fun i => decide (y (x i) = y i)).all id = decide (Wi n x y) := by
      rw [Bool.eq_iff_iff, List.all_eq_true, decide_eq_true_eq, wi_prs ok]
      simp [js]
    rw [ed]
    exact q _ (le2.trans (Le.new _ _))
theorem c_eq (o : Ob h a n x) (o2 : Ob h b n y) (q : Q (.bl (decide (Eqm n x y))) h) : wp (F_Standing___eq__ [.ref a, .ref b]) h Q := by
  refine wp_defB rfl (wp_runB ?_)
  have e2 : h.get b = some (.ins 0 [some (mkP n y)]) := o2
  simp [s_Standing___eq__, N_Standing___eq__, kdOf, e2, ti_Standing, tbL, tbC, tru, wp_slot o, wp_slot o2, wp_eqM]
  exact q
theorem c_neO (o : Ob h a n x) (o2 : Ob h b n y) (q : Q (.bl (!decide (Eqm n x y))) h) : wp (mNeO 0 F_Standing___eq__ (.ref a) (.ref b)) h Q := by
  simp only [mNeO, wp_ins o, wp_ins o2, wp_bind]
  exact c_eq o o2 (wp_ret.mpr q)
theorem c_eqO (o : Ob h a n x) (o2 : Ob h b n y) (q : Q (.bl (decide (Eqm n x y))) h) : wp (mTwo 0 F_Standing___eq__ (.ref a) (.ref b)) h Q := by
  simp only [mTwo, wp_ins o, wp_ins o2]
  exact c_eq o o2 q
theorem c_wi {f g : EF} {ρ : Env} (h3 : 3 ≤ n) (h6 : n ≤ 6) (ok : Mk n x) (o : Ob h a n x) (o2 : Ob h b n y) (ef : f ρ = M.ret (.ref a)) (eg : g ρ = M.ret (.ref b)) (q : ∀ h', Le h h' → Q (.bl (decide (Wi n x y))) h') : wp (eMet 0 F_Standing_within f (aCons g aNil) ρ) h Q := by
  simp only [eMet, ef, M.ret_bind, wp_bind, wp_ins o, wp_ret, wp_aCons, eg, wp_aNil]
  exact c_within h3 h6 ok o o2 q
end
end FX

set_option Elab.async false
set_option linter.all false
set_option maxRecDepth 100000
set_option maxHeartbeats 1000000
namespace FX
open L2
def okK (t : Bool) (x : PV) : Prop := if t then (asT x).isSome = true else (asK x).isSome = true
section
variable {h : MH} {n : Nat} {t : Bool} {x y z : PV} {kvs : List (PV × PV)} {α : Type}
theorem wp_dct {Q : α → MH → Prop} {k : Nat → Bool → List (PV × PV) → M α} (e : h.get n = some (mkD t kvs)) (ok : okK t y) (q : wp (k n t kvs) h Q) : wp (mDct (.ref n) y k) h Q := by
  cases t with
  | true =>
    have e' : h.get n = some (.dtt kvs) := e
    have ok' : (asT y).isSome = true := ok
    simp only [mDct, wp_mAt, e', Option.some.injEq, exists_eq_left']
    cases hk : asT y with
    | none => rw [hk] at ok'; cases ok'
    | some k => exact q
  | false =>
    have e' : h.get n = some (.dct kvs) := e
    have ok' : (asK y).isSome = true := ok
    simp only [mDct, wp_mAt, e', Option.some.injEq, exists_eq_left']
    cases hk : asK y with
    | none => rw [hk] at ok'; cases ok'
    | some k => exact q
theorem wp_dget {Q : PV → MH → Prop} {v : PV} (e : h.get n = some (mkD t kvs)) (ok : okK t y) (ev : dGet kvs y = some v) (q : Q v h) : wp (pDGet (.ref n) y) h Q := by
  unfold pDGet
  refine wp_dct e ok ?_
  rw [ev]
  exact wp_ret.mpr q
theorem wp_setd {Q : PV → MH → Prop} (e : h.get n = some (mkD t kvs)) (ok : okK t y) (hl : kvs.length < 10000000) (q1 : ∀ v, dGet kvs y = some v → Q v h) (q2 : dGet kvs y = none → Q z (h.put n (mkD t (dPut kvs y z)))) : wp (pDSetd [.ref n, y, z]) h Q := by
  unfold pDSetd
  refine wp_dct e ok ?_
  unfold setdK
  rw [if_pos hl]
  cases hd : dGet kvs y with
  | some v => exact wp_ret.mpr (q1 v hd)
  | none => exact wp_bind.mpr (wp_mPut.mpr (wp_ret.mpr (q2 hd)))
theorem wp_ckD {Q : Unit → MH → Prop} (e : h.get n = some (mkD t kvs)) (q : Q () h) : wp (ckDct (.ref n)) h Q := by
  cases t with
  | true =>
    have e' : h.get n = some (.dtt kvs) := e
    simp [ckDct, e', q]
  | false =>
    have e' : h.get n = some (.dct kvs) := e
    simp [ckDct, e', q]
theorem any_find (x : PV) : ∀ kvs : List (PV × PV), (kvs.any fun q => keyE q.1 x) = (dGet kvs x).isSome
  | [] => rfl
  | q :: r => by
    unfold dGet
    rw [List.any_cons, List.find?_cons]
    cases hk : keyE q.1 x with
    | true => simp
    | false =>
      simp only [Bool.false_or]
      exact any_find x r
theorem dPut_new {v : PV} (e : dGet kvs x = none) : dPut kvs x v = kvs ++ [(x, v)] := by
  unfold dPut
  rw [any_find, e]; rfl
theorem dGet_app {v : PV} : dGet (kvs ++ [(x, v)]) y = match dGet kvs y with
    | some u => some u
    | none => if keyE x y = true then some v else none := by
  unfold dGet
  rw [List.find?_append]
  cases hf : kvs.find? (fun q => keyE q.1 y) with
  | some u => simp
  | none =>
    simp only [Option.map_none, Option.none_or, List.find?_cons, List.find?_nil]
    cases hk : keyE x y <;> simp
end
/-- the marks found so far -/
structure Fd {κ : Type} (φ : κ → PV) (key : Nat → κ) (n i : Nat) (kvs : List (PV × PV)) : Prop where
  so : ∀ j, j < n → ∀ v, dGet kvs (φ (key j)) = some v → ∃ m : Nat, v = .int (m : Nat) ∧ m < i ∧ key m = key j ∧ ∀ l, l < m → key l ≠ key j
  no : ∀ j, j < n → dGet kvs (φ (key j)) = none → ∀ l, l < i → key l ≠ key j
  len : kvs.length ≤ i
section
variable {κ : Type} [DecidableEq κ] {φ : κ → PV} {key : Nat → κ} {n i : Nat} {kvs : List (PV × PV)}
theorem fd_nil : Fd φ key n 0 [] := ⟨fun j _ v e => by simp [dGet] at e, fun _ _ _ l hl => absurd hl (Nat.not_lt_zero _), Nat.le_refl _⟩
theorem fd_old (f : Fd φ key n i kvs) (hi : i < n) {v : PV} (e : dGet kvs (φ (key i)) = some v) : Fd φ key n (i + 1) kvs := by
  refine ⟨fun j hj v e => ?_, fun j hj e2 l hl he => ?_, Nat.le_succ_of_le f.len⟩
  · obtain ⟨m, h1, h2, h3⟩ := f.so j hj v e
    exact ⟨m, h1, Nat.lt_succ_of_lt h2, h3⟩
  · rcases Nat.lt_succ_iff_lt_or_eq.mp hl with h1 | h1
    · exact f.no j hj e2 l h1 he
    · subst h1
      rw [← he, e] at e2; cases e2
theorem fd_new (hφ : ∀ a b, keyE (φ a) (φ b) = decide (a = b)) (f : Fd φ key n i kvs) (hi : i < n) (e : dGet kvs (φ (key i)) = none) : Fd φ key n (i + 1) (dPut kvs (φ (key i)) (.int (i : Nat))) := by
  rw [dPut_new e]
  refine ⟨fun j hj v ev => ?_, fun j hj ev l hl he => ?_, by rw [List.length_append, List.length_singleton]; exact Nat.succ_le_succ f.len⟩
  · rw [dGet_app] at ev
    cases hd : dGet kvs (φ (key j)) with
    | some u =>
      rw [hd] at ev
      cases ev
      obtain ⟨m, h1, h2, h3⟩ := f.so j hj _ hd
      exact ⟨m, h1, Nat.lt_succ_of_lt h2, h3⟩
    | none =>
      rw [hd] at ev
      simp only [hφ] at ev
      by_cases hk : key i = key j
      · simp only [decide_eq_true hk, if_true] at ev
        cases ev
        exact ⟨i, rfl, Nat.lt_succ_self _, hk, f.no j hj hd⟩
      · simp [hk] at ev
  · rw [dGet_app] at ev
    cases hd : dGet kvs (φ (key j)) with
    | some u => rw [hd] at ev; cases ev
    | none =>
      rw [hd] at ev
      simp only [hφ] at ev
      rcases Nat.lt_succ_iff_lt_or_eq.mp hl with h1 | h1
      · exact f.no j hj hd l h1 he
      · subst h1
        simp [he] at ev
theorem fd_end (f : Fd φ key n n kvs) : ∃ m : Nat → Nat, IsBy n key m ∧ ∀ j, j < n → dGet kvs (φ (key j)) = some (.int (m j : Nat)) := by
  have h : ∀ j, ∃ m : Nat, j < n → dGet kvs (φ (key j)) = some (.int (m : Nat)) ∧ m < n ∧ key m = key j ∧ ∀ l, l < m → key l ≠ key j := fun j => by
    by_cases hj : j < n
    · cases hd : dGet kvs (φ (key j)) with
      | none => exact absurd rfl (f.no j hj hd j hj)
      | some v =>
        obtain ⟨m, h1, h2, h3, h4⟩ := f.so j hj v hd
        subst h1
        exact ⟨m, fun _ => ⟨rfl, h2, h3, h4⟩⟩
    · exact ⟨0, fun h => absurd h hj⟩
  refine ⟨fun j => Classical.choose (h j), ⟨fun i hi => ?_, fun i hi => ?_, fun i hi l hl => ?_⟩, fun j hj => (Classical.choose_spec (h j) hj).1⟩
  · obtain ⟨_, h2, h3, h4⟩ := Classical.choose_spec (h i) hi
    rcases Nat.lt_or_ge i (Classical.choose (h i)) with z | z
    · exact absurd rfl (h4 i z)
    · exact z
  · exact (Classical.choose_spec (h i) hi).2.2.1
  · exact (Classical.choose_spec (h i) hi).2.2.2 l hl
end
def thL (n : Nat) : List PV := (List.range n).map fun i => PV.int (i : Nat)
@[simp] theorem thL_len {n : Nat} : (thL n).length = n := by simp [thL]
theorem thL_get {n i : Nat} (h : i < n) : (thL n)[i]? = some (.int (i : Nat)) := by simp [thL, h]
/-- marks_by, the roots told by get -/
def s_mb (t : Bool) (get : PV → PV → M PV) : SF := sSeq (sAsg (eDNew t) (gSet 2)) (sSeq (sFor (iEnu (eVar 1)) (gTupl 2 [gSet 3, gSet 4]) (sExp (eBm ckDct pDSetd (eVar 2) (aCons (eOp get (eVar 0) (eVar 4)) (aCons (eVar 3) (aNil)))))) (sRet (eApp pTuple (aCons (eLc (iSeq (eVar 1)) [4] (gSet 4) (tYes) (eOp pDGet (eVar 2) (eOp get (eVar 0) (eVar 4)))) (aNil)))))
theorem s_mbT : s_marks_byT = s_mb true pIx := rfl
theorem s_mbK : s_marks_byK = s_mb false pDGet := rfl
theorem c_mb {κ : Type} [DecidableEq κ] {φ : κ → PV} {key : Nat → κ} {n ra ta : Nat} {t : Bool} {get : PV → PV → M PV} {h : MH} {Q : PV → MH → Prop} (hn : n ≤ 1000) (hφ : ∀ a b, keyE (φ a) (φ b) = decide (a = b)) (ok : ∀ a, okK t (φ a))
    (hta : h.get ta = some (.lst (thL n))) (hget : ∀ h' i (Q : PV → MH → Prop), Le h h' → i < n → Q (φ (key i)) h' → wp (get (.ref ra) (.int (i : Nat))) h' Q)
    (q : ∀ h' m, Le h h' → IsBy n key m → Q (mkP n m) h') : wp (runB 5 (s_mb t get) [.ref ra, .ref ta]) h Q := by
  refine wp_runB ?_
  unfold s_mb
  simp only [ws_sSeq, ws_sAsg, eDNew, wp_mNew, wp_gSet, nxt_nx, ws_sRet]
  have hd0 : (h.new (mkD t [])).get h.nx = some (mkD t []) := MH.get_new
  refine ws_sFor (I := fun i ρ h' => ∃ a b kvs, ρ = [some (.ref ra), some (.ref ta), some (.ref h.nx), a, b] ∧ h'.get h.nx = some (mkD t kvs) ∧ Le h h' ∧ Fd φ key n i kvs) n (by unfold fuel; omega) ?_
  refine wp_iEnu.mpr (wp_eVar.mpr ⟨.ref ta, rfl, (wp_srcR ((Le.new h _).get _ _ hta)).mpr ⟨⟨none, none, [], rfl, hd0, Le.new h _, fd_nil⟩, ?_, ?_⟩⟩)
  · rintro i ρ h' hi ⟨a, b, kvs, rfl, ed, le, fd⟩
    refine ⟨.tup [.int i, .int (i : Nat)], by unfold enumS; rw [srcH_at (le.get _ _ hta), thL_get hi], ?_⟩
    simp [gTupl, gAll, eBm]
    refine wp_ckD ed ?_
    refine hget h' i _ le hi ?_
    refine wp_setd ed (ok _) (by have := fd.len; omega) (fun v ev => ?_) fun en => ?_
    · exact ⟨kvs, ed, le, fd_old fd hi ev⟩
    · exact ⟨_, MH.get_put (MH.get_lt ed), le.put (Nat.le_refl _), fd_new hφ fd hi en⟩
  · rintro ρ h' ⟨a, b, kvs, rfl, ed, le, fd⟩
    refine ⟨by unfold enumS; rw [srcH_at (le.get _ _ hta)]; simp, ?_⟩
    obtain ⟨m, by_, hm⟩ := fd_end fd
    simp only [nxt_nx, wp_eApp, wp_aCons, wp_aNil]
    refine wp_eLc (I := fun i acc h2 => acc = mkL i m ∧ h2 = h') n (by omega) ?_
    refine wp_iSeq.mpr (wp_eVar.mpr ⟨.ref ta, rfl, (wp_srcR (le.get _ _ hta)).mpr ⟨⟨rfl, rfl⟩, ?_, ?_⟩⟩)
    · rintro i acc h2 hi ⟨rfl, rfl⟩
      refine ⟨.int (i : Nat), by rw [srcH_at (le.get _ _ hta), thL_get hi], ?_⟩
      simp [wipeE]
      refine hget h2 i _ le hi ?_
      refine wp_dget ed (ok _) (hm i hi) ?_
      exact ⟨by simp [mkL, List.range_succ], rfl⟩
    · rintro acc h2 ⟨rfl, rfl⟩
      refine ⟨by rw [srcH_at (le.get _ _ hta)]; simp, ?_⟩
      simp [pTuple, mLst, MH.get_new]
      exact q _ m (le.trans (Le.new _ _)) by_
end FX

set_option Elab.async false
set_option linter.all false
set_option maxRecDepth 100000
set_option maxHeartbeats 1000000
namespace FX
open L2
def fiT (p : Nat × Nat) : PV := .tup [.int (p.1 : Nat), .int (p.2 : Nat)]
def fiK (k : Nat) : PV := .int (k : Nat)
theorem fiT_eq (a b : Nat × Nat) : keyE (fiT a) (fiT b) = decide (a = b) := by
  obtain ⟨a1, a2⟩ := a
  obtain ⟨b1, b2⟩ := b
  have e1 : (((a1 : Nat) : Int) = (b1 : Nat)) ↔ a1 = b1 := by omega
  have e2 : (((a2 : Nat) : Int) = (b2 : Nat)) ↔ a2 = b2 := by omega
  simp [fiT, keyE, keyEs, e1, e2]
theorem fiK_eq (a b : Nat) : keyE (fiK a) (fiK b) = decide (a = b) := by
  have e1 : (((a : Nat) : Int) = (b : Nat)) ↔ a = b := by omega
  simp [fiK, keyE, e1]
theorem zipP_map : ∀ (l : List Nat) (f g : Nat → PV), zipP (l.map f) (l.map g) = l.map fun i => pairV (f i) (g i)
  | [], _, _ => rfl
  | i :: l, f, g => by
    show pairV (f i) (g i) :: zipP (l.map f) (l.map g) = _
    rw [zipP_map l f g]; rfl
section
variable {h : MH} {a b n : Nat} {x y : Nat → Nat} {Q : PV → MH → Prop}
theorem wp_lrg {f : EF} {ρ : Env} {Q : PV → MH → Prop} (p : wp (f ρ) h fun v h' => ∃ k : Nat, v = .int (k : Nat) ∧ k ≤ 10000000 ∧ Q (.ref h'.nx) (h'.new (.lst (thL k)))) : wp (eLrg f ρ) h Q := by
  unfold eLrg
  refine wp_eUn.mpr (p.mono fun v h' ⟨k, e, hk, q⟩ => ?_)
  subst e
  have hc : decide (0 ≤ ((k : Nat) : Int) ∧ ((k : Nat) : Int) ≤ 10000000) = true := by simp; omega
  simp only [hc, if_true, wp_mNew]
  exact q
theorem kd_ob (o : Ob h b n y) : kdOf (.ref b) h = some (.o 0) := by
  have e2 : h.get b = some (.ins 0 [some (mkP n y)]) := o
  simp [kdOf, e2]
theorem c_and (h3 : 3 ≤ n) (h6 : n ≤ 6) (ox : Mk n x) (oy : Mk n y) (o : Ob h a n x) (o2 : Ob h b n y) (q : ∀ h' r m, Le h h' → MeetOf n x y m → Ob h' r n m → Q (.ref r) h') : wp (mTwo 0 F_Standing___and__ (.ref a) (.ref b)) h Q := by
  simp only [mTwo, wp_ins o, wp_ins o2]
  refine wp_defB rfl (wp_runB ?_)
  simp [s_Standing___and__, N_Standing___and__, kd_ob o2, ti_Standing, tbL, tbC, tru, eMet, wp_ins o]
  refine c_check o o2 ?_
  simp [wp_slot o, wp_slot o2]
  have ez : pLz (mkP n x) (mkP n y) = mNew (.lst ((List.range n).map fun i => fiT (x i, y i))) := by
    show (if (mkL n x).length = (mkL n y).length ∧ (mkL n x).length ≤ 10000000 then mNew (.lst (zipP (mkL n x) (mkL n y))) else M.bad) = _
    rw [if_pos ⟨by simp, by simp; omega⟩]
    unfold mkL
    rw [zipP_map]; rfl
  rw [ez, wp_mNew]
  have e1 : (h.new (.lst ((List.range n).map fun i => fiT (x i, y i)))).get h.nx = some (.lst ((List.range n).map fun i => fiT (x i, y i))) := MH.get_new
  have l1 := Le.new h (.lst ((List.range n).map fun i => fiT (x i, y i)))
  generalize (h.new (.lst ((List.range n).map fun i => fiT (x i, y i)))) = h1 at e1 l1 ⊢
  refine wp_lrg ?_
  simp only [wp_eApp, wp_aCons, wp_aNil, wp_eVar]
  refine ⟨.ref h.nx, rfl, (wp_lenR e1).mpr ⟨n, by simp, by omega, ?_⟩⟩
  have e2 : (h1.new (.lst (thL n))).get h1.nx = some (.lst (thL n)) := MH.get_new
  have l2 := Le.new h1 (.lst (thL n))
  generalize h1.new (.lst (thL n)) = h2 at e2 l2 ⊢
  refine wp_defB rfl ?_
  rw [s_mbT]
  refine c_mb (φ := fiT) (key := fun i => (x i, y i)) (n := n) (by omega) fiT_eq (fun a => rfl) e2 (fun h' i Q le hi q => ?_) fun h' m le by_ => ?_
  · rw [wp_ixR (le.get _ _ (l2.get _ _ e1)), atI_nat (by simpa using hi)]
    exact ⟨_, by simp [hi], q⟩
  · refine c_make h3 h6 by_.ok fun h4 l4 _ ob => ?_
    exact q _ _ m (((l1.trans l2).trans le).trans l4) (meet_by by_) ob
end
end FX

set_option Elab.async false
set_option linter.all false
set_option maxRecDepth 100000
set_option maxHeartbeats 1000000
namespace FX
open L2
def abK (l : List Nat) (v : Nat → Nat) : List (PV × PV) := l.map fun i => (fiK i, fiK (v i))
theorem ab_get {v : Nat → Nat} {j : Nat} : ∀ {l : List Nat}, j ∈ l → dGet (abK l v) (fiK j) = some (fiK (v j))
  | i :: l, h => by
    show ((abK (i :: l) v).find? fun q => keyE q.1 (fiK j)).map (·.2) = _
    by_cases e : i = j
    · subst e
      rw [show abK (i :: l) v = (fiK i, fiK (v i)) :: abK l v from rfl, List.find?_cons_of_pos (by simp [fiK_eq])]
      rfl
    · rw [show abK (i :: l) v = (fiK i, fiK (v i)) :: abK l v from rfl, List.find?_cons_of_neg (by simp [fiK_eq, e])]
      exact ab_get (l := l) ((List.mem_cons.mp h).resolve_left (Ne.symm e))
theorem ab_none {v : Nat → Nat} {j : Nat} : ∀ {l : List Nat}, j ∉ l → dGet (abK l v) (fiK j) = none
  | [], _ => rfl
  | i :: l, h => by
    show ((abK (i :: l) v).find? fun q => keyE q.1 (fiK j)).map (·.2) = _
    have e : ¬ i = j := fun e => h (by rw [e]; exact List.mem_cons_self)
    rw [show abK (i :: l) v = (fiK i, fiK (v i)) :: abK l v from rfl, List.find?_cons_of_neg (by simp [fiK_eq, e])]
    exact ab_none (l := l) fun z => h (List.mem_cons_of_mem _ z)
theorem ab_put {v : Nat → Nat} {j w : Nat} {l : List Nat} (h : j ∈ l) : dPut (abK l v) (fiK j) (fiK w) = abK l (upd1 v j w) := by
  unfold dPut
  rw [any_find, ab_get h]
  simp only [Option.isSome_some, if_true]
  unfold abK
  rw [List.map_map]
  refine List.map_congr_left fun i _ => ?_
  simp only [Function.comp, fiK_eq, upd1]
  by_cases e : i = j
  · simp [e]
  · simp [e]
theorem ab_snoc {v : Nat → Nat} {i : Nat} : dPut (abK (List.range i) v) (fiK i) (fiK (v i)) = abK (List.range (i + 1)) v := by
  rw [dPut_new (ab_none (by simp))]
  simp [abK, List.range_succ]
theorem mrg_ab {v : Nat → Nat} : ∀ n : Nat, mrg [] (abK (List.range n) v) = abK (List.range n) v
  | 0 => rfl
  | n + 1 => by
    have e : abK (List.range (n + 1)) v = abK (List.range n) v ++ [(fiK n, fiK (v n))] := by simp [abK, List.range_succ]
    rw [e]
    unfold mrg
    rw [List.foldl_append]
    show dPut (mrg [] (abK (List.range n) v)) (fiK n) (fiK (v n)) = _
    rw [mrg_ab n, ab_snoc, e]
theorem prs_ab : ∀ l : List Nat, prsOf (l.map fun i => PV.tup [.int (i : Nat), .int (i : Nat)]) = some (abK l id)
  | [] => rfl
  | i :: l => by
    show (asK (.int (i : Nat))).bind _ = _
    simp only [asK, Option.bind_some]
    rw [prs_ab l]; rfl
section
variable {h : MH} {n : Nat} {Q : PV → MH → Prop}
theorem c_root {da k : Nat} {ps : List (Nat × Nat)} {p R d : Nat → Nat} (u : Uf n k ps p R d) (hk : k < 1000000) (e : h.get da = some (.dct (abK (List.range n) p))) {i : Nat} (hi : i < n) (q : Q (.int (R i : Nat)) h) : wp (F_root_of [.ref da, .int (i : Nat)]) h Q := by
  refine wp_defB rfl (wp_runB ?_)
  have ed : h.get da = some (mkD false (abK (List.range n) p)) := e
  simp only [s_root_of, ws_sSeq]
  refine ws_sWh (I := fun m ρ h' => ∃ j, ρ = [some (.ref da), some (.int (j : Nat))] ∧ j < n ∧ R j = R i ∧ d j ≤ m ∧ h' = h) (d i) (by have := u.few i hi; unfold fuel; omega) ⟨i, rfl, hi, rfl, Nat.le_refl _, rfl⟩ ?_
  rintro m ρ h' ⟨j, rfl, hj, hR, hd, rfl⟩
  have hg : ∀ Q : PV → MH → Prop, Q (.int (p j : Nat)) h' → wp (pDGet (.ref da) (.int (j : Nat))) h' Q := fun Q q => wp_dget ed rfl (ab_get (by simpa using hj)) q
  simp only [wp_tCm, wp_eOp, wp_eVar]
  refine ⟨_, rfl, _, rfl, hg _ ⟨_, rfl, wp_neI.mpr ⟨_, rfl, ?_⟩⟩⟩
  by_cases hp : p j = j
  · have e1 : (((p j : Nat) : Int) = (j : Nat)) := by rw [hp]
    simp only [e1, decide_true, Bool.not_true, Bool.false_eq_true, if_false, nxt_nx, ws_sRet, wp_eVar]
    refine ⟨_, rfl, ?_⟩
    have := (u.root j hj).mp hp
    rw [hR] at this
    rw [← this]
    exact q
  · have e1 : ¬ (((p j : Nat) : Int) = (j : Nat)) := by omega
    simp only [e1, decide_false, Bool.not_false, if_true, ws_sAsg, wp_eOp, wp_eVar]
    refine ⟨_, rfl, _, rfl, hg _ (wp_gSet.mpr ?_)⟩
    have hs := u.step j hj hp
    exact ⟨d (p j), by omega, p j, rfl, u.up j hj, (u.same j hj).trans hR, Nat.le_refl _, rfl⟩
def prV (q : Nat × Nat) : PV := .tup [.int (q.1 : Nat), .int (q.2 : Nat)]
theorem c_grouped {ta pa : Nat} {ps : List (Nat × Nat)} (hn : n ≤ 1000) (hta : h.get ta = some (.lst (thL n))) (hpa : h.get pa = some (.lst (ps.map prV))) (hps : ∀ q ∈ ps, q.1 < n ∧ q.2 < n) (hl : ps.length ≤ 1000)
    (q : ∀ h' r R, Le h h' → h'.get r = some (.dct (abK (List.range n) R)) → (∀ i, i < n → R i < n ∧ R (R i) = R i) → (∀ z : Nat → Nat, (∀ i, i < n → z (R i) = z i) ↔ ∀ q ∈ ps, z q.1 = z q.2) → Q (.ref r) h') : wp (F_grouped [.ref ta, .ref pa]) h Q := by
  refine wp_defB rfl (wp_runB ?_)
  simp only [s_grouped, ws_sSeq, ws_sAsg, wp_eApp, wp_aCons, wp_aNil, ws_sRet]
  refine wp_eLc (I := fun i acc h' => acc = ((List.range i).map fun i => PV.tup [.int (i : Nat), .int (i : Nat)]) ∧ h' = h) n (by omega) ?_
  refine wp_iSeq.mpr (wp_eVar.mpr ⟨.ref ta, rfl, (wp_srcR hta).mpr ⟨⟨rfl, rfl⟩, ?_, ?_⟩⟩)
  · rintro i acc h' hi ⟨rfl, rfl⟩
    refine ⟨.int (i : Nat), by rw [srcH_at hta, thL_get hi], ?_⟩
    simp [wipeE, List.range_succ]
  rintro acc h' ⟨rfl, rfl⟩
  refine ⟨by rw [srcH_at hta]; simp, ?_⟩
  have l1 := Le.new h' (.lst ((List.range n).map fun i => PV.tup [.int (i : Nat), .int (i : Nat)]))
  have e1 : (h'.new (.lst ((List.range n).map fun i => PV.tup [.int (i : Nat), .int (i : Nat)]))).get h'.nx = some (.lst ((List.range n).map fun i => PV.tup [.int (i : Nat), .int (i : Nat)])) := MH.get_new
  generalize h'.new (.lst ((List.range n).map fun i => PV.tup [.int (i : Nat), .int (i : Nat)])) = h1 at l1 e1 ⊢
  simp only [pDictP, mLst, wp_mAt, e1, Option.some.injEq, exists_eq_left', prs_ab, mrg_ab, wp_mNew, wp_gSet, nxt_nx]
  have e2 : (h1.new (.dct (abK (List.range n) id))).get h1.nx = some (.dct (abK (List.range n) id)) := MH.get_new
  have l2 : Le h' (h1.new (.dct (abK (List.range n) id))) := l1.trans (Le.new _ _)
  have hnx : h'.nx ≤ h1.nx := l1.nx
  generalize h1.nx = da at e2 hnx ⊢
  generalize h1.new (.dct (abK (List.range n) id)) = h2 at e2 l2 ⊢
  refine ws_sFor (I := fun i ρ h3 => ∃ a b c p R d, ρ = [some (.ref ta), some (.ref pa), some (.ref da), a, b, c] ∧ h3.get da = some (.dct (abK (List.range n) p)) ∧ Le h' h3 ∧ Uf n i (ps.take i) p R d) ps.length (by unfold fuel; omega) ?_
  refine wp_iSeq.mpr (wp_eVar.mpr ⟨.ref pa, rfl, (wp_srcR (l2.get _ _ hpa)).mpr ⟨⟨none, none, none, id, id, fun _ => 0, rfl, e2, l2, by simpa using uf_new⟩, ?_, ?_⟩⟩)
  · rintro i ρ h3 hi ⟨a, b, c, p, R, d, rfl, e3, l3, u⟩
    obtain ⟨pr, hpr⟩ : ∃ pr, ps[i]? = some pr := ⟨_, List.getElem?_eq_getElem hi⟩
    obtain ⟨q1, q2⟩ := hps pr (List.mem_of_getElem? hpr)
    refine ⟨prV pr, by rw [srcH_at (l3.get _ _ hpa)]; simp [hpr], ?_⟩
    simp only [prV, gTupl, List.length_cons, List.length_nil, gAll, if_true, wp_bind, wp_gSet, wp_ret, Nat.zero_add, Nat.reduceAdd, sSub, ws_sThen, wp_eApp, wp_aCons, wp_eVar, wp_aNil]
    refine ⟨.ref da, rfl, .int (pr.1 : Nat), rfl, c_root u (by omega) e3 q1 ⟨.ref da, rfl, .ref da, rfl, .int (pr.2 : Nat), rfl, c_root u (by omega) e3 q2 ?_⟩⟩
    have ed : h3.get da = some (mkD false (abK (List.range n) p)) := e3
    unfold stD
    refine wp_dct ed rfl ?_
    have hlen : (abK (List.range n) p).length < 10000000 := by simp [abK]; omega
    rw [if_pos hlen, wp_mPut]
    have ep : dPut (abK (List.range n) p) (.int (R pr.2 : Nat)) (.int (R pr.1 : Nat)) = abK (List.range n) (upd1 p (R pr.2) (R pr.1)) := ab_put (by simpa using u.lt _ q2)
    rw [ep]
    obtain ⟨R', d', u'⟩ := uf_add u q1 q2
    refine ws_ret.mpr ⟨trivial, _, _, _, _, R', d', rfl, MH.get_put (MH.get_lt e3), l3.put hnx, ?_⟩
    rw [List.take_succ, hpr]
    exact u'
  · rintro ρ h3 ⟨a, b, c, p, R, d, rfl, e3, l3, u⟩
    refine ⟨by rw [srcH_at (l3.get _ _ hpa)]; simp, ?_⟩
    simp only [nxt_nx]
    refine wp_eDc (I := fun i acc h4 => acc = abK (List.range i) R ∧ h4 = h3) n (by unfold fuel; omega) ?_
    refine wp_iSeq.mpr (wp_eVar.mpr ⟨.ref ta, rfl, (wp_srcR (l3.get _ _ hta)).mpr ⟨⟨rfl, rfl⟩, ?_, ?_⟩⟩)
    · rintro i acc h4 hi ⟨rfl, rfl⟩
      refine ⟨.int (i : Nat), by rw [srcH_at (l3.get _ _ hta), thL_get hi], ?_⟩
      simp only [wp_gSet, wp_tYes, if_true, wp_eVar, wp_eApp, wp_aCons, wp_aNil]
      refine ⟨_, rfl, .ref da, rfl, _, rfl, c_root u (by omega) e3 hi ⟨rfl, by simp [abK]; omega, ab_snoc, rfl⟩⟩
    · rintro acc h4 ⟨rfl, rfl⟩
      refine ⟨by rw [srcH_at (l3.get _ _ hta)]; simp, ?_⟩
      rw [List.take_length] at u
      exact q _ _ R (l3.trans (Le.new _ _)) MH.get_new (fun i hi => ⟨u.lt i hi, u.rr i hi⟩) u.says
end
end FX

set_option Elab.async false
set_option linter.all false
set_option maxRecDepth 100000
set_option maxHeartbeats 1000000
namespace FX
open L2
def psx (n : Nat) (x : Nat → Nat) : List (Nat × Nat) := ((List.range n).filter fun i => decide (x i < i)).map fun i => (x i, i)
theorem prL_psx {n : Nat} {x : Nat → Nat} : prL n x = (psx n x).map prV := by
  unfold prL psx
  rw [List.map_map]; rfl
theorem psx_len {n : Nat} {x : Nat → Nat} : (psx n x).length ≤ n := by
  unfold psx
  rw [List.length_map]
  exact Nat.le_trans (List.length_filter_le _ _) (by simp)
theorem psx_lt {n : Nat} {x : Nat → Nat} (ok : Mk n x) : ∀ q ∈ psx n x, q.1 < n ∧ q.2 < n := by
  intro q hq
  obtain ⟨i, hi, rfl⟩ := List.mem_map.mp hq
  have := (List.mem_filter.mp hi).1
  have hi : i < n := by simpa using this
  exact ⟨ok.lt i hi, hi⟩
theorem psx_says {n : Nat} {x z : Nat → Nat} (ok : Mk n x) : (∀ q ∈ psx n x, z q.1 = z q.2) ↔ Wi n x z := by
  rw [wi_prs ok]
  constructor
  · intro w i hi hx
    exact w (x i, i) (List.mem_map.mpr ⟨i, List.mem_filter.mpr ⟨by simpa using hi, by simpa using hx⟩, rfl⟩)
  · intro w q hq
    obtain ⟨i, hi, rfl⟩ := List.mem_map.mp hq
    obtain ⟨h1, h2⟩ := List.mem_filter.mp hi
    exact w i (by simpa using h1) (by simpa using h2)
section
variable {h : MH} {a b c n : Nat} {x y z : Nat → Nat} {Q : PV → MH → Prop}
theorem c_or (h3 : 3 ≤ n) (h6 : n ≤ 6) (ox : Mk n x) (oy : Mk n y) (o : Ob h a n x) (o2 : Ob h b n y) (q : ∀ h' r m, Le h h' → JoinOf n x y m → Ob h' r n m → Q (.ref r) h') : wp (mTwo 0 F_Standing___or__ (.ref a) (.ref b)) h Q := by
  simp only [mTwo, wp_ins o, wp_ins o2]
  refine wp_defB rfl (wp_runB ?_)
  simp [s_Standing___or__, N_Standing___or__, kd_ob o2, ti_Standing, tbL, tbC, tru, eMet, wp_ins o]
  refine c_check o o2 ?_
  refine wp_lrg ?_
  simp only [wp_eApp, wp_aCons, wp_aNil, wp_eUn, wp_eVar]
  refine ⟨.ref a, rfl, (wp_slot o).mpr (wp_lenM.mpr ⟨n, rfl, by omega, ?_⟩)⟩
  have e1 : (h.new (.lst (thL n))).get h.nx = some (.lst (thL n)) := MH.get_new
  have l1 := Le.new h (.lst (thL n))
  generalize h.nx = ta at e1 ⊢
  generalize h.new (.lst (thL n)) = h1 at e1 l1 ⊢
  simp [atPr, wp_ins (o.le l1)]
  refine c_pairs h6 (o.le l1) (fun h2 l2 e2 => ?_) rfl
  have l12 := l1.trans l2
  simp only [mSeq, wp_mAt, e2, Option.some.injEq, exists_eq_left', wp_bind, wp_aStar, wp_eUn, wp_eVar]
  generalize h1.nx = r1 at e2 ⊢
  refine ⟨.ref b, rfl, ?_⟩
  simp only [atPr, wp_ins (o2.le l12), wp_noX]
  refine c_pairs h6 (o2.le l12) (fun h3' l3 e3 => ?_) rfl
  have l13 := l12.trans l3
  simp only [mSeq, wp_mAt, e3, Option.some.injEq, exists_eq_left', wp_bind, wp_aNil, wp_ret, List.append_nil]
  have el : (prL n x ++ prL n y).length ≤ 10000000 := by
    rw [prL_psx, prL_psx, List.length_append, List.length_map, List.length_map]
    have := psx_len (n := n) (x := x); have := psx_len (n := n) (x := y); omega
  refine ⟨el, ?_⟩
  have ep : prL n x ++ prL n y = (psx n x ++ psx n y).map prV := by rw [prL_psx, prL_psx, List.map_append]
  rw [ep]
  have e4 : (h3'.new (.lst ((psx n x ++ psx n y).map prV))).get h3'.nx = some (.lst ((psx n x ++ psx n y).map prV)) := MH.get_new
  have l4 := l13.trans (Le.new h3' (.lst ((psx n x ++ psx n y).map prV)))
  have t4 := (l2.trans l3).trans (Le.new h3' (.lst ((psx n x ++ psx n y).map prV)))
  generalize h3'.nx = pa at e4 ⊢
  generalize h3'.new (.lst ((psx n x ++ psx n y).map prV)) = h4 at e4 l4 t4 ⊢
  refine c_grouped (by omega) (t4.get _ _ e1) e4 (fun q hq => ?_) (by rw [List.length_append]; have := psx_len (n := n) (x := x); have := psx_len (n := n) (x := y); omega) fun h5 r R l5 e5 hR says => ?_
  · rcases List.mem_append.mp hq with hq | hq
    · exact psx_lt ox q hq
    · exact psx_lt oy q hq
  · refine wp_defB rfl ?_
    rw [s_mbK]
    refine c_mb (φ := fiK) (key := R) (n := n) (by omega) fiK_eq (fun a => rfl) (l5.get _ _ (t4.get _ _ e1)) (fun h' i Q le hi q => ?_) fun h' m le by_ => ?_
    · exact wp_dget (t := false) (le.get _ _ e5) rfl (ab_get (by simpa using hi)) q
    · refine c_make h3 h6 by_.ok fun h7 l7 _ ob => ?_
      refine q _ _ m (((l4.trans l5).trans le).trans l7) (join_by hR by_ fun z => ?_) ob
      rw [says z, ← psx_says ox, ← psx_says oy]
      constructor
      · exact fun w => ⟨fun q hq => w q (List.mem_append_left _ hq), fun q hq => w q (List.mem_append_right _ hq)⟩
      · rintro ⟨w1, w2⟩ q hq
        rcases List.mem_append.mp hq with hq | hq
        · exact w1 q hq
        · exact w2 q hq
theorem c_bare (h3 : 3 ≤ n) (h6 : n ≤ 6) (q : ∀ h' r, Le h h' → Ob h' r n id → Q (.ref r) h') : wp (F_Standing_bare [.int ((n : Int) - 2)]) h Q := by
  refine wp_defB rfl (wp_runB ?_)
  simp only [s_Standing_bare, ws_sSeq, ws_sIf, wp_tNo, wp_tOf, wp_eApp, wp_aCons, wp_aNil, wp_eVar, wp_eC]
  refine ⟨_, rfl, c_int ?_⟩
  have e2 : (decide ((1 : Int) ≤ (n : Int) - 2) && decide ((n : Int) - 2 ≤ 4)) = true := by simp; omega
  rw [e2]
  simp [tru]
  refine wp_lrg ?_
  simp [pAdd]
  refine ⟨n, rfl, by omega, ?_⟩
  simp [pTuple, mLst, MH.get_new]
  exact c_make h3 h6 bare_mk fun h' l _ ob => q _ _ ((Le.new _ _).trans l) ob
end
end FX

set_option Elab.async false
set_option linter.all false
set_option maxRecDepth 100000
set_option maxHeartbeats 1000000
namespace FX
open L2
section
variable {h : MH} {a b c d n : Nat} {x y z v : Nat → Nat} {Q : PV → MH → Prop} {ρ : Env}
theorem c_wi2 {f g f' g' : EF} (h3 : 3 ≤ n) (h6 : n ≤ 6) (ox : Mk n x) (oz : Mk n z) (o : Ob h a n x) (o2 : Ob h b n y) (o3 : Ob h c n z) (o4 : Ob h d n v) (ef : f ρ = M.ret (.ref a)) (eg : g ρ = M.ret (.ref b)) (ef' : f' ρ = M.ret (.ref c)) (eg' : g' ρ = M.ret (.ref d))
    (q : ∀ h', Le h h' → Q (.bl (decide (Wi n x y) && decide (Wi n z v))) h') : wp (eAn (eMet 0 F_Standing_within f (aCons g aNil)) (eMet 0 F_Standing_within f' (aCons g' aNil)) ρ) h Q := by
  refine wp_eAn.mpr (c_wi h3 h6 ox o o2 ef eg fun h1 l1 => ?_)
  by_cases w : Wi n x y
  · rw [decide_eq_true w]
    refine wp_ret.mpr ?_
    simp only [if_true]
    refine c_wi h3 h6 oz (o3.le l1) (o4.le l1) ef' eg' fun h2 l2 => ?_
    have := q h2 (l1.trans l2)
    rw [decide_eq_true w, Bool.true_and] at this
    exact this
  · rw [decide_eq_false w]
    refine wp_ret.mpr ?_
    simp only [Bool.false_eq_true, if_false]
    have := q h1 l1
    rw [decide_eq_false w, Bool.false_and] at this
    exact this
theorem c_bounds (h3 : 3 ≤ n) (h6 : n ≤ 6) (ox : Mk n x) (oy : Mk n y) (oz : Mk n z) (o : Ob h a n x) (o2 : Ob h b n y) (o3 : Ob h c n z) (q : ∀ h', Le h h' → Q (.bl true) h') : wp (F__law_are_bounds_right [.ref a, .ref b, .ref c]) h Q := by
  refine wp_defB rfl (wp_runB ?_)
  simp only [s__law_are_bounds_right, ws_sSeq, ws_sPar, wp_aCons, wp_aNil, wp_eOp, wp_eVar]
  refine ⟨_, rfl, _, rfl, c_or h3 h6 ox oy o o2 fun h1 r1 m1 l1 j1 b1 => ⟨_, rfl, _, rfl, c_and h3 h6 ox oy (o.le l1) (o2.le l1) fun h2 r2 m2 l2 j2 b2 => ⟨_, _, rfl, ?_⟩⟩⟩
  have l02 := l1.trans l2
  simp only [nxt_nx, ws_sIf, wp_tCm]
  refine c_wi2 h3 h6 ox oy (o.le l02) (o3.le l02) (o2.le l02) (o3.le l02) rfl rfl rfl rfl fun h3' l3 => c_wi h3 h6 j1.ok ((b1.le l2).le l3) ((o3.le l02).le l3) rfl rfl fun h4 l4 => wp_neB.mpr ⟨_, rfl, ?_⟩
  have l04 := (l02.trans l3).trans l4
  have e1 : (decide (Wi n x z) && decide (Wi n y z)) = decide (Wi n m1 z) := by
    rw [Bool.eq_iff_iff, Bool.and_eq_true, decide_eq_true_eq, decide_eq_true_eq, decide_eq_true_eq]
    exact (j1.up z).symm
  rw [e1]
  simp only [beq_self_eq_true, Bool.not_true, Bool.false_eq_true, if_false, ws_sPass, nxt_nx]
  refine c_wi2 h3 h6 oz oz (o3.le l04) (o.le l04) (o3.le l04) (o2.le l04) rfl rfl rfl rfl fun h5 l5 => c_wi h3 h6 oz ((o3.le l04).le l5) (((b2.le l3).le l4).le l5) rfl rfl fun h6' l6 => wp_neB.mpr ⟨_, rfl, ?_⟩
  have l06 := (l04.trans l5).trans l6
  have e2 : (decide (Wi n z x) && decide (Wi n z y)) = decide (Wi n z m2) := by
    rw [Bool.eq_iff_iff, Bool.and_eq_true, decide_eq_true_eq, decide_eq_true_eq, decide_eq_true_eq]
    exact (j2.up z oz.lt).symm
  rw [e2]
  simp only [beq_self_eq_true, Bool.not_true, Bool.false_eq_true, if_false, ws_sPass, nxt_nx, wp_tOo, wp_tCm, wp_eOp, wp_eVar]
  -- the joins
  refine ⟨_, rfl, _, rfl, c_or h3 h6 ox oy (o.le l06) (o2.le l06) fun h7 r7 m7 l7 j7 b7 => ⟨_, rfl, c_or h3 h6 j7.ok oz b7 ((o3.le l06).le l7) fun h8 r8 m8 l8 j8 b8 => ?_⟩⟩
  have l08 := (l06.trans l7).trans l8
  refine ⟨_, rfl, _, rfl, _, rfl, c_or h3 h6 oy oz (o2.le l08) (o3.le l08) fun h9 r9 m9 l9 j9 b9 => c_or h3 h6 ox j9.ok ((o.le l08).le l9) b9 fun h10 r10 m10 l10 j10 b10 => ?_⟩
  have l10' := (l08.trans l9).trans l10
  refine c_neO ((b8.le l9).le l10) b10 ⟨_, rfl, ?_⟩
  rw [decide_eq_true (join_assoc j7 j8 j9 j10)]
  simp only [Bool.not_true, Bool.false_eq_true, if_false, wp_tCm, wp_eOp, wp_eVar]
  -- the meets
  refine ⟨_, rfl, _, rfl, c_and h3 h6 ox oy (o.le l10') (o2.le l10') fun h11 r11 m11 l11 j11 b11 => ⟨_, rfl, c_and h3 h6 j11.ok oz b11 ((o3.le l10').le l11) fun h12 r12 m12 l12 j12 b12 => ?_⟩⟩
  have l12' := (l10'.trans l11).trans l12
  refine ⟨_, rfl, _, rfl, _, rfl, c_and h3 h6 oy oz (o2.le l12') (o3.le l12') fun h13 r13 m13 l13 j13 b13 => c_and h3 h6 ox j13.ok ((o.le l12').le l13) b13 fun h14 r14 m14 l14 j14 b14 => ?_⟩
  have l14' := (l12'.trans l13).trans l14
  refine c_neO ((b12.le l13).le l14) b14 ⟨_, rfl, ?_⟩
  rw [decide_eq_true (meet_assoc j11 j12 j13 j14)]
  simp only [Bool.not_true, Bool.false_eq_true, if_false, ws_sPass, nxt_nx, ws_sRet, wp_eAn, wp_eOp, wp_eVar]
  -- absorption
  refine ⟨_, rfl, _, rfl, _, rfl, c_and h3 h6 ox oy (o.le l14') (o2.le l14') fun h15 r15 m15 l15 j15 b15 => c_or h3 h6 ox j15.ok ((o.le l14').le l15) b15 fun h16 r16 m16 l16 j16 b16 => ?_⟩
  have l16' := (l14'.trans l15).trans l16
  refine ⟨_, rfl, c_eqO b16 (o.le l16') ?_⟩
  rw [decide_eq_true (absorb1 ox j15 j16)]
  refine wp_ret.mpr ?_
  simp only [if_true, wp_eOp, wp_eVar]
  refine ⟨_, rfl, _, rfl, _, rfl, c_or h3 h6 ox oy (o.le l16') (o2.le l16') fun h17 r17 m17 l17 j17 b17 => c_and h3 h6 ox j17.ok ((o.le l16').le l17) b17 fun h18 r18 m18 l18 j18 b18 => ?_⟩
  have l18' := (l16'.trans l17).trans l18
  refine ⟨_, rfl, c_eqO b18 (o.le l18') ?_⟩
  rw [decide_eq_true (absorb2 ox j17 j18)]
  exact q _ l18'
end
end FX

set_option Elab.async false
set_option linter.all false
set_option maxRecDepth 100000
set_option maxHeartbeats 1000000
namespace FX
open L2
structure Fm (n : Nat) (h h' : MH) : Prop where
  nx : h.nx ≤ h'.nx
  get : ∀ m, m ≠ n → ∀ o, h.get m = some o → h'.get m = some o
theorem Le.fm {h h' : MH} {n : Nat} (l : Le h h') : Fm n h h' := ⟨l.nx, fun m _ o e => l.get m o e⟩
theorem Fm.trans {a b c : MH} {n : Nat} (x : Fm n a b) (y : Fm n b c) : Fm n a c := ⟨Nat.le_trans x.nx y.nx, fun m hm o e => y.get m hm o (x.get m hm o e)⟩
theorem Fm.put {a b : MH} {n : Nat} {o : MO} (x : Fm n a b) : Fm n a (b.put n o) := ⟨x.nx, fun m hm u e => by
  rw [MH.get_put_ne hm]; exact x.get m hm u e⟩
theorem Ob.fm {h h' : MH} {a n d : Nat} {x : Nat → Nat} (o : Ob h a n x) (l : Fm d h h') (ne : a ≠ d) : Ob h' a n x := l.get _ ne _ o
/-- a pot of draws -/
def Pt (h : MH) (n : Nat) (k : Nat) : Prop := ∃ a b c : Int, h.get n = some (.lst [.int a, .int b, .int c]) ∧ 0 ≤ a ∧ 0 ≤ b ∧ b < 2 ^ 61 ∧ 0 ≤ c ∧ c ≤ k
theorem Pt.le {h h' : MH} {n k : Nat} (p : Pt h n k) (l : Le h h') : Pt h' n k := let ⟨a, b, c, e, r⟩ := p; ⟨a, b, c, l.get _ _ e, r⟩
section
variable {h : MH} {Q : PV → MH → Prop} {i j : Int}
theorem wp_mul (hs : smallI i = true ∨ smallI j = true) (q : Q (.int (i * j)) h) : wp (pMul (.int i) (.int j)) h Q := by
  have : (smallI i || smallI j) = true := by simpa using hs
  unfold pMul
  simp only [this, if_true]
  exact wp_ret.mpr q
theorem wp_mod (hs : 0 < j) (q : Q (.int (i % j)) h) : wp (pMod (.int i) (.int j)) h Q := by
  unfold pMod
  simp only [decide_eq_true hs, if_true]
  exact wp_ret.mpr q
theorem wp_div (hs : 0 < j ∧ j < 1073741824) (q : Q (.int (i / j)) h) : wp (pDiv (.int i) (.int j)) h Q := by
  unfold pDiv
  simp only [decide_eq_true hs, if_true]
  exact wp_ret.mpr q
theorem wp_pow (hs : 0 ≤ j ∧ (PySem.Builtin.Int.intBits i : Int) * j ≤ 2 ^ 27) (q : Q (.int (i ^ j.toNat)) h) : wp (pPow (.int i) (.int j)) h Q := by
  unfold pPow
  simp only [decide_eq_true hs, if_true]
  exact wp_ret.mpr q
@[simp] theorem wp_intI : wp (pInt [.int i]) h Q ↔ Q (.int i) h := by simp [pInt]
@[simp] theorem wp_intB {b : Bool} : wp (pInt [.bl b]) h Q ↔ Q (.int (if b = true then 1 else 0)) h := by cases b <;> simp [pInt]
@[simp] theorem wp_addI : wp (pAdd (.int i) (.int j)) h Q ↔ Q (.int (i + j)) h := by simp [pAdd]
@[simp] theorem wp_subI : wp (pSub (.int i) (.int j)) h Q ↔ Q (.int (i - j)) h := by simp [pSub]
theorem bits64 {x : Int} (h0 : 0 ≤ x) (h1 : x < 2 ^ 64) : PySem.Builtin.Int.intBits x ≤ 64 := by
  unfold PySem.Builtin.Int.intBits
  split
  · exact Nat.zero_le _
  · rename_i hne
    have hn : x.natAbs ≠ 0 := by
      intro e
      exact hne (by simp; omega)
    have hl : x.natAbs < 2 ^ 64 := by omega
    have := (Nat.log2_lt hn).mpr hl
    omega
theorem sm {x : Int} (h0 : 0 ≤ x) (h1 : x < 2 ^ 64) : smallI x = true := by
  unfold smallI
  exact decide_eq_true ⟨by omega, h1⟩
theorem c_take {n k : Nat} {up : Int} (p : Pt h n k) (hk : k ≤ 1000000) (h1 : 1 ≤ up) (h2 : up < 1000000) (q : ∀ h' i, Fm n h h' → Pt h' n (k + 1) → 0 ≤ i → i < up → Q (.int i) h') : wp (F__law_take [.ref n, .int up]) h Q := by
  obtain ⟨a, b, c, e, ha, hb, hb2, hc, hck⟩ := p
  have hup : 0 < up := by omega
  have i0 : atI [PV.int a, .int b, .int c] (0 : Int) = some (.int a) := rfl
  have i2 : atI [PV.int a, .int b, .int c] (2 : Int) = some (.int c) := rfl
  refine wp_defB rfl (wp_runB ?_)
  simp only [s__law_take, ws_sSeq, ws_sIf, wp_tCm, wp_eOp, wp_eVar, wp_eC]
  refine ⟨.ref n, rfl, (wp_ixR e).mpr ⟨_, i0, ?_⟩⟩
  have eg : pGt (.int a) (.int 0) = M.ret (.bl (decide (0 < a))) := rfl
  rw [eg, wp_ret]
  refine ⟨_, rfl, ?_⟩
  by_cases h0 : 0 < a
  · simp only [decide_eq_true h0, if_true, ws_sAsg, wp_eOp, wp_eApp, wp_aCons, wp_aNil, wp_eVar, wp_eC]
    refine ⟨.ref n, rfl, (wp_ixR e).mpr ⟨_, i0, wp_intI.mpr ⟨_, rfl, wp_mod hup (wp_gSet.mpr ?_)⟩⟩⟩
    simp only [nxt_nx, sSub, ws_sThen, wp_eOp, wp_eVar, wp_eC]
    refine ⟨.ref n, rfl, (wp_ixR e).mpr ⟨_, i0, .int up, rfl, wp_div ⟨hup, by omega⟩ ⟨.ref n, rfl, ?_⟩⟩⟩
    have ix : ixN 3 (0 : Int) = some 0 := rfl
    simp only [stIx, mMut, wp_mAt, e, Option.some.injEq, exists_eq_left', List.length_cons, List.length_nil, Nat.reduceAdd, Nat.zero_add, ix, wp_mPut, ws_ret, nox_nx, true_and, nxt_nx, ws_sRet, wp_eVar]
    refine ⟨_, rfl, ?_⟩
    have ed : 0 ≤ a / up := Int.ediv_nonneg ha (by omega)
    exact q _ _ (Fm.put ⟨Nat.le_refl _, fun _ _ _ e => e⟩) ⟨a / up, b, c, MH.get_put (MH.get_lt e), ed, hb, hb2, hc, by omega⟩ (Int.emod_nonneg _ (by omega)) (Int.emod_lt_of_pos _ hup)
  · simp only [decide_eq_false h0, Bool.false_eq_true, if_false, ws_sPass, nxt_nx, sSub, ws_sThen, wp_eOp, wp_eVar, wp_eC]
    refine ⟨.ref n, rfl, (wp_ixR e).mpr ⟨_, i2, wp_addI.mpr ⟨.ref n, rfl, ?_⟩⟩⟩
    have ix : ixN 3 (2 : Int) = some 2 := rfl
    simp only [stIx, mMut, wp_mAt, e, Option.some.injEq, exists_eq_left', List.length_cons, List.length_nil, Nat.reduceAdd, Nat.zero_add, ix, wp_mPut, ws_ret, nox_nx, true_and, nxt_nx]
    have e1 : (h.put n (.lst [.int a, .int b, .int (c + 1)])).get n = some (.lst [.int a, .int b, .int (c + 1)]) := MH.get_put (MH.get_lt e)
    have l1 : Fm n h (h.put n (.lst [.int a, .int b, .int (c + 1)])) := Fm.put ⟨Nat.le_refl _, fun _ _ _ e => e⟩
    show ws _ (h.put n (.lst [.int a, .int b, .int (c + 1)])) _
    generalize h.put n (.lst [.int a, .int b, .int (c + 1)]) = g1 at e1 l1 ⊢
    have j1 : atI [PV.int a, .int b, .int (c + 1)] (1 : Int) = some (.int b) := rfl
    have j2 : atI [PV.int a, .int b, .int (c + 1)] (2 : Int) = some (.int (c + 1)) := rfl
    simp only [ws_sSeq, ws_sAsg, wp_eOp, wp_eLst, wp_aCons, wp_aNil, wp_eC, wp_eApp, wp_eVar, List.length_cons, List.length_nil, Nat.reduceAdd, Nat.zero_add, Nat.reduceLeDiff, if_true]
    have e2 : ∀ o, (g1.new o).get n = some (.lst [.int a, .int b, .int (c + 1)]) := fun o => (Le.new g1 o).get _ _ e1
    refine ⟨.ref n, rfl, (wp_ixR (e2 _)).mpr ⟨_, j2, wp_intI.mpr (wp_mod (by decide) ?_)⟩⟩
    have hpr : ∃ pr : Int, 0 < pr ∧ pr < 2147483648 ∧ atI [PV.int 2147483647, .int 2147483629, .int 2147483587, .int 2147483579, .int 2147483563] ((c + 1) % 5) = some (.int pr) := by
      have h5 : (c + 1) % 5 = 0 ∨ (c + 1) % 5 = 1 ∨ (c + 1) % 5 = 2 ∨ (c + 1) % 5 = 3 ∨ (c + 1) % 5 = 4 := by omega
      rcases h5 with z | z | z | z | z <;> rw [z] <;> exact ⟨_, by decide, by decide, rfl⟩
    obtain ⟨pr, pr0, pr1, epr⟩ := hpr
    refine (wp_ixR MH.get_new).mpr ⟨_, epr, wp_gSet.mpr ?_⟩
    have l2 := l1.trans (Le.new g1 (.lst [PV.int 2147483647, .int 2147483629, .int 2147483587, .int 2147483579, .int 2147483563])).fm
    have e3 := e2 (.lst [PV.int 2147483647, .int 2147483629, .int 2147483587, .int 2147483579, .int 2147483563])
    generalize g1.new (.lst [PV.int 2147483647, .int 2147483629, .int 2147483587, .int 2147483579, .int 2147483563]) = g2 at e3 l2 ⊢
    simp only [nxt_nx, ws_sSeq, ws_sAsg, wp_eApp, wp_aCons, wp_aNil, wp_eOp, wp_eC, wp_eVar]
    refine ⟨.ref n, rfl, (wp_ixR e3).mpr ⟨_, j1, .ref n, rfl, (wp_ixR e3).mpr ⟨_, j2, wp_mul (.inl (by decide)) ⟨.ref n, rfl, (wp_ixR e3).mpr ⟨_, j2, wp_mul (.inr (sm (by omega) (by omega))) (wp_addI.mpr (wp_addI.mpr (wp_intI.mpr ?_)))⟩⟩⟩⟩⟩
    have hc1 : 0 ≤ c + 1 ∧ c + 1 ≤ 1000001 := by omega
    have hx0 : 0 ≤ 99809 * (c + 1) * (c + 1) := Int.mul_nonneg (by omega) hc1.1
    have hx1 : 99809 * (c + 1) * (c + 1) ≤ 99809 * 1000001 * 1000001 := by
      have := Int.mul_le_mul (show 99809 * (c + 1) ≤ 99809 * 1000001 by omega) hc1.2 hc1.1 (by decide)
      exact this
    have hb64 := bits64 (x := b + 99809 * (c + 1) * (c + 1) + 59) (by omega) (by omega)
    refine wp_pow ⟨by decide, by omega⟩ (wp_intI.mpr ⟨.int pr, rfl, wp_mod pr0 (wp_gSet.mpr ?_)⟩)
    generalize (b + 99809 * (c + 1) * (c + 1) + 59) ^ (3 : Int).toNat % pr = mx
    refine ⟨_, rfl, _, rfl, wp_intI.mpr (wp_mod (by decide) ⟨.ref n, rfl, (wp_ixR e3).mpr ⟨_, j2, wp_mul (.inl (by decide)) (wp_addI.mpr (wp_mul (.inr ?_) (wp_intI.mpr (wp_mod (by decide) (wp_gSet.mpr ?_)))))⟩⟩)⟩
    · have m1 := Int.emod_nonneg mx (show (10433 : Int) ≠ 0 by decide)
      have m2 := Int.emod_lt_of_pos mx (show (0 : Int) < 10433 by decide)
      exact sm (by omega) (by omega)
    · simp only [nxt_nx, ws_sRet, wp_eApp, wp_aCons, wp_aNil, wp_eOp, wp_eC, wp_eVar]
      refine ⟨_, rfl, wp_div (by decide) (wp_intI.mpr ⟨.int up, rfl, wp_mod hup ?_⟩)⟩
      exact q _ _ l2 ⟨a, b, c + 1, e3, ha, hb, hb2, by omega, by omega⟩ (Int.emod_nonneg _ (by omega)) (Int.emod_lt_of_pos _ hup)
end
end FX

set_option Elab.async false
set_option linter.all false
set_option maxRecDepth 100000
set_option maxHeartbeats 1000000
namespace FX
open L2
section
variable {h : MH} {Q : PV → MH → Prop}
theorem c_of {n k sa : Nat} {xs : List PV} (p : Pt h n k) (hk : k ≤ 1000000) (e : h.get sa = some (.lst xs)) (ne : sa ≠ n) (h1 : 1 ≤ xs.length) (h2 : xs.length < 1000000) (q : ∀ (h' : MH) (i : Nat) (x : PV), Fm n h h' → Pt h' n (k + 1) → xs[i]? = some x → Q x h') : wp (F__law_of [.ref n, .ref sa]) h Q := by
  refine wp_defB rfl (wp_runB ?_)
  simp only [s__law_of, ws_sRet, wp_eOp, wp_eVar, wp_eApp, wp_aCons, wp_aNil]
  refine ⟨.ref sa, rfl, .ref n, rfl, .ref sa, rfl, (wp_lenR e).mpr (c_take p hk (by omega) (by omega) fun h' i l p' hi0 hi1 => ?_)⟩
  have e' := l.get _ ne _ e
  obtain ⟨j, rfl⟩ : ∃ j : Nat, i = (j : Nat) := ⟨i.toNat, by omega⟩
  have hj : j < xs.length := by omega
  rw [wp_ixR e', atI_nat hj]
  exact ⟨_, List.getElem?_eq_getElem hj, q h' j _ l p' (List.getElem?_eq_getElem hj)⟩
theorem toIs_mk : ∀ (l : List Nat) (f : Nat → Nat), toIs (l.map fun i => PV.int (f i : Nat)) = some (l.map fun i => ((f i : Nat) : Int))
  | [], _ => rfl
  | i :: l, f => by
    show (toIs (l.map fun i => PV.int (f i : Nat))).map (((f i : Nat) : Int) :: ·) = _
    rw [toIs_mk l f]; rfl
theorem mk_next {i v : Nat} {x : Nat → Nat} (ok : Mk i x) (hv : v = i ∨ ∃ j, j < i ∧ v = x j) : Mk (i + 1) (upd1 x i v) := by
  intro j hj
  unfold upd1
  by_cases e : j = i
  · subst e
    rcases hv with rfl | ⟨l, hl, rfl⟩
    · simp
    · have h1 := (ok l hl).1
      have h2 := (ok l hl).2
      have ne : ¬ x l = j := by omega
      refine ⟨by simp; omega, ?_⟩
      simp only [if_true, if_neg ne]
      exact h2
  · have hj2 : j < i := by omega
    have h1 := (ok j hj2).1
    have ne : ¬ x j = i := by omega
    simp only [if_neg e, if_neg ne]
    exact ok j hj2
theorem mkL_next {i v : Nat} {x : Nat → Nat} : mkL i x ++ [.int (v : Nat)] = mkL (i + 1) (upd1 x i v) := by
  unfold mkL
  rw [List.range_succ, List.map_append]
  congr 1
  · refine List.map_congr_left fun j hj => ?_
    have : ¬ j = i := by have := List.mem_range.mp hj; omega
    simp [upd1, this]
  · simp [upd1]
theorem c_drawn {n k ct : Nat} (p : Pt h n k) (hk : k + ct ≤ 1000000) (hc : ct ≤ 60) (hn : n < h.nx) (q : ∀ h' x, Fm n h h' → Pt h' n (k + ct) → Mk ct x → Q (mkP ct x) h') : wp (F__law_drawn_marks [.ref n, .int (ct : Nat)]) h Q := by
  refine wp_defB rfl (wp_runB ?_)
  simp only [s__law_drawn_marks, ws_sSeq, ws_sAsg, wp_eTup, wp_aNil, List.length_nil, Nat.zero_le, if_true, wp_gSet, nxt_nx, ws_sRet]
  refine ws_sFor (I := fun i ρ h' => ∃ b x, ρ = [some (.ref n), some (.int (ct : Nat)), some (mkP i x), b] ∧ Fm n h h' ∧ Pt h' n (k + i) ∧ Mk i x) ct (by unfold fuel; omega) ?_
  unfold iRg1
  simp only [wp_bind, wp_eVar]
  refine ⟨_, rfl, ?_⟩
  have hr : rngOk (ct : Nat) = true := by unfold rngOk; exact decide_eq_true ⟨by omega, by omega⟩
  simp only [hr, if_true, wp_ret]
  refine ⟨⟨none, id, rfl, ⟨Nat.le_refl _, fun _ _ _ e => e⟩, p, fun i hi => absurd hi (Nat.not_lt_zero _)⟩, ?_, ?_⟩
  · rintro i ρ h' hi ⟨b, x, rfl, l, p', ok⟩
    refine ⟨.int (i : Nat), by simp [srcR]; exact hi, ?_⟩
    simp only [wp_gSet, ws_sAsg, wp_eOp, wp_eVar]
    refine ⟨mkP i x, rfl, ?_⟩
    simp only [wp_eTup, wp_aCons, wp_aNil, wp_eApp, wp_eVar, wp_eOp, wp_eLst, List.length_cons, List.length_nil, Nat.zero_add, Nat.reduceLeDiff, if_true, wp_eUn]
    refine ⟨.ref n, rfl, .int (i : Nat), rfl, mkP i x, rfl, ?_⟩
    have e1 : (h'.new (.lst [.int (i : Nat)])).get h'.nx = some (.lst [.int (i : Nat)]) := MH.get_new
    have l1 := Le.new h' (.lst [.int (i : Nat)])
    have n1 : n < h'.nx := Nat.lt_of_lt_of_le hn l.nx
    generalize hl1 : h'.nx = r1 at e1 n1 ⊢
    have nx1 : (h'.new (.lst [.int (i : Nat)])).nx = r1 + 1 := by rw [← hl1]; rfl
    generalize h'.new (.lst [.int (i : Nat)]) = g1 at e1 l1 nx1 ⊢
    have es : pSS (mkP i x) = mNew (.lst ((sDed ((List.range i).map fun j => ((x j : Nat) : Int))).map PV.int)) := by
      unfold mkP mkL pSS
      simp only [toIs_mk]
      rw [if_pos (by simp; omega)]
    rw [es, wp_mNew]
    have e2 : (g1.new (.lst ((sDed ((List.range i).map fun j => ((x j : Nat) : Int))).map PV.int))).get g1.nx = some (.lst ((sDed ((List.range i).map fun j => ((x j : Nat) : Int))).map PV.int)) := MH.get_new
    have l2 := l1.trans (Le.new g1 (.lst ((sDed ((List.range i).map fun j => ((x j : Nat) : Int))).map PV.int)))
    have f1 := (Le.new g1 (.lst ((sDed ((List.range i).map fun j => ((x j : Nat) : Int))).map PV.int))).get _ _ e1
    have nx2 : (g1.new (.lst ((sDed ((List.range i).map fun j => ((x j : Nat) : Int))).map PV.int))).nx = r1 + 2 := by rw [MH.new_nx, nx1]
    generalize g1.new (.lst ((sDed ((List.range i).map fun j => ((x j : Nat) : Int))).map PV.int)) = g2 at e2 l2 f1 nx2 ⊢
    have hlen : (sDed ((List.range i).map fun j => ((x j : Nat) : Int))).length ≤ 1000 := by
      have hs : ∀ l : List Int, (sDed l).length ≤ l.length := by
        intro l
        induction l with
        | nil => exact Nat.le_refl _
        | cons a l ih =>
          have hi : ∀ (a : Int) (l : List Int), (sIns a l).length ≤ l.length + 1 := by
            intro a l
            induction l with
            | nil => exact Nat.le_refl _
            | cons b l ih =>
              unfold sIns
              split
              · simp
              · split
                · simp
                · simp; exact ih
          unfold sDed
          have := hi a (sDed l)
          simp; omega
      have := hs ((List.range i).map fun j => ((x j : Nat) : Int))
      simp at this
      omega
    simp only [pAdd, mMut, wp_mAt, f1, e2, Option.some.injEq, exists_eq_left', List.length_cons, List.length_nil, List.length_map, Nat.zero_add, wp_ite, wp_mNew, wp_bad]
    rw [if_pos (by unfold lim; omega)]
    have e3 : (g2.new (.lst ([.int (i : Nat)] ++ (sDed ((List.range i).map fun j => ((x j : Nat) : Int))).map PV.int))).get g2.nx = some (.lst ([.int (i : Nat)] ++ (sDed ((List.range i).map fun j => ((x j : Nat) : Int))).map PV.int)) := MH.get_new
    have l3 := l2.trans (Le.new g2 (.lst ([.int (i : Nat)] ++ (sDed ((List.range i).map fun j => ((x j : Nat) : Int))).map PV.int)))
    refine c_of (p'.le l3) (by omega) e3 (by rw [nx2]; omega) (by simp) (by simp; omega) fun h5 j v l5 p5 hv => ?_
    have hvv : ∃ w : Nat, v = .int (w : Nat) ∧ (w = i ∨ ∃ j, j < i ∧ w = x j) := by
      have hm := List.mem_of_getElem? hv
      rcases List.mem_append.mp hm with hm | hm
      · exact ⟨i, by simpa using hm, .inl rfl⟩
      · obtain ⟨w, hw, rfl⟩ := List.mem_map.mp hm
        have := (mem_sDed).mp hw
        obtain ⟨j, hj, rfl⟩ := List.mem_map.mp this
        exact ⟨x j, rfl, .inr ⟨j, by simpa using hj, rfl⟩⟩
    obtain ⟨w, rfl, hw⟩ := hvv
    have ec : pAdd (mkP i x) (.tup [.int (w : Nat)]) = M.ret (PV.tup (mkL i x ++ [PV.int (w : Nat)])) := by
      show (if (mkL i x).length + [PV.int (w : Nat)].length ≤ lim then M.ret (PV.tup (mkL i x ++ [PV.int (w : Nat)])) else M.bad) = _
      rw [if_pos (by simp; unfold lim; omega)]
    show wp (pAdd (mkP i x) (.tup [.int (w : Nat)])) h5 _
    rw [ec, mkL_next]
    refine wp_ret.mpr ?_
    exact ⟨_, _, rfl, (l.trans l3.fm).trans l5, p5, mk_next ok hw⟩
  · rintro ρ h' ⟨b, x, rfl, l, p', ok⟩
    refine ⟨by simp [srcR], ?_⟩
    simp only [nxt_nx, ws_sRet, wp_eVar]
    exact ⟨_, rfl, q _ x l p' ok⟩
end
end FX

set_option Elab.async false
set_option linter.all false
set_option maxRecDepth 100000
set_option maxHeartbeats 1000000
namespace FX
open L2
theorem Pt.mono {h : MH} {n k k' : Nat} (p : Pt h n k) (l : k ≤ k') : Pt h n k' := let ⟨a, b, c, e, r1, r2, r3, r4, r5⟩ := p; ⟨a, b, c, e, r1, r2, r3, r4, by omega⟩
theorem Pt.lt {h : MH} {n k : Nat} (p : Pt h n k) : n < h.nx := let ⟨_, _, _, e, _⟩ := p; MH.get_lt e
section
variable {h : MH} {Q : PV → MH → Prop}
theorem c_right {n k : Nat} (p : Pt h n k) (hk : k ≤ 900000) (q : ∀ h', Fm n h h' → Pt h' n (k + 19) → Q (.bl true) h') : wp (F__law_right [.ref n]) h Q := by
  refine wp_defB rfl (wp_runB ?_)
  simp only [s__law_right, ws_sSeq, ws_sAsg, wp_eOp, wp_eC, wp_eApp, wp_aCons, wp_aNil, wp_eVar]
  refine ⟨.ref n, rfl, c_take p (by omega) (by decide) (by decide) fun h1 i l1 p1 hi0 hi1 => wp_addI.mpr (wp_gSet.mpr ?_)⟩
  obtain ⟨ct, ect⟩ : ∃ ct : Nat, 4 + i = (ct : Int) := ⟨(4 + i).toNat, by omega⟩
  rw [ect]
  have hc4 : 4 ≤ ct := by omega
  have hc6 : ct ≤ 6 := by omega
  simp only [nxt_nx, ws_sSeq, ws_sAsg]
  refine wp_eLc (I := fun i acc h' => ∃ rs : List Nat, acc = rs.map PV.ref ∧ rs.length = i ∧ (∀ r ∈ rs, ∃ x, Mk ct x ∧ Ob h' r ct x ∧ r ≠ n) ∧ Fm n h h' ∧ Pt h' n (k + 1 + i * 6)) 3 (by decide) ?_
  unfold iRg1
  simp only [wp_bind, wp_eC]
  have hr : rngOk 3 = true := by decide
  simp only [hr, if_true, wp_ret]
  refine ⟨⟨[], rfl, rfl, fun r hr => by simp at hr, l1, p1⟩, ?_, ?_⟩
  · rintro i acc h2 hi ⟨rs, rfl, hl, hob, l2, p2⟩
    refine ⟨.int (i : Nat), by simp [srcR]; exact hi, ?_⟩
    simp only [wp_gSet, wp_tYes, if_true, wp_eApp, wp_aCons, wp_eVar, wp_aNil]
    refine ⟨.ref n, rfl, .int (ct : Nat), rfl, c_drawn p2 (by omega) (by omega) p2.lt fun h3 x l3 p3 ok => c_make (by omega) hc6 ok fun h4 l4 _ ob => ?_⟩
    refine ⟨rs ++ [h3.nx], by simp, by simp [hl], fun r hr => ?_, (l2.trans l3).trans l4.fm, (p3.le l4).mono (by omega)⟩
    rcases List.mem_append.mp hr with hr | hr
    · obtain ⟨y, h1, h2, h3⟩ := hob r hr
      exact ⟨y, h1, (h2.fm l3 h3).le l4, h3⟩
    · rw [List.mem_singleton.mp hr]
      exact ⟨x, ok, ob, fun e => by have := p3.lt; omega⟩
  · rintro acc h2 ⟨rs, rfl, hl, hob, l2, p2⟩
    refine ⟨rfl, ?_⟩
    match rs, hl with
    | [r0, r1, r2], _ =>
    obtain ⟨x0, k0, o0, _⟩ := hob r0 (by simp)
    obtain ⟨x1, k1, o1, _⟩ := hob r1 (by simp)
    obtain ⟨x2, k2, o2, _⟩ := hob r2 (by simp)
    have e : (h2.new (.lst [.ref r0, .ref r1, .ref r2])).get h2.nx = some (.lst [.ref r0, .ref r1, .ref r2]) := MH.get_new
    have ll := Le.new h2 (.lst [.ref r0, .ref r1, .ref r2])
    have o0 := o0.le ll
    have o1 := o1.le ll
    have o2 := o2.le ll
    have p2 := p2.le ll
    have l2 := l2.trans ll.fm
    show wp (gSet 2 (.ref h2.nx) _) (h2.new (.lst [.ref r0, .ref r1, .ref r2])) _
    generalize h2.nx = sa at e ⊢
    generalize h2.new (.lst [.ref r0, .ref r1, .ref r2]) = g at e o0 o1 o2 p2 l2 ⊢
    have i0 : atI [PV.ref r0, .ref r1, .ref r2] (0 : Int) = some (.ref r0) := rfl
    have i1 : atI [PV.ref r0, .ref r1, .ref r2] (1 : Int) = some (.ref r1) := rfl
    refine wp_gSet.mpr ?_
    try simp only [nxt_nx, ws_sSeq, ws_sAsg, wp_eApp, wp_aCons, wp_aNil, wp_eOp, wp_eVar, wp_eC]
    refine ⟨.int (ct : Nat), rfl, wp_subI.mpr (c_bare (by omega) hc6 fun g1 rb m1 ob => wp_gSet.mpr ?_)⟩
    try simp only [nxt_nx, ws_sSeq, ws_sIf, wp_tOo, wp_tNo, wp_tOf, eMet, wp_bind, wp_eVar]
    refine ⟨.ref rb, rfl, ?_⟩
    try simp only [wp_ins ob, wp_ret, wp_aCons, wp_aNil, wp_eOp, wp_eVar, wp_eC]
    refine ⟨.ref sa, rfl, (wp_ixR (m1.get _ _ e)).mpr ⟨_, i0, c_within (by omega) hc6 bare_mk ob (o0.le m1) fun g2 m2 => ?_⟩⟩
    have m02 := m1.trans m2
    rw [decide_eq_true (bare_wi (y := x0) (n := ct))]
    refine wp_ret.mpr ?_
    try simp only [Bool.not_true, Bool.false_eq_true, if_false, wp_tCm, wp_eOp, wp_eVar, wp_eC]
    refine ⟨.ref sa, rfl, (wp_ixR (m02.get _ _ e)).mpr ⟨_, i1, .ref rb, rfl, c_or (by omega) hc6 k1 bare_mk (o1.le m02) (ob.le m2) fun g3 r3 y3 m3 j3 b3 => ⟨.ref sa, rfl, (wp_ixR ((m02.trans m3).get _ _ e)).mpr ⟨_, i1, c_neO b3 (o1.le (m02.trans m3)) ⟨_, rfl, ?_⟩⟩⟩⟩⟩
    have m03 := m02.trans m3
    rw [decide_eq_true (join_bare k1 j3)]
    try simp only [Bool.not_true, Bool.false_eq_true, if_false, wp_tCm, wp_eOp, wp_eVar, wp_eC]
    refine ⟨.ref sa, rfl, (wp_ixR (m03.get _ _ e)).mpr ⟨_, i1, .ref rb, rfl, c_and (by omega) hc6 k1 bare_mk (o1.le m03) (ob.le (m2.trans m3)) fun g4 r4 y4 m4 j4 b4 => ⟨.ref rb, rfl, c_neO b4 (ob.le ((m2.trans m3).trans m4)) ⟨_, rfl, ?_⟩⟩⟩⟩
    have m04 := m03.trans m4
    rw [decide_eq_true (meet_bare k1 j4)]
    try simp only [Bool.not_true, Bool.false_eq_true, if_false, ws_sPass, nxt_nx, ws_sSeq, ws_sIf, wp_tAn, wp_tOf, eMet, wp_bind, wp_eOp, wp_eVar, wp_eC]
    -- two that are within each other are equal
    refine ⟨.ref sa, rfl, (wp_ixR (m04.get _ _ e)).mpr ⟨_, i0, ?_⟩⟩
    try simp only [wp_ins (o0.le m04), wp_ret, wp_aCons, wp_aNil, wp_eOp, wp_eVar, wp_eC]
    refine ⟨.ref sa, rfl, (wp_ixR (m04.get _ _ e)).mpr ⟨_, i1, c_within (by omega) hc6 k0 (o0.le m04) (o1.le m04) fun g5 m5 => wp_ret.mpr ?_⟩⟩
    have m05 := m04.trans m5
    -- what follows
    have rest : ∀ g6, Le g g6 → ∀ ρ : Env, ρ = [some (.ref n), some (.int (ct : Nat)), some (.ref sa), none, some (.ref rb), none] → ws (sSeq (sFor (iRg1 (eC (.int 3))) (gSet 5) (sIf (tNo (tOf (eApp F__law_are_bounds_right (aCons (eOp pIx (eVar 2) (eVar 5)) (aCons (eOp pIx (eVar 2) (eOp pSub (eVar 5) (eC (.int 1)))) (aCons (eOp pIx (eVar 2) (eOp pSub (eVar 5) (eC (.int 2)))) (aNil))))))) (sRet (eC (.bl false))) (sPass))) (sRet (eC (.bl true))) ρ) g6 (fun o h' => match o with
        | .nx _ => Q .non h'
        | .rt x => Q x h'
        | _ => False) := by
      intro g6 m6 ρ eρ
      subst eρ
      try simp only [ws_sSeq]
      refine ws_sFor (I := fun i ρ h' => ∃ b, ρ = [some (.ref n), some (.int (ct : Nat)), some (.ref sa), none, some (.ref rb), b] ∧ Le g h') 3 (by decide) ?_
      unfold iRg1
      try simp only [wp_bind, wp_eC]
      try simp only [hr, if_true, wp_ret]
      refine ⟨⟨none, rfl, m6⟩, ?_, ?_⟩
      · rintro i ρ h' hi ⟨b, rfl, l⟩
        refine ⟨.int (i : Nat), by simp [srcR]; exact hi, ?_⟩
        try simp only [wp_gSet, ws_sIf, wp_tNo, wp_tOf, wp_eApp, wp_aCons, wp_aNil, wp_eOp, wp_eVar, wp_eC]
        match i, hi with
        | 0, _ =>
          refine ⟨.ref sa, rfl, _, rfl, (wp_ixR (l.get _ _ e)).mpr ⟨.ref r0, rfl, .ref sa, rfl, _, rfl, wp_subI.mpr ((wp_ixR (l.get _ _ e)).mpr ⟨.ref r2, rfl, .ref sa, rfl, _, rfl, wp_subI.mpr ((wp_ixR (l.get _ _ e)).mpr ⟨.ref r1, rfl, c_bounds (by omega) hc6 k0 k2 k1 (o0.le l) (o2.le l) (o1.le l) fun g7 l7 => wp_ret.mpr ?_⟩)⟩)⟩⟩
          simp only [Bool.not_true, Bool.false_eq_true, if_false, ws_sPass, turnQ_nx]
          exact ⟨_, rfl, l.trans l7⟩
        | 1, _ =>
          refine ⟨.ref sa, rfl, _, rfl, (wp_ixR (l.get _ _ e)).mpr ⟨.ref r1, rfl, .ref sa, rfl, _, rfl, wp_subI.mpr ((wp_ixR (l.get _ _ e)).mpr ⟨.ref r0, rfl, .ref sa, rfl, _, rfl, wp_subI.mpr ((wp_ixR (l.get _ _ e)).mpr ⟨.ref r2, rfl, c_bounds (by omega) hc6 k1 k0 k2 (o1.le l) (o0.le l) (o2.le l) fun g7 l7 => wp_ret.mpr ?_⟩)⟩)⟩⟩
          simp only [Bool.not_true, Bool.false_eq_true, if_false, ws_sPass, turnQ_nx]
          exact ⟨_, rfl, l.trans l7⟩
        | 2, _ =>
          refine ⟨.ref sa, rfl, _, rfl, (wp_ixR (l.get _ _ e)).mpr ⟨.ref r2, rfl, .ref sa, rfl, _, rfl, wp_subI.mpr ((wp_ixR (l.get _ _ e)).mpr ⟨.ref r1, rfl, .ref sa, rfl, _, rfl, wp_subI.mpr ((wp_ixR (l.get _ _ e)).mpr ⟨.ref r0, rfl, c_bounds (by omega) hc6 k2 k1 k0 (o2.le l) (o1.le l) (o0.le l) fun g7 l7 => wp_ret.mpr ?_⟩)⟩)⟩⟩
          simp only [Bool.not_true, Bool.false_eq_true, if_false, ws_sPass, turnQ_nx]
          exact ⟨_, rfl, l.trans l7⟩
      · rintro ρ h' ⟨b, rfl, l⟩
        refine ⟨rfl, ?_⟩
        try simp only [nxt_nx, ws_sRet, wp_eC]
        exact q _ (l2.trans l.fm) ((p2.le l).mono (by omega))
    by_cases w1 : Wi ct x0 x1
    · rw [decide_eq_true w1]
      try simp only [if_true]
      refine ⟨.ref sa, rfl, (wp_ixR (m05.get _ _ e)).mpr ⟨_, i1, ?_⟩⟩
      try simp only [wp_ins (o1.le m05), wp_ret, wp_aCons, wp_aNil, wp_eOp, wp_eVar, wp_eC]
      refine ⟨.ref sa, rfl, (wp_ixR (m05.get _ _ e)).mpr ⟨_, i0, c_within (by omega) hc6 k1 (o1.le m05) (o0.le m05) fun g6 m6 => wp_ret.mpr ?_⟩⟩
      have m06 := m05.trans m6
      by_cases w2 : Wi ct x1 x0
      · rw [decide_eq_true w2]
        try simp only [if_true, wp_tCm, wp_eOp, wp_eVar, wp_eC]
        refine ⟨.ref sa, rfl, (wp_ixR (m06.get _ _ e)).mpr ⟨_, i0, .ref sa, rfl, (wp_ixR (m06.get _ _ e)).mpr ⟨_, i1, c_neO (o0.le m06) (o1.le m06) ⟨_, rfl, ?_⟩⟩⟩⟩
        rw [decide_eq_true (Wi.anti k0 k1 w1 w2)]
        try simp only [Bool.not_true, Bool.false_eq_true, if_false, ws_sPass, nxt_nx]
        exact ws_sSeq.mp (rest g6 m06 _ rfl)
      · rw [decide_eq_false w2]
        try simp only [Bool.false_eq_true, if_false, ws_sPass, nxt_nx]
        exact ws_sSeq.mp (rest g6 m06 _ rfl)
    · rw [decide_eq_false w1]
      try simp only [Bool.false_eq_true, if_false, ws_sPass, nxt_nx]
      exact ws_sSeq.mp (rest g5 m05 _ rfl)
end
end FX

set_option Elab.async false
set_option linter.all false
set_option maxRecDepth 100000
set_option maxHeartbeats 1000000
namespace FX
open L2
def amL : List PV := [.tup [.int 0, .int 0, .int 0], .tup [.int 0, .int 0, .int 2], .tup [.int 0, .int 1, .int 0], .tup [.int 0, .int 1, .int 1], .tup [.int 0, .int 1, .int 2]]
def amR : R PV → Option MO
  | .ok (.ref r) h => h.get r
  | _ => none
theorem am_run : amR (F__law_all_marks [.int 3] mh0) = some (.lst amL) := by
  kernel_rfl
theorem c_am {Q : PV → MH → Prop} (q : ∀ h r, h.get r = some (.lst amL) → Q (.ref r) h) : wp (F__law_all_marks [.int 3]) mh0 Q := by
  have e := am_run
  cases hf : F__law_all_marks [.int 3] mh0 with
  | ok x h =>
    rw [hf] at e
    cases x with
    | ref r => exact ⟨_, _, hf, q h r e⟩
    | _ => cases e
  | exc _ _ _ => rw [hf] at e; cases e
  | bad => rw [hf] at e; cases e
def am (i : Nat) : Nat → Nat := match i with
  | 0 => fun _ => 0
  | 1 => fun j => if j = 2 then 2 else 0
  | 2 => fun j => if j = 1 then 1 else 0
  | 3 => fun j => if j = 0 then 0 else 1
  | _ => id
theorem am_get : ∀ i, i < 5 → amL[i]? = some (mkP 3 (am i))
  | 0, _ => rfl
  | 1, _ => rfl
  | 2, _ => rfl
  | 3, _ => rfl
  | 4, _ => rfl
theorem am_mk : ∀ i, i < 5 → Mk 3 (am i)
  | 0, _ => by intro j hj; simp [am]
  | 1, _ => by intro j hj; match j, hj with | 0, _ => decide | 1, _ => decide | 2, _ => decide
  | 2, _ => by intro j hj; match j, hj with | 0, _ => decide | 1, _ => decide | 2, _ => decide
  | 3, _ => by intro j hj; match j, hj with | 0, _ => decide | 1, _ => decide | 2, _ => decide
  | 4, _ => by intro j hj; match j, hj with | 0, _ => decide | 1, _ => decide | 2, _ => decide
section
variable {h : MH} {Q : PV → MH → Prop} {a : PySem.Addr} {xs : List PV}
theorem wp_lenK : wp (pLen [.kl a xs]) h Q ↔ Q (.int xs.length) h := by simp [pLen, mSeq]
theorem c_cells (q : ∀ h' r k, Le h h' → k ≤ 4 → h'.get r = some (.lst (thL k)) → Q (.ref r) h') : wp (F__law_cells [.kl a xs, .int 4]) h Q := by
  refine wp_defB rfl (wp_runB ?_)
  simp only [s__law_cells, ws_sRet]
  refine wp_lrg ?_
  simp only [wp_eApp, wp_aCons, wp_aNil, wp_eVar, wp_eC]
  refine ⟨_, rfl, _, rfl, wp_lenK.mpr (wp_ret.mpr (wp_ret.mpr ?_))⟩
  have hm : ∃ k : Nat, (if (if (xs.length : Int) < 4 then (xs.length : Int) else 4) > 1 then (if (xs.length : Int) < 4 then (xs.length : Int) else 4) else 1) = (k : Int) ∧ k ≤ 4 := by
    by_cases h1 : (xs.length : Int) < 4
    · by_cases h2 : (xs.length : Int) > 1
      · exact ⟨xs.length, by simp [h1, h2], by omega⟩
      · exact ⟨1, by simp [h1, h2], by omega⟩
    · exact ⟨4, by simp [h1], by omega⟩
  obtain ⟨k, ek, hk⟩ := hm
  refine ⟨k, congrArg PV.int ek, by omega, q _ _ k (Le.new _ _) hk MH.get_new⟩
theorem bitsK {x : Int} {k : Nat} (h0 : 0 ≤ x) (h1 : x < 2 ^ k) : PySem.Builtin.Int.intBits x ≤ k := by
  unfold PySem.Builtin.Int.intBits
  split
  · exact Nat.zero_le _
  · rename_i hne
    have hn : x.natAbs ≠ 0 := by
      intro e
      exact hne (by simp; omega)
    have hl : x.natAbs < 2 ^ k := by
      have : (x.natAbs : Int) < ((2 ^ k : Nat) : Int) := by
        rw [Int.natAbs_of_nonneg h0]
        simpa using h1
      exact Int.ofNat_lt.mp this
    have := (Nat.log2_lt hn).mpr hl
    omega
theorem b01 : ∀ b : Bool, smallI (if b = true then 1 else 0) = true := by decide
theorem b02 : ∀ b : Bool, (0 : Int) ≤ (if b = true then 1 else 0) := by decide
theorem wp_ixK {p : Nat} {ns : List Int} (hp : p < ns.length) (q : Q (.int ns[p]) h) : wp (pIx (.kl a (ns.map PV.int)) (.int (p : Nat))) h Q := by
  have hp2 : p < (ns.map PV.int).length := by simpa using hp
  simp only [pIx, mSeq, atI_nat hp2]
  rw [List.getElem?_map, List.getElem?_eq_getElem hp]
  exact wp_ret.mpr q
theorem c_pot {p : Nat} (hp : p ≤ 4) {ns : List Int} (q : ∀ h' r, Le h h' → h.nx ≤ r → Pt h' r 0 → Q (.ref r) h') : wp (F__law_pot [.kl a (ns.map PV.int), .int (p : Nat)]) h Q := by
  refine wp_defB rfl (wp_runB ?_)
  unfold s__law_pot
  refine ws_sSeq.mpr (ws_sAsg.mpr (wp_eIf.mpr (wp_tCm.mpr (wp_eVar.mpr ⟨_, rfl, wp_eApp.mpr (wp_aCons.mpr (wp_eVar.mpr ⟨_, rfl, wp_aNil.mpr (wp_lenK.mpr (wp_ret.mpr ⟨_, rfl, ?_⟩))⟩))⟩))))
  -- with the cell at hand
  have fin : ∀ cell : Int, ws ((sSeq (sAsg (eOp pMul (eOp pMod (eApp pInt (aCons (eApp pAbs (aCons (eVar 2) (aNil))) (aNil))) (eOp pPow (eOp pPow (eC (.int 10)) (eC (.int 60))) (eC (.int 5)))) (eApp pInt (aCons (eOp pGe (eApp pAbs (aCons (eVar 2) (aNil))) (eOp pPow (eC (.int 10)) (eC (.int 18)))) (aNil)))) (gSet 3)) (sSeq (sAsg (eOp pMod (eApp pInt (aCons (eVar 2) (aNil))) (eC (.int 2305843009213693951))) (gSet 4)) (sRet (eLst (aCons (eVar 3) (aCons (eOp pMod (eApp pInt (aCons (eOp pAdd (eOp pAdd (eOp pMul (eVar 4) (eC (.int 70313))) (eOp pMul (eOp pMul (eC (.int 7297)) (eVar 1)) (eVar 1))) (eC (.int 151))) (aNil))) (eC (.int 2305843009213693921))) (aCons (eC (.int 0)) (aNil)))))))) [some (PV.kl a (ns.map PV.int)), some (PV.int (p : Nat)), some (PV.int cell), none, none]) h (fun o h' => match o with
      | .nx _ => Q .non h'
      | .rt x => Q x h'
      | _ => False) := by
    intro cell
    have hab : 0 ≤ (if cell < 0 then -cell else cell) := by split <;> omega
    have b10 := bitsK (x := 10) (k := 4) (by decide) (by decide)
    have b60 := bitsK (x := (10 : Int) ^ (60 : Int).toNat) (k := 200) (by decide) (by decide)
    simp only [ws_sSeq, ws_sAsg, wp_eOp, wp_eApp, wp_aCons, wp_aNil, wp_eVar, wp_eC]
    refine ⟨_, rfl, wp_ret.mpr (wp_intI.mpr (wp_pow ⟨by decide, by omega⟩ (wp_pow ⟨by decide, by omega⟩ (wp_mod (by decide) ⟨_, rfl, wp_ret.mpr (wp_pow ⟨by decide, by omega⟩ (wp_ret.mpr (wp_intB.mpr (wp_mul (.inr ?_) (wp_gSet.mpr ?_)))))⟩))))⟩
    · exact b01 _
    · simp only [nxt_nx, ws_sSeq, ws_sAsg, wp_eOp, wp_eApp, wp_aCons, wp_aNil, wp_eVar, wp_eC]
      refine ⟨_, rfl, wp_intI.mpr (wp_mod (by decide) (wp_gSet.mpr ?_))⟩
      simp only [nxt_nx, ws_sRet, wp_eLst, wp_aCons, wp_aNil, wp_eOp, wp_eApp, wp_eVar, wp_eC]
      have m1 := Int.emod_nonneg cell (show (2305843009213693951 : Int) ≠ 0 by decide)
      have m2 := Int.emod_lt_of_pos cell (show (0 : Int) < 2305843009213693951 by decide)
      refine ⟨_, rfl, _, rfl, wp_mul (.inr (by decide)) ⟨_, rfl, wp_mul (.inl (by decide)) ⟨_, rfl, wp_mul (.inr (sm (by omega) (by omega))) (wp_addI.mpr (wp_addI.mpr (wp_intI.mpr (wp_mod (by decide) ?_))))⟩⟩⟩
      simp only [List.length_cons, List.length_nil, Nat.zero_add, Nat.reduceAdd, Nat.reduceLeDiff, if_true]
      refine q _ _ (Le.new _ _) (Nat.le_refl _) ⟨_, _, _, MH.get_new, ?_, Int.emod_nonneg _ (by decide), ?_, Int.le_refl _, Int.le_refl _⟩
      · refine Int.mul_nonneg (Int.emod_nonneg _ (by decide)) (b02 _)
      · exact Int.lt_of_lt_of_le (Int.emod_lt_of_pos _ (by decide)) (by decide)
  by_cases hlt : ((p : Nat) : Int) < ((ns.map PV.int).length : Nat)
  · simp only [decide_eq_true hlt, if_true]
    have hp2 : p < (ns.map PV.int).length := by omega
    have hp3 : p < ns.length := by simpa using hp2
    exact wp_eOp.mpr (wp_eVar.mpr ⟨_, rfl, wp_eVar.mpr ⟨_, rfl, wp_ixK hp3 (wp_gSet.mpr (fin _))⟩⟩)
  · simp only [decide_eq_false hlt, Bool.false_eq_true, if_false]
    exact wp_eOp.mpr (wp_eOp.mpr (wp_eC.mpr (wp_eVar.mpr ⟨_, rfl, wp_mul (.inl (by decide)) (wp_eC.mpr (wp_addI.mpr (wp_gSet.mpr (fin _))))⟩)))
end
end FX

set_option Elab.async false
set_option linter.all false
set_option maxRecDepth 100000
set_option maxHeartbeats 1000000
namespace FX
open L2
theorem plain_law : ∀ (a : PySem.Addr) (ns : List Int), ns.length ≤ 63 → ∃ h', runB N_law.length s_law [.kl a (ns.map PV.int)] mh0 = .ok (.bl true) h' := by
  intro a ns _
  suffices w : wp (runB N_law.length s_law [.kl a (ns.map PV.int)]) mh0 fun x _ => x = .bl true by
    obtain ⟨x, h', e, rfl⟩ := w
    exact ⟨h', e⟩
  refine wp_runB ?_
  unfold s_law
  obtain ⟨x, h1, hf, ra, rfl, e1⟩ := c_am (Q := fun x h => ∃ r, x = .ref r ∧ h.get r = some (.lst amL)) fun h r e => ⟨r, rfl, e⟩
  refine ws_sSeq.mpr (ws_sAsg.mpr ?_)
  refine wp_eLc (I := fun i acc h' => ∃ rs : List Nat, acc = rs.map PV.ref ∧ rs.length = i ∧ (∀ r ∈ rs, ∃ x, Mk 3 x ∧ Ob h' r 3 x) ∧ Le h1 h') 5 (by decide) ?_
  refine wp_iSeq.mpr (wp_eApp.mpr (wp_aCons.mpr (wp_eC.mpr (wp_aNil.mpr ⟨_, _, hf, (wp_srcR e1).mpr ⟨⟨[], rfl, rfl, fun r hr => by simp at hr, Le.refl _⟩, ?_, ?_⟩⟩))))
  · rintro i acc h2 hi ⟨rs, rfl, hl, hob, l2⟩
    refine ⟨mkP 3 (am i), by rw [srcH_at (l2.get _ _ e1), am_get i hi], ?_⟩
    refine wp_gSet.mpr (wp_tYes.mpr ?_)
    simp only [if_true]
    refine wp_eApp.mpr (wp_aCons.mpr (wp_eVar.mpr ⟨_, rfl, wp_aNil.mpr (c_make (by decide) (by decide) (am_mk i hi) fun h3 l3 _ ob => ?_)⟩))
    refine ⟨rs ++ [h2.nx], by simp, by simp [hl], fun r hr => ?_, l2.trans l3⟩
    rcases List.mem_append.mp hr with hr | hr
    · obtain ⟨y, k1, k2⟩ := hob r hr
      exact ⟨y, k1, k2.le l3⟩
    · rw [List.mem_singleton.mp hr]
      exact ⟨am i, am_mk i hi, ob⟩
  rintro acc h2 ⟨rs, rfl, hl, hob, l2⟩
  refine ⟨by rw [srcH_at (l2.get _ _ e1)]; rfl, ?_⟩
  have ee : (h2.new (.lst (rs.map PV.ref))).get h2.nx = some (.lst (rs.map PV.ref)) := MH.get_new
  have hob2 : ∀ r ∈ rs, ∃ x, Mk 3 x ∧ Ob (h2.new (.lst (rs.map PV.ref))) r 3 x := fun r hr => let ⟨y, k1, k2⟩ := hob r hr; ⟨y, k1, k2.le (Le.new _ _)⟩
  show wp (gSet 1 (.ref h2.nx) _) (h2.new (.lst (rs.map PV.ref))) _
  generalize h2.nx = ev at ee ⊢
  generalize h2.new (.lst (rs.map PV.ref)) = g at ee hob2 ⊢
  have at_ : ∀ i, i < 5 → ∃ r, (rs.map PV.ref)[i]? = some (.ref r) ∧ r ∈ rs := fun i hi => by
    have hi' : i < rs.length := by omega
    exact ⟨rs[i], by rw [List.getElem?_map, List.getElem?_eq_getElem hi']; rfl, List.getElem_mem hi'⟩
  refine wp_gSet.mpr (nxt_nx.mpr (ws_sSeq.mpr ?_))
  refine ws_sFor (I := fun i ρ h' => ∃ b c, ρ = [some (.kl a (ns.map PV.int)), some (.ref ev), none, b, c, none, none, none, none] ∧ Le g h') 5 (by decide) ?_
  refine wp_iSeq.mpr (wp_eVar.mpr ⟨.ref ev, rfl, (wp_srcR ee).mpr ⟨⟨none, none, rfl, Le.refl _⟩, ?_, ?_⟩⟩)
  · rintro i ρ h3 hi ⟨b, c, rfl, l3⟩
    obtain ⟨ro, ero, mro⟩ := at_ i hi
    obtain ⟨xo, ko, oo⟩ := hob2 ro mro
    refine ⟨.ref ro, by rw [srcH_at (l3.get _ _ ee)]; rw [ero], wp_gSet.mpr ?_⟩
    refine ws_sFor (I := fun i ρ h' => ∃ c, ρ = [some (.kl a (ns.map PV.int)), some (.ref ev), none, some (.ref ro), c, none, none, none, none] ∧ Le g h') 5 (by decide) ?_
    refine wp_iSeq.mpr (wp_eVar.mpr ⟨.ref ev, rfl, (wp_srcR (l3.get _ _ ee)).mpr ⟨⟨c, rfl, l3⟩, ?_, ?_⟩⟩)
    · rintro j ρ h4 hj ⟨c, rfl, l4⟩
      obtain ⟨rp, erp, mrp⟩ := at_ j hj
      obtain ⟨xp, kp, op⟩ := hob2 rp mrp
      refine ⟨.ref rp, by rw [srcH_at (l4.get _ _ ee)]; rw [erp], wp_gSet.mpr (ws_sIf.mpr (wp_tNo.mpr (wp_tOf.mpr (wp_eApp.mpr (wp_aCons.mpr ?_)))))⟩
      refine wp_eLc (I := fun k acc h' => acc = (List.replicate k true).map PV.bl ∧ Le g h') 5 (by decide) ?_
      refine wp_iSeq.mpr (wp_eVar.mpr ⟨.ref ev, rfl, (wp_srcR (l4.get _ _ ee)).mpr ⟨⟨rfl, l4⟩, ?_, ?_⟩⟩)
      · rintro k acc h5 hk ⟨ha, l5⟩
        obtain ⟨rq, erq, mrq⟩ := at_ k hk
        obtain ⟨xq, kq, oq⟩ := hob2 rq mrq
        refine ⟨.ref rq, by rw [srcH_at (l5.get _ _ ee)]; rw [erq], wp_gSet.mpr (wp_tYes.mpr ?_)⟩
        simp only [if_true]
        refine wp_eApp.mpr (wp_aCons.mpr (wp_eVar.mpr ⟨.ref ro, rfl, wp_aCons.mpr (wp_eVar.mpr ⟨.ref rp, rfl, wp_aCons.mpr (wp_eVar.mpr ⟨.ref rq, rfl, wp_aNil.mpr ?_⟩)⟩)⟩))
        exact c_bounds (by decide) (by decide) ko kp kq (oo.le l5) (op.le l5) (oq.le l5) fun h6 l6 => ⟨by simp [ha, List.replicate_succ'], l5.trans l6⟩
      · rintro acc h5 ⟨ha, l5⟩
        refine ⟨by rw [srcH_at (l5.get _ _ ee)]; simp [hl], ?_⟩
        subst ha
        refine wp_aNil.mpr (wp_all (bs := List.replicate 5 true) MH.get_new (wp_ret.mpr ?_))
        simp only [List.all_replicate, Nat.reduceEqDiff, if_false, id, Bool.not_true, Bool.false_eq_true]
        exact ws_sPass.mpr ⟨_, rfl, l5.trans (Le.new _ _)⟩
    · rintro ρ h4 ⟨c, rfl, l4⟩
      exact ⟨by rw [srcH_at (l4.get _ _ ee)]; simp [hl], _, _, rfl, l4⟩
  · rintro ρ h3 ⟨b, c, rfl, l3⟩
    refine ⟨by rw [srcH_at (l3.get _ _ ee)]; simp [hl], nxt_nx.mpr (ws_sSeq.mpr ?_)⟩
    obtain ⟨y, h4, hg, rc, kc, rfl, hk4, ec⟩ := c_cells (h := h3) (a := a) (xs := ns.map PV.int) (Q := fun x h => ∃ r k, x = .ref r ∧ k ≤ 4 ∧ h.get r = some (.lst (thL k))) fun h' r k _ hk e => ⟨r, k, rfl, hk, e⟩
    refine ws_sFor (I := fun i ρ h' => ∃ d f, ρ = [some (.kl a (ns.map PV.int)), some (.ref ev), none, b, c, none, d, f, none] ∧ h'.get rc = some (.lst (thL kc))) kc (by unfold fuel; omega) ?_
    refine wp_iSeq.mpr (wp_eApp.mpr (wp_aCons.mpr (wp_eVar.mpr ⟨_, rfl, wp_aCons.mpr (wp_eC.mpr (wp_aNil.mpr ⟨_, _, hg, (wp_srcR ec).mpr ⟨⟨none, none, rfl, ec⟩, ?_, ?_⟩⟩))⟩)))
    · rintro i ρ h5 hi ⟨d, f, rfl, e5⟩
      refine ⟨.int (i : Nat), by rw [srcH_at e5, thL_get hi], wp_gSet.mpr (ws_sSeq.mpr (ws_sAsg.mpr (wp_eApp.mpr (wp_aCons.mpr (wp_eVar.mpr ⟨_, rfl, wp_aCons.mpr (wp_eVar.mpr ⟨_, rfl, wp_aNil.mpr ?_⟩)⟩)))))⟩
      refine c_pot (by omega) fun h6 r l6 hr p6 => wp_gSet.mpr (nxt_nx.mpr (ws_sIf.mpr (wp_tNo.mpr (wp_tOf.mpr (wp_eApp.mpr (wp_aCons.mpr ?_))))))
      have ne : rc ≠ r := by have := MH.get_lt e5; omega
      have e6 := l6.get _ _ e5
      refine wp_eLc (I := fun k acc h' => acc = (List.replicate k true).map PV.bl ∧ Fm r h6 h' ∧ Pt h' r (19 * k)) 6 (by decide) ?_
      unfold iRg1
      refine wp_bind.mpr (wp_eC.mpr ?_)
      have hr6 : rngOk 6 = true := by decide
      simp only [hr6, if_true]
      refine wp_ret.mpr ⟨⟨rfl, ⟨Nat.le_refl _, fun _ _ _ e => e⟩, p6⟩, ?_, ?_⟩
      · rintro k acc h7 hk ⟨ha, f7, p7⟩
        refine ⟨.int (k : Nat), by simp [srcR]; exact hk, wp_gSet.mpr (wp_tYes.mpr ?_)⟩
        simp only [if_true]
        refine wp_eApp.mpr (wp_aCons.mpr (wp_eVar.mpr ⟨.ref r, rfl, wp_aNil.mpr (c_right p7 (by omega) fun h8 f8 p8 => ?_)⟩))
        exact ⟨by simp [ha, List.replicate_succ'], f7.trans f8, p8.mono (by omega)⟩
      · rintro acc h7 ⟨ha, f7, p7⟩
        refine ⟨rfl, ?_⟩
        subst ha
        refine wp_aNil.mpr (wp_all (bs := List.replicate 6 true) MH.get_new (wp_ret.mpr ?_))
        simp only [List.all_replicate, Nat.reduceEqDiff, if_false, id, Bool.not_true, Bool.false_eq_true]
        exact ws_sPass.mpr ⟨_, _, rfl, (Le.new _ _).get _ _ (f7.get _ ne _ e6)⟩
    · rintro ρ h5 ⟨d, f, rfl, e5⟩
      refine ⟨by rw [srcH_at e5]; simp, nxt_nx.mpr (ws_sRet.mpr (wp_eC.mpr rfl))⟩
end FX

open PySem PySem.W PySem.Calls PyProof.Rows
theorem PySem.Challenge.cw_landingwires_k03_whole_standings_least_a_holds : PySem.Challenge.rw_landingwires_k03_whole_standings_least_a.Holds := by
  w_on; o_law
  refine HandSHeadRun.head_any (r := OpenLaw.row PySem.Challenge.rw_landingwires_k03_whole_standings_least_a) (q := view (OpenLaw.row PySem.Challenge.rw_landingwires_k03_whole_standings_least_a).prog [27]) (H := FX.hk) (ob := FX.ob) (M := 20000) (loose := FX.loose) (d := HandSHeadRun.topDef (OpenLaw.row PySem.Challenge.rw_landingwires_k03_whole_standings_least_a).prog 27) (kwd := []) FX.ob_eq
    (by kernel_rfl) (fun s => by kernel_rfl) FX.run (by kernel_rfl) (by kernel_rfl) (by kernel_rfl) (by rfl) (by first | assumption | decide +kernel) (by decide +kernel) ⟨rfl, rfl, rfl, rfl, rfl, by decide +kernel⟩ ?hw ?hc
  case hw => w_witness2
  case hc =>
    refine L2.walk_ofE (l := PySem.Challenge.rw_landingwires_k03_whole_standings_least_a) (n := 63) (k := 8) (x := "_law_script") (CX := L2.CX0) rfl (by decide) (by kernel_rfl) ⟨rfl, by decide, by decide⟩ ?F (fun _ _ _ _ z => z)
    intro w mg fa h Y G hmg0
    obtain ⟨K, KX, c⟩ := Y
    have e := FX.wd KX G c
    have hmg : mg ("law" : PySem.Str) = some (.ref fa) := by
      have e : (HandSHeadRun.topDef (OpenLaw.row PySem.Challenge.rw_landingwires_k03_whole_standings_least_a).prog 27).name = ("law" : PySem.Str) := by kernel_rfl
      rw [← e]
      exact hmg0
    have ea : fa = FX.a_law K := by
      have z := hmg.symm.trans (He.glo_ok KX G (c.fact FX.lawFact rfl))
      cases z
      rfl
    subst ea
    obtain ⟨fd, hb, hF⟩ := FX.okl (P := (PySem.Challenge.rw_landingwires_k03_whole_standings_least_a).prog) (w := w) e
    exact ⟨K, fd, _, KX, hb, fun H a ns hl hO hS => FX.sp_law FX.plain_law H a ns hl hO hS, fun base _ _ => hF base⟩
