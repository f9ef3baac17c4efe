import PyProof.Rows.All
import Wide.All
import OpenK.AllK
import Wide.FinOn
import HandS.ForMost
import HandS.ForExc
import HandS.Wide
import HandS.WideMore
import HandS.CallSlots
import HandS.Style
import HandS.Flow
import HandS.Zip
import HandS.IsInst
import HandS.RaiseMore
import HandS.Text
import HandS.Deep
import PySem.Challenge.RW_kettlerow_k04_fractions_as_texts
set_option Elab.async false
set_option linter.all false
set_option maxRecDepth 100000
set_option exponentiation.threshold 100000
/-! the run layer: readings given by plain computations over data -/
namespace R
open PySem PySem.Spec PyProof.Rows L2

inductive D where
  | non | bl (b : Bool) | int (i : Int) | str (x : Str) | tup (xs : List D) | lst (xs : List D) | rol (xs : List D) | loc (n : Nat) | ty (n : String) | ob (a : Addr)

inductive Cell where
  | lst (xs : List D) | dict (kvs : List (Key × D)) | ins (c : Nat) (fs : List D)
/-- the classes' names, their attributes in the order of __init__ -/
abbrev CT := List (Str × List Str)

abbrev Sto := List Cell
inductive Res (α : Type) where
  | ok (a : α) (S : Sto) | exc (c : Nat) (w : D) (S : Sto) | stuck
abbrev M (α : Type) := Sto → Res α
def ret {α : Type} (a : α) : M α := fun S => .ok a S
def stk {α : Type} : M α := fun _ => .stuck
def bnd {α β : Type} (c : M α) (k : α → M β) : M β := fun S => match c S with
  | .ok a S' => k a S'
  | .exc c w S' => .exc c w S'
  | .stuck => .stuck
@[simp] theorem bnd_ret {α β : Type} (a : α) (k : α → M β) : bnd (ret a) k = k a := rfl
@[simp] theorem ret_app {α : Type} (a : α) (S : Sto) : ret a S = .ok a S := rfl
@[simp] theorem stk_app {α : Type} (S : Sto) : (stk : M α) S = .stuck := rfl
theorem bnd_ok {α β : Type} {c : M α} {k : α → M β} {a : α} {S S' : Sto} (h : c S = .ok a S') : bnd c k S = k a S' := by
  unfold bnd; rw [h]
theorem bnd_assoc {α β γ : Type} (c : M α) (k : α → M β) (l : β → M γ) : bnd (bnd c k) l = bnd c fun a => bnd (k a) l := by
  funext S; unfold bnd; cases c S <;> rfl

/-! ### values and data -/
def KTup (K : PySem.W.Frag) (a : Addr) (xs : List V) : Prop := ∃ (o : Obj) (its : Array Value) (n : Nat), K.lookup a = some o ∧ o.cls = .type "tuple" ∧ o.data = .seq its n ∧ its.size ≤ sizeLine ∧ Vals xs its.toList
def KLst (K : PySem.W.Frag) (a : Addr) (xs : List V) : Prop := ∃ (o : Obj) (its : Array Value) (n : Nat), K.lookup a = some o ∧ o.cls = .type "list" ∧ o.dict = none ∧ o.data = .seq its n ∧ its.size ≤ sizeLine ∧ Vals xs its.toList
def TupAt (K : PySem.W.Frag) (m p : List Addr) (H : Hp) (a : Addr) (xs : List V) : Prop := (a ∉ m ∧ a ∉ p ∧ H a = some (.tup xs)) ∨ KTup K a xs
def LstAt (m p : List Addr) (H : Hp) (a : Addr) (xs : List V) : Prop := a ∉ m ∧ a ∉ p ∧ H a = some (.lst xs)
def RolAt (K : PySem.W.Frag) (m p : List Addr) (H : Hp) (a : Addr) (xs : List V) : Prop := (a ∉ m ∧ a ∉ p ∧ Rd H a (.lst xs)) ∨ KLst K a xs
mutual
inductive Rep (K : PySem.W.Frag) (m p : List Addr) (H : Hp) : V → D → Prop
  | non : Rep K m p H .non .non
  | bl (b : Bool) : Rep K m p H (.bl b) (.bl b)
  | int (i : Int) : Rep K m p H (.int i) (.int i)
  | str (x : Str) : Rep K m p H (.str x) (.str x)
  | ty (n : String) : Rep K m p H (.ty n) (.ty n)
  | ob (a : Addr) : Rep K m p H (.ref a) (.ob a)
  | loc {n : Nat} {a : Addr} : m[n]? = some a → Rep K m p H (.ref a) (.loc n)
  | tup {a : Addr} {xs : List V} {ds : List D} : TupAt K m p H a xs → Reps K m p H xs ds → Rep K m p H (.ref a) (.tup ds)
  | lst {a : Addr} {xs : List V} {ds : List D} : LstAt m p H a xs → Reps K m p H xs ds → Rep K m p H (.ref a) (.lst ds)
  | rol {a : Addr} {xs : List V} {ds : List D} : RolAt K m p H a xs → Reps K m p H xs ds → Rep K m p H (.ref a) (.rol ds)
inductive Reps (K : PySem.W.Frag) (m p : List Addr) (H : Hp) : List V → List D → Prop
  | nil : Reps K m p H [] []
  | cons {v : V} {vs : List V} {d : D} {ds : List D} : Rep K m p H v d → Reps K m p H vs ds → Reps K m p H (v :: vs) (d :: ds)
end
theorem TupAt.sq {K : PySem.W.Frag} {m p : List Addr} {H : Hp} {a : Addr} {xs : List V} (h : TupAt K m p H a xs) : SqT K H a xs := by
  rcases h with ⟨_, _, h⟩ | h
  · exact .inl (.inl h)
  · exact .inr h
theorem RolAt.sq {K : PySem.W.Frag} {m p : List Addr} {H : Hp} {a : Addr} {xs : List V} (h : RolAt K m p H a xs) : SqL K H a xs := by
  rcases h with ⟨_, _, h⟩ | h
  · exact .inl h
  · exact .inr h
section
variable {K : PySem.W.Frag} {m p m' p' : List Addr} {H H' : Hp}
theorem Reps.length : ∀ {vs : List V} {ds : List D}, Reps K m p H vs ds → vs.length = ds.length
  | [], ds, h => by cases h; rfl
  | v :: vs, ds, h => by
    cases h with
    | cons h1 h2 => rw [List.length_cons, List.length_cons, Reps.length h2]
theorem Reps.get : ∀ {vs : List V} {ds : List D} {i : Nat} {d : D}, Reps K m p H vs ds → ds[i]? = some d → ∃ v, vs[i]? = some v ∧ Rep K m p H v d
  | [], ds, i, d, h, e => by cases h; simp at e
  | v :: vs, ds, i, d, h, e => by
    cases h with
    | cons h1 h2 =>
      cases i with
      | zero => simp at e; subst e; exact ⟨v, rfl, h1⟩
      | succ i =>
        obtain ⟨u, e1, e2⟩ := Reps.get h2 (by simpa using e)
        exact ⟨u, by simpa using e1, e2⟩
theorem Reps.getV : ∀ {vs : List V} {ds : List D} {i : Nat} {v : V}, Reps K m p H vs ds → vs[i]? = some v → ∃ d, ds[i]? = some d ∧ Rep K m p H v d
  | [], ds, i, d, h, e => by simp at e
  | v :: vs, ds, i, w, h, e => by
    cases h with
    | cons h1 h2 =>
      cases i with
      | zero => simp at e; subst e; exact ⟨_, rfl, h1⟩
      | succ i =>
        obtain ⟨u, e1, e2⟩ := Reps.getV h2 (by simpa using e)
        exact ⟨u, by simpa using e1, e2⟩
theorem Reps.append : ∀ {vs ws : List V} {ds es : List D}, Reps K m p H vs ds → Reps K m p H ws es → Reps K m p H (vs ++ ws) (ds ++ es)
  | [], ws, ds, es, h, g => by cases h; exact g
  | v :: vs, ws, ds, es, h, g => by
    cases h with
    | cons h1 h2 => exact .cons h1 (Reps.append h2 g)
theorem Reps.drop : ∀ {vs : List V} {ds : List D} (n : Nat), Reps K m p H vs ds → Reps K m p H (vs.drop n) (ds.drop n)
  | _, _, 0, h => h
  | [], ds, n + 1, h => by cases h; exact .nil
  | v :: vs, ds, n + 1, h => by
    cases h with
    | cons h1 h2 => exact Reps.drop n h2
theorem Reps.take : ∀ {vs : List V} {ds : List D} (n : Nat), Reps K m p H vs ds → Reps K m p H (vs.take n) (ds.take n)
  | _, _, 0, h => .nil
  | [], ds, n + 1, h => by cases h; exact .nil
  | v :: vs, ds, n + 1, h => by
    cases h with
    | cons h1 h2 => exact .cons h1 (Reps.take n h2)
theorem Reps.set : ∀ {vs : List V} {ds : List D} {v : V} {d : D} (n : Nat), Reps K m p H vs ds → Rep K m p H v d → Reps K m p H (vs.set n v) (ds.set n d)
  | [], ds, v, d, n, h, g => by cases h; exact .nil
  | v' :: vs, ds, v, d, 0, h, g => by
    cases h with
    | cons h1 h2 => exact .cons g h2
  | v' :: vs, ds, v, d, n + 1, h, g => by
    cases h with
    | cons h1 h2 => exact .cons h1 (Reps.set n h2 g)
theorem Reps.reverse : ∀ {vs : List V} {ds : List D}, Reps K m p H vs ds → Reps K m p H vs.reverse ds.reverse
  | [], ds, h => by cases h; exact .nil
  | v :: vs, ds, h => by
    cases h with
    | cons h1 h2 =>
      rw [List.reverse_cons, List.reverse_cons]
      exact Reps.append (Reps.reverse h2) (.cons h1 .nil)
mutual
theorem Rep.move (ht : ∀ a xs, TupAt K m p H a xs → TupAt K m' p' H' a xs) (hl : ∀ a xs, LstAt m p H a xs → LstAt m' p' H' a xs) (hr : ∀ a xs, RolAt K m p H a xs → RolAt K m' p' H' a xs) (hm : ∀ (n : Nat) (a : Addr), m[n]? = some a → m'[n]? = some a) :
    ∀ (d : D) (v : V), Rep K m p H v d → Rep K m' p' H' v d
  | .non, _, h => by cases h; exact .non
  | .bl b, _, h => by cases h; exact .bl b
  | .int i, _, h => by cases h; exact .int i
  | .str x, _, h => by cases h; exact .str x
  | .ty n, _, h => by cases h; exact .ty n
  | .ob a, _, h => by cases h; exact .ob a
  | .loc n, _, h => by cases h with | loc h => exact .loc (hm _ _ h)
  | .tup ds, _, h => by cases h with | tup h1 h2 => exact .tup (ht _ _ h1) (Reps.move ht hl hr hm ds _ h2)
  | .lst ds, _, h => by cases h with | lst h1 h2 => exact .lst (hl _ _ h1) (Reps.move ht hl hr hm ds _ h2)
  | .rol ds, _, h => by cases h with | rol h1 h2 => exact .rol (hr _ _ h1) (Reps.move ht hl hr hm ds _ h2)
theorem Reps.move (ht : ∀ a xs, TupAt K m p H a xs → TupAt K m' p' H' a xs) (hl : ∀ a xs, LstAt m p H a xs → LstAt m' p' H' a xs) (hr : ∀ a xs, RolAt K m p H a xs → RolAt K m' p' H' a xs) (hm : ∀ (n : Nat) (a : Addr), m[n]? = some a → m'[n]? = some a) :
    ∀ (ds : List D) (vs : List V), Reps K m p H vs ds → Reps K m' p' H' vs ds
  | [], _, h => by cases h; exact .nil
  | d :: ds, _, h => by cases h with | cons h1 h2 => exact .cons (Rep.move ht hl hr hm d _ h1) (Reps.move ht hl hr hm ds _ h2)
end
end

/-- what has become of the heap -/
structure Ext (m : List Addr) (H : Hp) (m' : List Addr) (H' : Hp) : Prop where
  pre : ∀ (n : Nat) (a : Addr), m[n]? = some a → m'[n]? = some a
  out : ∀ (a : Addr) (o : HO), a ∉ m → H a = some o → H' a = some o
  new : ∀ (a : Addr), a ∈ m' → a ∉ m → H a = none
section
variable {K : PySem.W.Frag} {m p m1 m2 m' p' : List Addr} {H H1 H2 H' : Hp}
theorem Ext.refl : Ext m H m H := ⟨fun _ _ h => h, fun _ _ _ h => h, fun _ h n => absurd h n⟩
theorem Ext.trans (a : Ext m H m1 H1) (b : Ext m1 H1 m2 H2) : Ext m H m2 H2 := by
  have key : ∀ (c : Addr) (o : HO), c ∉ m → H c = some o → c ∉ m1 := fun c o n e h => by
    have := a.new c h n
    rw [e] at this
    cases this
  refine ⟨fun n c h => b.pre n c (a.pre n c h), fun c o n e => b.out c o (key c o n e) (a.out c o n e), fun c h n => ?_⟩
  by_cases hc : c ∈ m1
  · exact a.new c hc n
  · have z := b.new c h hc
    cases q : H c with
    | none => rfl
    | some o =>
      rw [a.out c o n q] at z
      cases z
theorem Ext.rd (e : Ext m H m' H') {a : Addr} {u : HO} (hm : a ∉ m) (h : Rd H a u) : a ∉ m' ∧ Rd H' a u := by
  rcases h with h | ⟨o, h⟩
  · refine ⟨fun z => ?_, .inl (e.out a u hm h)⟩
    have := e.new a z hm
    rw [h] at this
    cases this
  · refine ⟨fun z => ?_, .inr ⟨o, e.out a _ hm h⟩⟩
    have := e.new a z hm
    rw [h] at this
    cases this
theorem TupAt.ext (e : Ext m H m' H') {a : Addr} {xs : List V} (h : TupAt K m p H a xs) : TupAt K m' p H' a xs := by
  rcases h with ⟨h1, h2, h3⟩ | h
  · exact .inl ⟨(e.rd h1 (.inl h3)).1, h2, e.out _ _ h1 h3⟩
  · exact .inr h
theorem LstAt.ext (e : Ext m H m' H') {a : Addr} {xs : List V} (h : LstAt m p H a xs) : LstAt m' p H' a xs := by
  obtain ⟨h1, h2, h3⟩ := h
  exact ⟨(e.rd h1 (.inl h3)).1, h2, e.out _ _ h1 h3⟩
theorem RolAt.ext (e : Ext m H m' H') {a : Addr} {xs : List V} (h : RolAt K m p H a xs) : RolAt K m' p H' a xs := by
  rcases h with ⟨h1, h2, h3⟩ | h
  · obtain ⟨g1, g2⟩ := e.rd h1 h3
    exact .inl ⟨g1, h2, g2⟩
  · exact .inr h
theorem Rep.ext (e : Ext m H m' H') {v : V} {d : D} (h : Rep K m p H v d) : Rep K m' p H' v d := Rep.move (fun _ _ => TupAt.ext e) (fun _ _ => LstAt.ext e) (fun _ _ => RolAt.ext e) e.pre d v h
theorem Reps.ext (e : Ext m H m' H') {vs : List V} {ds : List D} (h : Reps K m p H vs ds) : Reps K m' p H' vs ds := Reps.move (fun _ _ => TupAt.ext e) (fun _ _ => LstAt.ext e) (fun _ _ => RolAt.ext e) e.pre ds vs h
end

/-! ### the store -/
inductive KRep (K : PySem.W.Frag) (m p : List Addr) (H : Hp) : List (Key × V) → List (Key × D) → Prop
  | nil : KRep K m p H [] []
  | cons {x : Key} {v : V} {vs : List (Key × V)} {d : D} {ds : List (Key × D)} : Rep K m p H v d → KRep K m p H vs ds → KRep K m p H ((x, v) :: vs) ((x, d) :: ds)
theorem KRep.ext {K : PySem.W.Frag} {m p m' : List Addr} {H H' : Hp} (e : Ext m H m' H') : ∀ {vs : List (Key × V)} {ds : List (Key × D)}, KRep K m p H vs ds → KRep K m' p H' vs ds
  | _, _, .nil => .nil
  | _, _, .cons h t => .cons (h.ext e) (KRep.ext e t)
def CelOk (K : PySem.W.Frag) (mg : Str → Option Value) (T : CT) (m p : List Addr) (H : Hp) (a : Addr) : Cell → Prop
  | .lst ds => ∃ xs, H a = some (.lst xs) ∧ Reps K m p H xs ds
  | .dict kvs => ∃ us, H a = some (.dK us) ∧ KRep K m p H us kvs
  | .ins c fs => ∃ (x : Str) (fl : List Str) (C dx : Addr) (us : List (Str × V)), T[c]? = some (x, fl) ∧ mg x = some (.ref C) ∧ H a = some (.ins C dx us) ∧ us.map (·.1) = fl.take fs.length ∧ Reps K m p H (us.map (·.2)) fs
theorem CelOk.has {K : PySem.W.Frag} {mg : Str → Option Value} {T : CT} {m p : List Addr} {H : Hp} {a : Addr} {c : Cell} (h : CelOk K mg T m p H a c) : ∃ o, H a = some o := by
  cases c with
  | lst ds => obtain ⟨xs, e, _⟩ := h; exact ⟨_, e⟩
  | dict kvs => obtain ⟨xs, e, _⟩ := h; exact ⟨_, e⟩
  | ins c fs => obtain ⟨_, _, _, _, _, _, _, e, _⟩ := h; exact ⟨_, e⟩
theorem CelOk.ext {K : PySem.W.Frag} {mg : Str → Option Value} {T : CT} {m p m' : List Addr} {H H' : Hp} {a : Addr} {c : Cell} (e : Ext m H m' H') (ha : H' a = H a) (h : CelOk K mg T m p H a c) : CelOk K mg T m' p H' a c := by
  cases c with
  | lst ds => obtain ⟨xs, e1, e2⟩ := h; exact ⟨xs, ha.trans e1, e2.ext e⟩
  | dict kvs => obtain ⟨xs, e1, e2⟩ := h; exact ⟨xs, ha.trans e1, e2.ext e⟩
  | ins c fs => obtain ⟨x, fl, C, dx, us, e0, e1, e2, e3, e4⟩ := h; exact ⟨x, fl, C, dx, us, e0, e1, ha.trans e2, e3, e4.ext e⟩
structure Wd (K : PySem.W.Frag) (mg : Str → Option Value) (T : CT) (m p : List Addr) (S : Sto) (H : Hp) : Prop where
  len : m.length = S.length
  nd : m.Nodup
  cel : ∀ (n : Nat) (a : Addr) (c : Cell), m[n]? = some a → S[n]? = some c → CelOk K mg T m p H a c
  prv : ∀ (a : Addr), a ∈ p → a ∉ m ∧ ∃ o, H a = some o
section
variable {K : PySem.W.Frag} {mg : Str → Option Value} {T : CT} {m p m1 m2 m' p' : List Addr} {H H1 H2 H' : Hp} {S S' : Sto}
theorem Wd.has (w : Wd K mg T m p S H) {a : Addr} (h : a ∈ m) : ∃ o, H a = some o := by
  obtain ⟨n, hn, e⟩ := List.getElem_of_mem h
  have hs : n < S.length := by rw [← w.len]; exact hn
  exact (w.cel n a S[n] (by rw [List.getElem?_eq_getElem hn, e]) (List.getElem?_eq_getElem hs)).has
theorem Wd.fresh (w : Wd K mg T m p S H) {a : Addr} (h : H a = none) : a ∉ m := fun z => by
  obtain ⟨o, e⟩ := w.has z
  rw [h] at e
  cases e
theorem Wd.np (w : Wd K mg T m p S H) {a : Addr} (h : H a = none) : a ∉ p := fun z => by
  obtain ⟨_, o, e⟩ := w.prv a z
  rw [h] at e
  cases e
theorem prv_ext (h : ∀ (a : Addr), a ∈ p → a ∉ m ∧ ∃ o, H a = some o) (e : Ext m H m' H') : ∀ (a : Addr), a ∈ p → a ∉ m' ∧ ∃ o, H' a = some o := fun a ha => by
  obtain ⟨n, o, q⟩ := h a ha
  refine ⟨fun z => ?_, o, e.out a o n q⟩
  have := e.new a z n
  rw [q] at this
  cases this
/-- a new thing beside the store -/
theorem Ext.new1 {a : Addr} {o : HO} (h : H a = none) : Ext m H m (upd H a o) :=
  ⟨fun _ _ h => h, fun b u _ e => by rw [upd_ne (ne_of_none e h)]; exact e, fun _ h n => absurd h n⟩
theorem Wd.new1 (w : Wd K mg T m p S H) {a : Addr} {o : HO} (h : H a = none) : Wd K mg T m p S (upd H a o) :=
  ⟨w.len, w.nd, fun n b c e1 e2 => (w.cel n b c e1 e2).ext (Ext.new1 h) (upd_ne fun z => w.fresh h (z ▸ List.mem_of_getElem? e1)), prv_ext w.prv (Ext.new1 h)⟩
/-- a new cell -/
theorem Ext.newC {a : Addr} {o : HO} (h : H a = none) : Ext m H (m ++ [a]) (upd H a o) := by
  refine ⟨fun n b e => ?_, fun b u _ e => by rw [upd_ne (ne_of_none e h)]; exact e, fun b hb n => ?_⟩
  · rw [List.getElem?_append_left (List.getElem?_eq_some_iff.mp e).1]; exact e
  · rcases List.mem_append.mp hb with z | z
    · exact absurd z n
    · rw [List.mem_singleton.mp z]; exact h
theorem Wd.newC (w : Wd K mg T m p S H) {a : Addr} {o : HO} {c : Cell} (h : H a = none) (hc : CelOk K mg T (m ++ [a]) p (upd H a o) a c) : Wd K mg T (m ++ [a]) p (S ++ [c]) (upd H a o) := by
  have hl := w.len
  refine ⟨by simp [hl], ?_, fun n b d e1 e2 => ?_, prv_ext w.prv (Ext.newC h)⟩
  · rw [List.nodup_append]
    refine ⟨w.nd, by simp, fun x hx y hy e => ?_⟩
    rw [List.mem_singleton.mp hy] at e
    exact w.fresh h (e ▸ hx)
  · by_cases hn : n < m.length
    · rw [List.getElem?_append_left hn] at e1
      rw [List.getElem?_append_left (by omega)] at e2
      exact (w.cel n b d e1 e2).ext (Ext.newC h) (upd_ne fun z => w.fresh h (z ▸ List.mem_of_getElem? e1))
    · rw [List.getElem?_append_right (by omega)] at e1 e2
      have e0 : n - m.length = 0 := by
        have := (List.getElem?_eq_some_iff.mp e1).1
        simp at this
        omega
      rw [e0] at e1
      rw [show n - S.length = 0 by omega] at e2
      simp at e1 e2
      subst e1 e2
      exact hc
theorem nth_new : ∀ (m : List Addr) (a : Addr), (m ++ [a])[m.length]? = some a := fun m a => by simp
/-- a cell changed -/
theorem Ext.put {n : Nat} {a : Addr} {o : HO} (h : m[n]? = some a) : Ext m H m (upd H a o) :=
  ⟨fun _ _ h => h, fun b u nb e => by rw [upd_ne fun z => nb (by rw [z]; exact List.mem_of_getElem? h)]; exact e, fun _ h n => absurd h n⟩
theorem Wd.put (w : Wd K mg T m p S H) {n : Nat} {a : Addr} {o : HO} {c : Cell} (h : m[n]? = some a) (hc : CelOk K mg T m p (upd H a o) a c) : Wd K mg T m p (S.set n c) (upd H a o) := by
  refine ⟨by rw [List.length_set]; exact w.len, w.nd, fun k b d e1 e2 => ?_, prv_ext w.prv (Ext.put h)⟩
  by_cases hk : k = n
  · subst hk
    rw [h] at e1
    cases e1
    have hn : k < S.length := by rw [← w.len]; exact (List.getElem?_eq_some_iff.mp h).1
    rw [List.getElem?_set_self hn] at e2
    cases e2
    exact hc
  · rw [List.getElem?_set_ne (Ne.symm hk)] at e2
    refine (w.cel k b d e1 e2).ext (Ext.put h) (upd_ne fun z => hk ?_)
    subst z
    exact nd_ix w.nd e1 h
end

/-! ### slots -/
abbrev REnv := List (Option D)
structure EnvOk (K : PySem.W.Frag) (m p : List Addr) (H : Hp) (σ : L2.St) (ρ : REnv) : Prop where
  len : σ.length = ρ.length
  get : ∀ (i : Nat) (d : D), ρ[i]? = some (some d) → ∃ v, σ[i]? = some (some v) ∧ Rep K m p H v d
section
variable {K : PySem.W.Frag} {mg : Str → Option Value} {T : CT} {m p m1 m2 m' p' : List Addr} {H H1 H2 H' : Hp} {S S' : Sto} {σ : L2.St} {ρ : REnv}
theorem EnvOk.ext (e : Ext m H m' H') (h : EnvOk K m p H σ ρ) : EnvOk K m' p H' σ ρ :=
  ⟨h.len, fun i d q => let ⟨v, a, b⟩ := h.get i d q; ⟨v, a, b.ext e⟩⟩
theorem EnvOk.set (h : EnvOk K m p H σ ρ) {i : Nat} {v : V} {d : D} (r : Rep K m p H v d) : EnvOk K m p H (σ.set i (some v)) (ρ.set i (some d)) := by
  refine ⟨by rw [List.length_set, List.length_set]; exact h.len, fun j e q => ?_⟩
  by_cases hj : j = i
  · subst hj
    have hl : j < ρ.length := by have := (List.getElem?_eq_some_iff.mp q).1; rw [List.length_set] at this; exact this
    rw [List.getElem?_set_self hl] at q
    cases q
    exact ⟨v, by rw [List.getElem?_set_self (by rw [h.len]; exact hl)], r⟩
  · rw [List.getElem?_set_ne (Ne.symm hj)] at q ⊢
    exact h.get j e q
theorem EnvOk.start {N : List Str} {vs : List V} {ds : List D} (h : Reps K m p H vs ds) : EnvOk K m p H (L2.start N vs) (ds.map some ++ List.replicate (N.length - ds.length) none) := by
  have hl := h.length
  refine ⟨by unfold L2.start; simp [hl], fun i d q => ?_⟩
  by_cases hi : i < ds.length
  · rw [List.getElem?_append_left (by simpa using hi), List.getElem?_map] at q
    cases e : ds[i]? with
    | none => rw [e] at q; cases q
    | some d' =>
      rw [e] at q
      cases q
      obtain ⟨v, e1, e2⟩ := h.get e
      refine ⟨v, ?_, e2⟩
      unfold L2.start
      rw [List.getElem?_append_left (by simpa [hl] using hi), List.getElem?_map, e1]
      rfl
  · rw [List.getElem?_append_right (by simpa using hi), List.getElem?_replicate] at q
    split at q <;> cases q
end
end R

namespace R
open PySem PySem.Spec PyProof.Rows L2

/-! ### judgements -/
def PostE (K : PySem.W.Frag) (mg : Str → Option Value) (T : CT) (W : WX) (σ : L2.St) (m p : List Addr) (H : Hp) (r : Res D) (Q : VK) : Prop :=
  match r with
  | .ok d S' => ∀ (v : V) (m' : List Addr) (H' : Hp), Ext m H m' H' → Wd K mg T m' p S' H' → Rep K m' p H' v d → Q v H'
  | .exc c w S' => ∀ (x : Str) (fl : List Str) (C dx : Addr) (v : V) (m' : List Addr) (H' : Hp), T[c]? = some (x, fl) → mg x = some (.ref C) → Ext m H m' H' → Wd K mg T m' p S' H' → Rep K m' p H' v w → H' dx = some (.xd [("what", v)]) → W (.ref C) (some dx) σ H'
  | .stuck => False
structure RE (X : Cx) (T : CT) (W : WX) (ρ : REnv) (e : Expr) (t : TE) (c : M D) : Prop where
  pe : PE X e t
  rd : ∀ {m p : List Addr} {S : Sto} {σ : L2.St} {H : Hp} {Q : VK}, Wd X.K X.mg T m p S H → EnvOk X.K m p H σ ρ → PostE X.K X.mg T W σ m p H (c S) Q → t σ H Q
def PostT (K : PySem.W.Frag) (mg : Str → Option Value) (T : CT) (W : WX) (σ : L2.St) (m p : List Addr) (H : Hp) (r : Res Bool) (Q : Bool → Hp → Prop) : Prop :=
  match r with
  | .ok d S' => ∀ (m' : List Addr) (H' : Hp), Ext m H m' H' → Wd K mg T m' p S' H' → Q d H'
  | .exc c w S' => ∀ (x : Str) (fl : List Str) (C dx : Addr) (v : V) (m' : List Addr) (H' : Hp), T[c]? = some (x, fl) → mg x = some (.ref C) → Ext m H m' H' → Wd K mg T m' p S' H' → Rep K m' p H' v w → H' dx = some (.xd [("what", v)]) → W (.ref C) (some dx) σ H'
  | .stuck => False
structure RT (X : Cx) (T : CT) (W : WX) (ρ : REnv) (e : Expr) (t : TT) (c : M Bool) : Prop where
  pt : PT X e t
  rd : ∀ {m p : List Addr} {S : Sto} {σ : L2.St} {H : Hp} {Q : Bool → Hp → Prop}, Wd X.K X.mg T m p S H → EnvOk X.K m p H σ ρ → PostT X.K X.mg T W σ m p H (c S) Q → t σ H Q
structure RW (X : Cx) (T : CT) (W : WX) (ρ : REnv) (e : Expr) (t : TT) (c : M Bool) : Prop where
  pt : PW X e t
  rd : ∀ {m p : List Addr} {S : Sto} {σ : L2.St} {H : Hp} {Q : Bool → Hp → Prop}, Wd X.K X.mg T m p S H → EnvOk X.K m p H σ ρ → PostT X.K X.mg T W σ m p H (c S) Q → t σ H Q
def PostA (K : PySem.W.Frag) (mg : Str → Option Value) (T : CT) (W : WX) (σ : L2.St) (m p : List Addr) (H : Hp) (r : Res (List D)) (Q : List V → Hp → Prop) : Prop :=
  match r with
  | .ok d S' => ∀ (v : List V) (m' : List Addr) (H' : Hp), Ext m H m' H' → Wd K mg T m' p S' H' → Reps K m' p H' v d → Q v H'
  | .exc c w S' => ∀ (x : Str) (fl : List Str) (C dx : Addr) (v : V) (m' : List Addr) (H' : Hp), T[c]? = some (x, fl) → mg x = some (.ref C) → Ext m H m' H' → Wd K mg T m' p S' H' → Rep K m' p H' v w → H' dx = some (.xd [("what", v)]) → W (.ref C) (some dx) σ H'
  | .stuck => False
structure RA (X : Cx) (T : CT) (W : WX) (ρ : REnv) (es : List Expr) (t : TA) (c : M (List D)) : Prop where
  pa : PA X es t
  rd : ∀ {m p : List Addr} {S : Sto} {σ : L2.St} {H : Hp} {Q : List V → Hp → Prop}, Wd X.K X.mg T m p S H → EnvOk X.K m p H σ ρ → PostA X.K X.mg T W σ m p H (c S) Q → t σ H Q
section
variable {K : PySem.W.Frag} {mg : Str → Option Value} {T : CT} {W : WX} {σ : L2.St} {m p m1 m' p' : List Addr} {H H1 H' : Hp} {S S' : Sto}
theorem PostE.ext {r : Res D} {Q : VK} (e : Ext m H m1 H1) (h : PostE K mg T W σ m p H r Q) : PostE K mg T W σ m1 p H1 r Q := by
  cases r with
  | ok d S' => exact fun v m' H' e' => h v m' H' (e.trans e')
  | exc c w S' => exact fun x fl C dx v m' H' h1 h2 e' => h x fl C dx v m' H' h1 h2 (e.trans e')
  | stuck => exact h
theorem PostT.ext {r : Res Bool} {Q : Bool → Hp → Prop} (e : Ext m H m1 H1) (h : PostT K mg T W σ m p H r Q) : PostT K mg T W σ m1 p H1 r Q := by
  cases r with
  | ok d S' => exact fun m' H' e' => h m' H' (e.trans e')
  | exc c w S' => exact fun x fl C dx v m' H' h1 h2 e' => h x fl C dx v m' H' h1 h2 (e.trans e')
  | stuck => exact h
theorem PostA.ext {r : Res (List D)} {Q : List V → Hp → Prop} (e : Ext m H m1 H1) (h : PostA K mg T W σ m p H r Q) : PostA K mg T W σ m1 p H1 r Q := by
  cases r with
  | ok d S' => exact fun v m' H' e' => h v m' H' (e.trans e')
  | exc c w S' => exact fun x fl C dx v m' H' h1 h2 e' => h x fl C dx v m' H' h1 h2 (e.trans e')
  | stuck => exact h
/-! from a bind to its first part: what follows is asked of the second -/
theorem PostE.bnd {c : M D} {k : D → M D} {Q Q' : VK} (h : PostE K mg T W σ m p H (R.bnd c k S) Q)
    (hk : ∀ d S1 v m1 H1, Ext m H m1 H1 → Wd K mg T m1 p S1 H1 → Rep K m1 p H1 v d → PostE K mg T W σ m1 p H1 (k d S1) Q → Q' v H1) : PostE K mg T W σ m p H (c S) Q' := by
  unfold R.bnd at h
  cases e : c S with
  | ok d S1 => rw [e] at h; exact fun v m1 H1 e1 w1 r1 => hk d S1 v m1 H1 e1 w1 r1 (h.ext e1)
  | exc c w S1 => rw [e] at h; exact h
  | stuck => rw [e] at h; exact h
theorem PostE.bndT {c : M D} {k : D → M Bool} {Q' : VK} {Q : Bool → Hp → Prop} (h : PostT K mg T W σ m p H (R.bnd c k S) Q)
    (hk : ∀ d S1 v m1 H1, Ext m H m1 H1 → Wd K mg T m1 p S1 H1 → Rep K m1 p H1 v d → PostT K mg T W σ m1 p H1 (k d S1) Q → Q' v H1) : PostE K mg T W σ m p H (c S) Q' := by
  unfold R.bnd at h
  cases e : c S with
  | ok d S1 => rw [e] at h; exact fun v m1 H1 e1 w1 r1 => hk d S1 v m1 H1 e1 w1 r1 (h.ext e1)
  | exc c w S1 => rw [e] at h; exact h
  | stuck => rw [e] at h; exact h
theorem PostE.bndA {c : M D} {k : D → M (List D)} {Q' : VK} {Q : List V → Hp → Prop} (h : PostA K mg T W σ m p H (R.bnd c k S) Q)
    (hk : ∀ d S1 v m1 H1, Ext m H m1 H1 → Wd K mg T m1 p S1 H1 → Rep K m1 p H1 v d → PostA K mg T W σ m1 p H1 (k d S1) Q → Q' v H1) : PostE K mg T W σ m p H (c S) Q' := by
  unfold R.bnd at h
  cases e : c S with
  | ok d S1 => rw [e] at h; exact fun v m1 H1 e1 w1 r1 => hk d S1 v m1 H1 e1 w1 r1 (h.ext e1)
  | exc c w S1 => rw [e] at h; exact h
  | stuck => rw [e] at h; exact h
theorem PostT.bnd {c : M Bool} {k : Bool → M Bool} {Q Q' : Bool → Hp → Prop} (h : PostT K mg T W σ m p H (R.bnd c k S) Q)
    (hk : ∀ d S1 m1 H1, Ext m H m1 H1 → Wd K mg T m1 p S1 H1 → PostT K mg T W σ m1 p H1 (k d S1) Q → Q' d H1) : PostT K mg T W σ m p H (c S) Q' := by
  unfold R.bnd at h
  cases e : c S with
  | ok d S1 => rw [e] at h; exact fun m1 H1 e1 w1 => hk d S1 m1 H1 e1 w1 (h.ext e1)
  | exc c w S1 => rw [e] at h; exact h
  | stuck => rw [e] at h; exact h
theorem PostT.bndE {c : M Bool} {k : Bool → M D} {Q : VK} {Q' : Bool → Hp → Prop} (h : PostE K mg T W σ m p H (R.bnd c k S) Q)
    (hk : ∀ d S1 m1 H1, Ext m H m1 H1 → Wd K mg T m1 p S1 H1 → PostE K mg T W σ m1 p H1 (k d S1) Q → Q' d H1) : PostT K mg T W σ m p H (c S) Q' := by
  unfold R.bnd at h
  cases e : c S with
  | ok d S1 => rw [e] at h; exact fun m1 H1 e1 w1 => hk d S1 m1 H1 e1 w1 (h.ext e1)
  | exc c w S1 => rw [e] at h; exact h
  | stuck => rw [e] at h; exact h
theorem PostA.bndE {c : M (List D)} {k : List D → M D} {Q : VK} {Q' : List V → Hp → Prop} (h : PostE K mg T W σ m p H (R.bnd c k S) Q)
    (hk : ∀ d S1 v m1 H1, Ext m H m1 H1 → Wd K mg T m1 p S1 H1 → Reps K m1 p H1 v d → PostE K mg T W σ m1 p H1 (k d S1) Q → Q' v H1) : PostA K mg T W σ m p H (c S) Q' := by
  unfold R.bnd at h
  cases e : c S with
  | ok d S1 => rw [e] at h; exact fun v m1 H1 e1 w1 r1 => hk d S1 v m1 H1 e1 w1 r1 (h.ext e1)
  | exc c w S1 => rw [e] at h; exact h
  | stuck => rw [e] at h; exact h
theorem PostA.bnd {c : M (List D)} {k : List D → M (List D)} {Q Q' : List V → Hp → Prop} (h : PostA K mg T W σ m p H (R.bnd c k S) Q)
    (hk : ∀ d S1 v m1 H1, Ext m H m1 H1 → Wd K mg T m1 p S1 H1 → Reps K m1 p H1 v d → PostA K mg T W σ m1 p H1 (k d S1) Q → Q' v H1) : PostA K mg T W σ m p H (c S) Q' := by
  unfold R.bnd at h
  cases e : c S with
  | ok d S1 => rw [e] at h; exact fun v m1 H1 e1 w1 r1 => hk d S1 v m1 H1 e1 w1 r1 (h.ext e1)
  | exc c w S1 => rw [e] at h; exact h
  | stuck => rw [e] at h; exact h
theorem PostE.here {d : D} {Q : VK} {v : V} (h : PostE K mg T W σ m p H (.ok d S) Q) (w : Wd K mg T m p S H) (r : Rep K m p H v d) : Q v H := h v m H Ext.refl w r
theorem PostT.here {d : Bool} {Q : Bool → Hp → Prop} (h : PostT K mg T W σ m p H (.ok d S) Q) (w : Wd K mg T m p S H) : Q d H := h m H Ext.refl w
/-- a new tuple, a new list, beside the store -/
theorem PostE.tup {ds : List D} {vs : List V} {Q : VK} {a : Addr} (h : PostE K mg T W σ m p H (.ok (.tup ds) S) Q) (w : Wd K mg T m p S H) (r : Reps K m p H vs ds) (n : H a = none) : Q (.ref a) (upd H a (.tup vs)) :=
  h (.ref a) m _ (Ext.new1 n) (w.new1 n) (.tup (.inl ⟨w.fresh n, w.np n, upd_same⟩) (r.ext (Ext.new1 n)))
theorem PostE.lst {ds : List D} {vs : List V} {Q : VK} {a : Addr} (h : PostE K mg T W σ m p H (.ok (.lst ds) S) Q) (w : Wd K mg T m p S H) (r : Reps K m p H vs ds) (n : H a = none) : Q (.ref a) (upd H a (.lst vs)) :=
  h (.ref a) m _ (Ext.new1 n) (w.new1 n) (.lst ⟨w.fresh n, w.np n, upd_same⟩ (r.ext (Ext.new1 n)))
theorem PostE.lstC {ds : List D} {vs : List V} {Q : VK} {a : Addr} (h : PostE K mg T W σ m p H (.ok (.loc S.length) (S ++ [.lst ds])) Q) (w : Wd K mg T m p S H) (r : Reps K m p H vs ds) (n : H a = none) : Q (.ref a) (upd H a (.lst vs)) :=
  h (.ref a) (m ++ [a]) _ (Ext.newC n) (w.newC n ⟨vs, upd_same, r.ext (Ext.newC n)⟩) (.loc (by rw [← w.len]; exact nth_new m a))
end
end R

namespace R
open PySem PySem.Spec PyProof.Rows L2

/-! ### what data stand for -/
def lsOf (S : Sto) : D → Option (List D)
  | .lst xs => some xs
  | .loc n => match S[n]? with
    | some (.lst xs) => some xs
    | _ => none
  | _ => none
def sqL (S : Sto) : D → Option (List D)
  | .rol xs => some xs
  | d => lsOf S d
def lim : Nat := 1000000
theorem lim_line : lim ≤ sizeLine := by decide
section
variable {K : PySem.W.Frag} {mg : Str → Option Value} {T : CT} {W : WX} {σ : L2.St} {m p m1 m' p' : List Addr} {H H1 H' : Hp} {S S' : Sto}
theorem lsOf_ok {v : V} {d : D} {ds : List D} (w : Wd K mg T m p S H) (r : Rep K m p H v d) (h : lsOf S d = some ds) : ∃ a xs, v = .ref a ∧ H a = some (.lst xs) ∧ Reps K m p H xs ds := by
  cases r with
  | lst h1 h2 => cases h; exact ⟨_, _, rfl, h1.2.2, h2⟩
  | @loc n a h1 =>
    unfold lsOf at h
    cases e : S[n]? with
    | none => simp [e] at h
    | some c =>
      cases c with
      | lst xs =>
        simp [e] at h
        subst h
        obtain ⟨us, q1, q2⟩ := w.cel n a _ h1 e
        exact ⟨a, us, rfl, q1, q2⟩
      | dict _ => simp [e] at h
      | ins _ _ => simp [e] at h
  | _ => cases h
theorem sqL_ok {v : V} {d : D} {ds : List D} (w : Wd K mg T m p S H) (r : Rep K m p H v d) (h : sqL S d = some ds) : ∃ a xs, v = .ref a ∧ SqL K H a xs ∧ Reps K m p H xs ds := by
  cases r with
  | rol h1 h2 => cases h; exact ⟨_, _, rfl, h1.sq, h2⟩
  | lst h1 h2 => cases h; exact ⟨_, _, rfl, .of h1.2.2, h2⟩
  | loc h1 =>
    obtain ⟨a, xs, e, q1, q2⟩ := lsOf_ok w (.loc h1) h
    exact ⟨a, xs, e, .of q1, q2⟩
  | _ => cases h
end

/-! ### operators -/
section
variable {X : Cx} {T : CT} {W : WX} {ρ : REnv} {a b e c : Expr} {ta tb te tc : TE} {ca cb ce cc : M D} {pos : Pos}
def OpOk (X : Cx) (T : CT) (W : WX) (r : R2) (f : D → D → M D) : Prop :=
  ∀ {m p : List Addr} {S : Sto} {σ : L2.St} {H : Hp} {Q : VK} {x y : V} {d e : D}, Wd X.K X.mg T m p S H → Rep X.K m p H x d → Rep X.K m p H y e → PostE X.K X.mg T W σ m p H (f d e S) Q → r x y H Q
def bi (f : D → D → M D) (ca cb : M D) : M D := bnd ca fun x => bnd cb fun y => f x y
theorem RE.bin {op : Operator} {r : R2} {f : D → D → M D} (ho : OpR X (binaryOp op) r) (hf : OpOk X T W r f) (ha : RE X T W ρ a ta ca) (hb : RE X T W ρ b tb cb) : RE X T W ρ (.BinOp a op b pos) (tOp r ta tb) (bi f ca cb) :=
  ⟨pe_op ho ha.pe hb.pe, fun w e h => ha.rd w e (h.bnd fun _ _ _ _ _ e1 w1 r1 h1 => hb.rd w1 (e.ext e1) (h1.bnd fun _ _ _ _ _ e2 w2 r2 h2 => hf w2 (r1.ext e2) r2 h2))⟩
theorem RE.cmp {op : CmpOp} {r : R2} {f : D → D → M D} (ho : OpR X (compareOp op) r) (hf : OpOk X T W r f) (ha : RE X T W ρ a ta ca) (hb : RE X T W ρ b tb cb) (hm : behindInMarks op b = false) : RE X T W ρ (.Compare a [op] [b] pos) (tOp r ta tb) (bi f ca cb) :=
  ⟨pe_cmpR ho ha.pe hb.pe hm, fun w e h => ha.rd w e (h.bnd fun _ _ _ _ _ e1 w1 r1 h1 => hb.rd w1 (e.ext e1) (h1.bnd fun _ _ _ _ _ e2 w2 r2 h2 => hf w2 (r1.ext e2) r2 h2))⟩
/-- a bool asked as a test -/
def asB : D → M Bool
  | .bl b => ret b
  | _ => stk
def tst (c : M D) : M Bool := bnd c asB
theorem PostE.asB {K : PySem.W.Frag} {mg : Str → Option Value} {σ : L2.St} {m p : List Addr} {H : Hp} {S : Sto} {c : M D} {Q : Bool → Hp → Prop} (h : PostT K mg T W σ m p H (tst c S) Q) :
    PostE K mg T W σ m p H (c S) fun x H' => ∃ k, x = .bl k ∧ Q k H' :=
  PostE.bndT h fun d S1 v m1 H1 e1 w1 r1 h1 => by
    cases r1 with
    | bl b => exact ⟨b, rfl, h1.here w1⟩
    | _ => exact False.elim h1
theorem RT.cmp {op : CmpOp} {r : R2} {f : D → D → M D} (ho : OpR X (compareOp op) r) (hf : OpOk X T W r f) (ha : RE X T W ρ a ta ca) (hb : RE X T W ρ b tb cb) (hm : behindInMarks op b = false) : RT X T W ρ (.Compare a [op] [b] pos) (tTest (tOp r ta tb)) (tst (bi f ca cb)) :=
  ⟨pt_cmpR ho ha.pe hb.pe hm, fun w e h => (RE.cmp (pos := pos) ho hf ha hb hm).rd w e (PostE.asB h)⟩
theorem RT.val (ha : RE X T W ρ a ta ca) (he : ∀ whole, isTrue a X.env whole = (do let v ← whole; standAt a.pos; holding [v] (truthy v)) := by intro _; rfl) : RT X T W ρ a (tB ta) (tst ca) :=
  ⟨pt_val ha.pe he, fun w e h => ha.rd w e (PostE.asB h)⟩
def notM (c : M Bool) : M Bool := bnd c fun b => ret (!b)
def andM (c d : M Bool) : M Bool := bnd c fun b => if b then d else ret false
def orM (c d : M Bool) : M Bool := bnd c fun b => if b then ret true else d
def ofB (c : M Bool) : M D := bnd c fun b => ret (.bl b)
variable {tA tB' : TT} {cA cB : M Bool} {rest : List Expr}
theorem RT.not (ha : RT X T W ρ a tA cA) : RT X T W ρ (.UnaryOp .Not a pos) (tNot tA) (notM cA) :=
  ⟨pt_not ha.pt, fun w e h => ha.rd w e (h.bnd fun _ _ _ _ _ w1 h1 => h1.here w1)⟩
theorem RW.and1 (ha : RT X T W ρ a tA cA) : RW X T W ρ (.BoolOp .And [a] pos) tA cA := ⟨pw_and1 ha.pt, ha.rd⟩
theorem RW.or1 (ha : RT X T W ρ a tA cA) : RW X T W ρ (.BoolOp .Or [a] pos) tA cA := ⟨pw_or1 ha.pt, ha.rd⟩
theorem RW.rt (h : RW X T W ρ a tA cA) : RT X T W ρ a tA cA := ⟨h.pt.pt, h.rd⟩
theorem RW.and (ha : RT X T W ρ a tA cA) (hb : RW X T W ρ (.BoolOp .And (b :: rest) pos) tB' cB) : RW X T W ρ (.BoolOp .And (a :: b :: rest) pos) (tAnd tA tB') (andM cA cB) :=
  ⟨pw_and ha.pt hb.pt, fun w e h => ha.rd w e (h.bnd fun d _ _ _ e1 w1 h1 => by
    cases d with
    | true => exact hb.rd w1 (e.ext e1) h1
    | false => exact h1.here w1)⟩
theorem RW.or (ha : RT X T W ρ a tA cA) (hb : RW X T W ρ (.BoolOp .Or (b :: rest) pos) tB' cB) : RW X T W ρ (.BoolOp .Or (a :: b :: rest) pos) (tOr tA tB') (orM cA cB) :=
  ⟨pw_or ha.pt hb.pt, fun w e h => ha.rd w e (h.bnd fun d _ _ _ e1 w1 h1 => by
    cases d with
    | false => exact hb.rd w1 (e.ext e1) h1
    | true => exact h1.here w1)⟩
/-! .. as values -/
def andV (ca cb : M D) : M D := bnd ca fun x => match x with
  | .bl true => cb
  | .bl false => ret (.bl false)
  | _ => stk
def orV (ca cb : M D) : M D := bnd ca fun x => match x with
  | .bl true => ret (.bl true)
  | .bl false => cb
  | _ => stk
def notV (ca : M D) : M D := bnd ca fun x => match x with
  | .bl b => ret (.bl (!b))
  | _ => stk
theorem RE.one {op} (ha : RE X T W ρ a ta ca) : RE X T W ρ (.BoolOp op [a] pos) ta ca := ⟨pe_one ha.pe, ha.rd⟩
theorem RE.and (ha : RE X T W ρ a ta ca) (hb : RE X T W ρ (.BoolOp .And (b :: rest) pos) tb cb) : RE X T W ρ (.BoolOp .And (a :: b :: rest) pos) (tAndV ta tb) (andV ca cb) :=
  ⟨pe_and ha.pe hb.pe, fun w e h => ha.rd w e (h.bnd fun _ _ _ _ _ e1 w1 r1 h1 => by
    cases r1 with
    | bl k =>
      refine ⟨k, rfl, ?_⟩
      cases k with
      | true => exact hb.rd w1 (e.ext e1) h1
      | false => exact h1.here w1 (.bl _)
    | _ => exact False.elim h1)⟩
theorem RE.or (ha : RE X T W ρ a ta ca) (hb : RE X T W ρ (.BoolOp .Or (b :: rest) pos) tb cb) : RE X T W ρ (.BoolOp .Or (a :: b :: rest) pos) (tOrV ta tb) (orV ca cb) :=
  ⟨pe_or ha.pe hb.pe, fun w e h => ha.rd w e (h.bnd fun _ _ _ _ _ e1 w1 r1 h1 => by
    cases r1 with
    | bl k =>
      refine ⟨k, rfl, ?_⟩
      cases k with
      | false => exact hb.rd w1 (e.ext e1) h1
      | true => exact h1.here w1 (.bl _)
    | _ => exact False.elim h1)⟩
theorem RE.not (ha : RE X T W ρ a ta ca) : RE X T W ρ (.UnaryOp .Not a pos) (tNotV ta) (notV ca) :=
  ⟨pe_not ha.pe, fun w e h => ha.rd w e (h.bnd fun _ _ _ _ _ e1 w1 r1 h1 => by
    cases r1 with
    | bl k => exact ⟨k, rfl, h1.here w1 (.bl _)⟩
    | _ => exact False.elim h1)⟩
def ifM {α : Type} (c : M Bool) (x y : M α) : M α := bnd c fun b => if b then x else y
theorem RE.ifx (hc : RT X T W ρ c tA cA) (ha : RE X T W ρ a ta ca) (hb : RE X T W ρ b tb cb) : RE X T W ρ (.IfExp c a b pos) (tIf tA ta tb) (ifM cA ca cb) :=
  ⟨pe_ifExp hc.pt ha.pe hb.pe, fun w e h => hc.rd w e (PostT.bndE h fun d _ _ _ e1 w1 h1 => by
    cases d with
    | true => exact ha.rd w1 (e.ext e1) h1
    | false => exact hb.rd w1 (e.ext e1) h1)⟩

/-! ### names, constants -/
def getv (ρ : REnv) (i : Nat) : M D := match ρ[i]? with
  | some (some d) => ret d
  | _ => stk
theorem RE.var {i : Nat} (h : PE X e (tVar i)) : RE X T W ρ e (tVar i) (getv ρ i) := ⟨h, fun {m p S σ H Q} w e h => by
  unfold getv at h
  cases q : ρ[i]? with
  | none => rw [q] at h; exact False.elim h
  | some o =>
    cases o with
    | none => rw [q] at h; exact False.elim h
    | some d =>
      rw [q] at h
      obtain ⟨v, e1, r⟩ := e.get i d q
      exact ⟨v, e1, PostE.here (d := d) h w r⟩⟩
theorem RE.const {v : V} {d : D} (h : PE X e (tC v)) (hr : ∀ m p H, Rep X.K m p H v d) : RE X T W ρ e (tC v) (ret d) := ⟨h, fun {m p S σ H Q} w _ h => PostE.here (d := d) h w (hr m p H)⟩
theorem RE.int {i j} : RE X T W ρ (.Constant (.int i) j pos) (tC (.int i)) (ret (.int i)) := .const pe_int fun _ _ _ => .int _
theorem RE.bl {i j} : RE X T W ρ (.Constant (.bool i) j pos) (tC (.bl i)) (ret (.bl i)) := .const pe_bl fun _ _ _ => .bl _
theorem RE.non {j} : RE X T W ρ (.Constant .none j pos) (tC .non) (ret .non) := .const pe_non fun _ _ _ => .non
theorem RE.str {x j} : RE X T W ρ (.Constant (.str x) j pos) (tC (.str x)) (ret (.str x)) := .const pe_str fun _ _ _ => .str _

/-! ### displays -/
theorem RA.nil : RA X T W ρ [] tNil (ret []) := ⟨pa_nil, fun {m p S σ H Q} w _ h => h [] m H Ext.refl w .nil⟩
variable {es : List Expr} {tr : TA} {cr : M (List D)}
def consM (ca : M D) (cr : M (List D)) : M (List D) := bnd ca fun x => bnd cr fun xs => ret (x :: xs)
theorem RA.cons (ha : RE X T W ρ a ta ca) (hr : RA X T W ρ es tr cr) (hs : starEach (a :: es) X.env = (false, eval a X.env) :: starEach es X.env := by rfl) : RA X T W ρ (a :: es) (tCons ta tr) (consM ca cr) :=
  ⟨pa_cons ha.pe hr.pa hs, fun w e h => ha.rd w e (PostE.bndA h fun _ _ _ _ _ e1 w1 r1 h1 => hr.rd w1 (e.ext e1) (PostA.bnd h1 fun _ _ _ _ _ e2 w2 r2 h2 => h2 _ _ _ Ext.refl w2 (.cons (r1.ext e2) r2)))⟩
def short {α : Type} (xs : List D) (c : M α) : M α := if xs.length ≤ lim then c else stk
theorem short_le {α : Type} {xs : List D} {c : M α} {S : Sto} (h : xs.length ≤ lim) : short xs c S = c S := by unfold short; rw [if_pos h]
def tupM (cr : M (List D)) : M D := bnd cr fun xs => short xs (ret (.tup xs))
def lstM (cr : M (List D)) : M D := bnd cr fun xs => short xs (ret (.lst xs))
def newC (c : Cell) : M D := fun S => .ok (.loc S.length) (S ++ [c])
def lstC (cr : M (List D)) : M D := bnd cr fun xs => short xs (newC (.lst xs))
theorem RE.tup {k} (h : RA X T W ρ es tr cr) : RE X T W ρ (.Tuple es k pos) (tTup tr) (tupM cr) :=
  ⟨pe_tup h.pa, fun w e hh => h.rd w e (PostA.bndE hh fun xs _ _ _ _ _ w1 r1 h1 => by
    unfold short at h1
    split at h1
    · rename_i hz
      exact ⟨by rw [r1.length]; exact Nat.le_trans hz lim_line, fun q n => h1.tup w1 r1 n⟩
    · exact False.elim h1)⟩
theorem RE.lst (h : RA X T W ρ es tr cr) : RE X T W ρ (.List es pos) (tLst tr) (lstM cr) :=
  ⟨pe_lst h.pa, fun w e hh => h.rd w e (PostA.bndE hh fun xs _ _ _ _ _ w1 r1 h1 => by
    unfold short at h1
    split at h1
    · rename_i hz
      exact ⟨by rw [r1.length]; exact Nat.le_trans hz lim_line, fun q n => h1.lst w1 r1 n⟩
    · exact False.elim h1)⟩
theorem RE.lstC (h : RA X T W ρ es tr cr) : RE X T W ρ (.List es pos) (tLst tr) (R.lstC cr) :=
  ⟨pe_lst h.pa, fun w e hh => h.rd w e (PostA.bndE hh fun xs _ _ _ _ _ w1 r1 h1 => by
    unfold short at h1
    split at h1
    · rename_i hz
      exact ⟨by rw [r1.length]; exact Nat.le_trans hz lim_line, fun q n => PostE.lstC h1 w1 r1 n⟩
    · exact False.elim h1)⟩
end
end R

namespace R
open PySem PySem.Spec PyProof.Rows L2
section
variable {X : Cx} {T : CT} {W : WX} {ρ : REnv} {a b e c : Expr} {ta tb te tc : TE} {ca cb ce cc : M D} {pos : Pos}
/-! ### ints -/
def iiM (C : Int → Int → Prop) [∀ i j, Decidable (C i j)] (g : Int → Int → D) (x y : D) : M D := match x, y with
  | .int i, .int j => if C i j then ret (g i j) else stk
  | _, _ => stk
theorem iiM_ok {C C' : Int → Int → Prop} [∀ i j, Decidable (C i j)] {g : Int → Int → D} {gv : Int → Int → V} (hC : ∀ i j, C i j → C' i j) (hg : ∀ K m p H i j, Rep K m p H (gv i j) (g i j)) : OpOk X T W (rI C' gv) (iiM C g) := by
  intro m p S σ H Q x y d e w rx ry h
  unfold iiM at h
  cases rx <;> cases ry <;> first | exact False.elim h | skip
  rename_i i j
  dsimp only at h
  split at h
  · exact ⟨i, j, rfl, rfl, hC _ _ (by assumption), h.here w (hg _ _ _ _ _ _)⟩
  · exact False.elim h
def ii0 (g : Int → Int → D) (x y : D) : M D := match x, y with
  | .int i, .int j => ret (g i j)
  | _, _ => stk
theorem ii0_ok {g : Int → Int → D} {gv : Int → Int → V} (hg : ∀ K m p H i j, Rep K m p H (gv i j) (g i j)) : OpOk X T W (rI0 gv) (ii0 g) := by
  intro m p S σ H Q x y d e w rx ry h
  unfold ii0 at h
  cases rx <;> cases ry <;> first | exact False.elim h | skip
  rename_i i j
  exact ⟨i, j, rfl, rfl, PostE.here (S := S) h w (hg _ _ _ _ _ _)⟩
def subM : D → D → M D := ii0 fun i j => .int (i - j)
def ltM : D → D → M D := ii0 fun i j => .bl (decide (i < j))
def leM : D → D → M D := ii0 fun i j => .bl (decide (i ≤ j))
def gtM : D → D → M D := ii0 fun i j => .bl (decide (j < i))
def geM : D → D → M D := ii0 fun i j => .bl (decide (j ≤ i))
/-- what a product may be -/
def MulOk (i j : Int) : Prop := (-(2 ^ 64) < i ∧ i < 2 ^ 64) ∨ (-(2 ^ 64) < j ∧ j < 2 ^ 64) ∨ i.natAbs.log2 + j.natAbs.log2 < 1000000
instance (i j : Int) : Decidable (MulOk i j) := by unfold MulOk; infer_instance
def DivOk (i j : Int) : Prop := j ≠ 0 ∧ j.natAbs.log2 < 9000
instance (i j : Int) : Decidable (DivOk i j) := by unfold DivOk; infer_instance
def ModOk (i j : Int) : Prop := j ≠ 0
instance (i j : Int) : Decidable (ModOk i j) := by unfold ModOk; infer_instance
def PowOk (i j : Int) : Prop := 0 ≤ j ∧ j ≤ 1000000 ∧ i.natAbs < 2 ^ 64
instance (i j : Int) : Decidable (PowOk i j) := by unfold PowOk; infer_instance
theorem MulOk.of {i j : Int} {a b : Nat} (ha : i.natAbs < 2 ^ a) (hb : j.natAbs < 2 ^ b) (h : a + b ≤ 1000000) : MulOk i j := by
  by_cases h0 : 0 < a
  · by_cases h1 : 0 < b
    · exact .inr (.inr (wide_mul ha hb h0 h1 h))
    · have : b = 0 := by omega
      subst this
      simp at hb
      exact .inr (.inl (by subst hb; decide))
  · have : a = 0 := by omega
    subst this
    simp at ha
    exact .inl (by subst ha; decide)
theorem op_mulA : OpR X (binaryOp .Mult) (rI MulOk fun i j => .int (i * j)) := opI fun i j _ _ _ _ _ hc q => by
  rcases hc with h | h | h
  · exact mul_int q (show CMul i j from .inl h).ok
  · exact mul_int q (show CMul i j from .inr h).ok
  · exact mul_int q (show CMulW i j from h).ok
theorem op_fdivA : OpR X (binaryOp .FloorDiv) (rI DivOk fun i j => .int (i.fdiv j)) := opI fun i j _ _ _ _ _ hc q => floordiv_int hc.1 q (.inl (PyProof.noPylong_of_log2 hc.2))
theorem op_modA : OpR X (binaryOp .Mod) (rI ModOk fun i j => .int (i.fmod j)) := opI fun _ _ _ _ _ _ _ hc q => mod_int' hc q
def fdivM : D → D → M D := iiM DivOk fun i j => .int (i.fdiv j)
def modM : D → D → M D := iiM ModOk fun i j => .int (i.fmod j)
def powM : D → D → M D := iiM PowOk fun i j => .int (i ^ j.toNat)
theorem RE.sub (ha : RE X T W ρ a ta ca) (hb : RE X T W ρ b tb cb) : RE X T W ρ (.BinOp a .Sub b pos) (tOp (rI0 fun i j => .int (i - j)) ta tb) (bi subM ca cb) := .bin op_sub (ii0_ok fun _ _ _ _ _ _ => .int _) ha hb
theorem RE.fdiv (ha : RE X T W ρ a ta ca) (hb : RE X T W ρ b tb cb) : RE X T W ρ (.BinOp a .FloorDiv b pos) (tOp (rI DivOk fun i j => .int (i.fdiv j)) ta tb) (bi fdivM ca cb) := .bin op_fdivA (iiM_ok (fun _ _ h => h) fun _ _ _ _ _ _ => .int _) ha hb
theorem RE.mod (ha : RE X T W ρ a ta ca) (hb : RE X T W ρ b tb cb) : RE X T W ρ (.BinOp a .Mod b pos) (tOp (rI ModOk fun i j => .int (i.fmod j)) ta tb) (bi modM ca cb) := .bin op_modA (iiM_ok (fun _ _ h => h) fun _ _ _ _ _ _ => .int _) ha hb
theorem RE.pow (ha : RE X T W ρ a ta ca) (hb : RE X T W ρ b tb cb) : RE X T W ρ (.BinOp a .Pow b pos) (tOp (rI CPow fun i j => .int (i ^ j.toNat)) ta tb) (bi powM ca cb) := .bin op_pow (iiM_ok (C := PowOk) (fun _ _ h => h) fun _ _ _ _ _ _ => .int _) ha hb
theorem ok_lt : OpOk X T W (rI0 fun i j => .bl (decide (i < j))) ltM := ii0_ok fun _ _ _ _ _ _ => .bl _
theorem ok_le : OpOk X T W (rI0 fun i j => .bl (decide (i ≤ j))) leM := ii0_ok fun _ _ _ _ _ _ => .bl _
theorem ok_gt : OpOk X T W (rI0 fun i j => .bl (decide (j < i))) gtM := ii0_ok fun _ _ _ _ _ _ => .bl _
theorem ok_ge : OpOk X T W (rI0 fun i j => .bl (decide (j ≤ i))) geM := ii0_ok fun _ _ _ _ _ _ => .bl _
/-- x + y: ints, texts, lists, tuples -/
def addM (x y : D) : M D := fun S => match x, y with
  | .int i, .int j => .ok (.int (i + j)) S
  | .str i, .str j => if i.length + j.length ≤ lim then .ok (.str (i ++ j)) S else .stuck
  | .tup xs, .tup ys => if xs ≠ [] ∧ xs.length + ys.length ≤ lim then .ok (.tup (xs ++ ys)) S else .stuck
  | x, y => match lsOf S x, lsOf S y with
    | some xs, some ys => if xs.length + ys.length ≤ lim then .ok (.lst (xs ++ ys)) S else .stuck
    | _, _ => .stuck
def rAddA (K : PySem.W.Frag) : R2 := fun x y H Q => (∃ i j, x = .int i ∧ y = .int j ∧ Q (.int (i + j)) H) ∨ (∃ i j, x = .str i ∧ y = .str j ∧ i.length + j.length ≤ sizeLine ∧ Q (.str (i ++ j)) H) ∨ rCat x y H Q ∨ rCatT K x y H Q
theorem op_addA : OpR X (binaryOp .Add) (rAddA X.K) := op_add.or (op_add_str.or (op_cat.or op_catT))
theorem listNe {α : Type} [BEq α] {xs : List α} : True := trivial
instance decNil {α : Type} : ∀ xs : List α, Decidable (xs ≠ []) := fun xs => match xs with
  | [] => .isFalse fun h => h rfl
  | _ :: _ => .isTrue fun h => nomatch h
theorem Reps.ne {K : PySem.W.Frag} {m p : List Addr} {H : Hp} {vs : List V} {ds : List D} (r : Reps K m p H vs ds) (h : ds ≠ []) : vs ≠ [] := fun e => by
  subst e
  cases r
  exact h rfl
theorem ok_add : OpOk X T W (rAddA X.K) addM := by
  intro m p S σ H Q x y d e w rx ry h
  have key : ∀ {d e : D} {x y : V}, Rep X.K m p H x d → Rep X.K m p H y e → PostE X.K X.mg T W σ m p H (match lsOf S d, lsOf S e with | some xs, some ys => if xs.length + ys.length ≤ lim then .ok (.lst (xs ++ ys)) S else .stuck | _, _ => .stuck) Q → rAddA X.K x y H Q := by
    intro d e x y rx ry h
    cases e1 : lsOf S d with
    | none => rw [e1] at h; exact False.elim h
    | some xs =>
      cases e2 : lsOf S e with
      | none => rw [e1, e2] at h; exact False.elim h
      | some ys =>
        rw [e1, e2] at h
        dsimp only at h
        split at h
        · rename_i hz
          obtain ⟨a, us, rfl, q1, q2⟩ := lsOf_ok w rx e1
          obtain ⟨b, vs, rfl, g1, g2⟩ := lsOf_ok w ry e2
          exact .inr (.inr (.inl ⟨a, b, us, vs, rfl, rfl, q1, g1, by rw [q2.length, g2.length]; exact Nat.le_trans hz lim_line, fun c n => h.lst w (q2.append g2) n⟩))
        · exact False.elim h
  unfold addM at h
  split at h
  · cases rx; cases ry
    exact .inl ⟨_, _, rfl, rfl, h.here w (.int _)⟩
  · cases rx; cases ry
    split at h
    · rename_i hz
      exact .inr (.inl ⟨_, _, rfl, rfl, Nat.le_trans hz lim_line, h.here w (.str _)⟩)
    · exact False.elim h
  · cases rx with
    | tup a1 a2 =>
      cases ry with
      | tup b1 b2 =>
        split at h
        · rename_i hz
          refine .inr (.inr (.inr ⟨_, _, _, _, rfl, rfl, a1.sq, b1.sq, a2.ne hz.1, by rw [a2.length, b2.length]; exact Nat.le_trans hz.2 lim_line, fun z => ?_, fun _ c n => h.tup w (a2.append b2) n⟩))
          subst z
          cases b2
          rw [List.append_nil] at h
          exact h.here w (.tup a1 a2)
        · exact False.elim h
  · exact key rx ry h
theorem RE.add (K : PySem.W.Frag) (ha : RE X T W ρ a ta ca) (hb : RE X T W ρ b tb cb) (hK : X.K = K := by rfl) : RE X T W ρ (.BinOp a .Add b pos) (tOp (rAddA K) ta tb) (bi addM ca cb) := by subst hK; exact .bin op_addA ok_add ha hb
/-- x * y: ints -/
def mulM : D → D → M D := iiM MulOk fun i j => .int (i * j)
theorem RE.mul (ha : RE X T W ρ a ta ca) (hb : RE X T W ρ b tb cb) : RE X T W ρ (.BinOp a .Mult b pos) (tOp (rI MulOk fun i j => .int (i * j)) ta tb) (bi mulM ca cb) := .bin op_mulA (iiM_ok (fun _ _ h => h) fun _ _ _ _ _ _ => .int _) ha hb
def negM (x : D) : M D := match x with
  | .int i => ret (.int (-i))
  | _ => stk
theorem RE.neg (ha : RE X T W ρ a ta ca) : RE X T W ρ (.UnaryOp .USub a pos) (tUn (rU fun i => .int (-i)) ta) (bnd ca negM) :=
  ⟨pe_un un_neg ha.pe, fun w e h => ha.rd w e (h.bnd fun _ _ _ _ _ e1 w1 r1 h1 => by
    cases r1 with
    | int i => exact ⟨i, rfl, h1.here w1 (.int _)⟩
    | _ => exact False.elim h1)⟩

/-! ### == and != of data -/
mutual
def D.py : D → Option PyData
  | .non => some .none
  | .bl b => some (.bool b)
  | .int i => some (.int i)
  | .str x => some (.str x)
  | .tup xs => (D.pys xs).map .tuple
  | .lst xs => (D.pys xs).map .list
  | .rol xs => (D.pys xs).map .list
  | .loc _ => none
  | .ty _ => none
  | .ob _ => none
def D.pys : List D → Option (List PyData)
  | [] => some []
  | d :: ds => match D.py d, D.pys ds with
    | some a, some b => some (a :: b)
    | _, _ => none
end
mutual
theorem D.py_ok {K : PySem.W.Frag} {m p : List Addr} {H : Hp} : ∀ (d : D) (v : V) (q : PyData), Rep K m p H v d → d.py = some q → Dp K H v q
  | .non, _, _, h, e => by cases h; cases e; exact .non
  | .bl b, _, _, h, e => by cases h; cases e; exact .bl b
  | .int i, _, _, h, e => by cases h; cases e; exact .int i
  | .str x, _, _, h, e => by cases h; cases e; exact .str x
  | .tup xs, _, _, h, e => by
    cases h with
    | tup h1 h2 =>
      unfold D.py at e
      cases q : D.pys xs with
      | none => rw [q] at e; cases e
      | some ys => rw [q] at e; cases e; exact .tup h1.sq (D.pys_ok xs _ ys h2 q)
  | .lst xs, _, _, h, e => by
    cases h with
    | lst h1 h2 =>
      unfold D.py at e
      cases q : D.pys xs with
      | none => rw [q] at e; cases e
      | some ys => rw [q] at e; cases e; exact .lst (.of h1.2.2) (D.pys_ok xs _ ys h2 q)
  | .rol xs, _, _, h, e => by
    cases h with
    | rol h1 h2 =>
      unfold D.py at e
      cases q : D.pys xs with
      | none => rw [q] at e; cases e
      | some ys => rw [q] at e; cases e; exact .lst h1.sq (D.pys_ok xs _ ys h2 q)
  | .loc _, _, _, h, e => by cases e
  | .ty _, _, _, h, e => by cases e
  | .ob _, _, _, h, e => by cases e
theorem D.pys_ok {K : PySem.W.Frag} {m p : List Addr} {H : Hp} : ∀ (ds : List D) (vs : List V) (qs : List PyData), Reps K m p H vs ds → D.pys ds = some qs → DpAll K H vs qs
  | [], _, _, h, e => by cases h; cases e; exact .nil
  | d :: ds, _, _, h, e => by
    cases h with
    | cons h1 h2 =>
      unfold D.pys at e
      cases q1 : d.py with
      | none => rw [q1] at e; cases e
      | some a =>
        cases q2 : D.pys ds with
        | none => rw [q1, q2] at e; cases e
        | some b => rw [q1, q2] at e; cases e; exact .cons (D.py_ok d _ a h1 q1) (D.pys_ok ds _ b h2 q2)
end
def eqM (x y : D) : M D := match x.py, y.py with
  | some a, some b => if SeqAt.shaped a = true ∧ SeqAt.shaped b = true then ret (.bl (PyData.eqv a b)) else stk
  | _, _ => stk
def neM (x y : D) : M D := match x.py, y.py with
  | some a, some b => if SeqAt.shaped a = true ∧ SeqAt.shaped b = true then ret (.bl (!PyData.eqv a b)) else stk
  | _, _ => stk
theorem ok_eq : OpOk X T W (rEqD X.K) eqM := by
  intro m p S σ H Q x y d e w rx ry h
  unfold eqM at h
  cases q1 : d.py with
  | none => rw [q1] at h; exact False.elim h
  | some a =>
    cases q2 : e.py with
    | none => rw [q1, q2] at h; exact False.elim h
    | some b =>
      rw [q1, q2] at h
      dsimp only at h
      split at h
      · rename_i hz
        exact ⟨a, b, D.py_ok d x a rx q1, D.py_ok e y b ry q2, hz.1, hz.2, h.here w (.bl _)⟩
      · exact False.elim h
theorem ok_ne : OpOk X T W (rNeD X.K) neM := by
  intro m p S σ H Q x y d e w rx ry h
  unfold neM at h
  cases q1 : d.py with
  | none => rw [q1] at h; exact False.elim h
  | some a =>
    cases q2 : e.py with
    | none => rw [q1, q2] at h; exact False.elim h
    | some b =>
      rw [q1, q2] at h
      dsimp only at h
      split at h
      · rename_i hz
        exact ⟨a, b, D.py_ok d x a rx q1, D.py_ok e y b ry q2, hz.1, hz.2, h.here w (.bl _)⟩
      · exact False.elim h
/-- x is None, x is True -/
def isM (x y : D) : M D := match y with
  | .non => match x with
    | .non => ret (.bl true)
    | .loc _ | .ob _ => ret (.bl false)
    | _ => ret (.bl false)
  | .bl b => match x with
    | .bl a => ret (.bl (decide (a = b)))
    | _ => stk
  | _ => stk
def isNotM (x y : D) : M D := bnd (isM x y) fun r => match r with
  | .bl b => ret (.bl (!b))
  | _ => stk
def rIsA : R2 := fun x y H Q => (y = .non ∧ Q (.bl (decide (x = .non))) H) ∨ rIsB x y H Q
def rIsNotA : R2 := fun x y H Q => (y = .non ∧ Q (.bl (!decide (x = .non))) H) ∨ rNotB x y H Q
theorem op_isA : OpR X (compareOp .Is) rIsA := op_isN.or op_isBl
theorem op_isNotA : OpR X (compareOp .IsNot) rIsNotA := op_notN.or op_notBl
theorem ok_is : OpOk X T W rIsA isM := by
  intro m p S σ H Q x y d e w rx ry h
  unfold isM at h
  cases ry with
  | non =>
    refine .inl ⟨rfl, ?_⟩
    cases rx <;> exact PostE.here h w (.bl _)
  | bl b =>
    cases rx with
    | bl a => exact .inr ⟨a, b, rfl, rfl, PostE.here h w (.bl _)⟩
    | _ => exact False.elim h
  | _ => exact False.elim h
theorem ok_isNot : OpOk X T W rIsNotA isNotM := by
  intro m p S σ H Q x y d e w rx ry h
  unfold isNotM isM at h
  cases ry with
  | non =>
    refine .inl ⟨rfl, ?_⟩
    cases rx <;> exact PostE.here h w (.bl _)
  | bl b =>
    cases rx with
    | bl a => exact .inr ⟨a, b, rfl, rfl, PostE.here h w (.bl _)⟩
    | _ => exact False.elim h
  | _ => exact False.elim h

/-! ### items -/
def ixM (x y : D) : M D := fun S => match y with
  | .int i => match x with
    | .str z => if z.length ≤ lim then (match atI z.cps.toList i with
      | some c => .ok (.str ⟨#[c]⟩) S
      | none => .stuck) else .stuck
    | .tup xs => match atI xs i with
      | some d => .ok d S
      | none => .stuck
    | x => match sqL S x with
      | some xs => match atI xs i with
        | some d => .ok d S
        | none => .stuck
      | none => .stuck
  | _ => .stuck
theorem Reps.at {K : PySem.W.Frag} {m p : List Addr} {H : Hp} {vs : List V} {ds : List D} {i : Int} {d : D} (r : Reps K m p H vs ds) (h : atI ds i = some d) : ∃ v, atI vs i = some v ∧ Rep K m p H v d := by
  unfold atI at h ⊢
  rw [r.length]
  cases e : ixN ds.length i with
  | none => rw [e] at h; cases h
  | some j =>
    rw [e] at h
    obtain ⟨v, e1, e2⟩ := r.get (show ds[j]? = some d from h)
    exact ⟨v, e1, e2⟩
theorem ok_ix : OpOk X T W (rIx X.K) ixM := by
  intro m p S σ H Q x y d e w rx ry h
  unfold ixM at h
  cases ry with
  | int i =>
    dsimp only at h
    split at h
    · cases rx
      split at h
      · rename_i hz
        split at h
        · rename_i c hc
          exact .inr (.inr ⟨_, i, c, rfl, rfl, Nat.le_trans hz lim_line, hc, h.here w (.str _)⟩)
        · exact False.elim h
      · exact False.elim h
    · cases rx with
      | tup h1 h2 =>
        split at h
        · rename_i d hd
          obtain ⟨v, e1, e2⟩ := h2.at hd
          exact .inr (.inl ⟨_, _, i, v, rfl, rfl, h1.sq, e1, h.here w e2⟩)
        · exact False.elim h
    · split at h
      · rename_i xs hx
        split at h
        · rename_i d hd
          obtain ⟨a, us, rfl, q1, q2⟩ := sqL_ok w rx hx
          obtain ⟨v, e1, e2⟩ := q2.at hd
          exact .inl ⟨a, us, i, v, rfl, rfl, q1, e1, h.here w e2⟩
        · exact False.elim h
      · exact False.elim h
  | _ => exact False.elim h
theorem RE.ix (K : PySem.W.Frag) (ha : RE X T W ρ a ta ca) (hb : RE X T W ρ b tb cb) (hs : PlainIx b) (hK : X.K = K := by rfl) : RE X T W ρ (.Subscript a b pos) (tOp (rIx K) ta tb) (bi ixM ca cb) := by
  subst hK
  exact ⟨pe_ix ix_seq ha.pe hb.pe hs, fun w e h => ha.rd w e (h.bnd fun _ _ _ _ _ e1 w1 r1 h1 => hb.rd w1 (e.ext e1) (h1.bnd fun _ _ _ _ _ e2 w2 r2 h2 => ok_ix w2 (r1.ext e2) r2 h2))⟩
end
end R

namespace R
open PySem PySem.Spec PyProof.Rows L2
section
variable {X : Cx} {T : CT} {W : WX} {ρ : REnv} {a b e c : Expr} {ta tb te tc : TE} {ca cb ce cc : M D} {pos p0 : Pos} {es : List Expr} {tr : TA} {cr : M (List D)} {id Ty : String} {x : Str}
/-! ### built-in functions -/
def FnR (X : Cx) (T : CT) (W : WX) (r : List V → Hp → VK → Prop) (f : List D → M D) : Prop :=
  ∀ {m p : List Addr} {S : Sto} {σ : L2.St} {H : Hp} {Q : VK} {vs : List V} {ds : List D}, Wd X.K X.mg T m p S H → Reps X.K m p H vs ds → PostE X.K X.mg T W σ m p H (f ds S) Q → r vs H Q
theorem RE.callB {r : List V → Hp → VK → Prop} {f : List D → M D} (hf : FnR X T W r f) (hc : CallR X (.builtin id) r) (hg : Gl X x) (hm : X.mg x = none) (hv : bootBuiltins x = some (.builtin id)) (ha : RA X T W ρ (e :: es) tr cr) (hn : x ≠ "__name__" := by decide) (hdb : (x == ("__debug__" : Str)) = false := by decide)
    (he : starEach (e :: es) X.env = (false, eval e X.env) :: starEach es X.env := by rfl) (hpl : (backTo pos (starEach es X.env)).any (·.1) = false := by rfl) : RE X T W ρ (.Call (.Name x p0) (e :: es) [] pos) (tCB r tr) (bnd cr f) :=
  ⟨pe_callB hc hg hm hv ha.pa hn hdb he hpl, fun w e h => ha.rd w e (PostA.bndE h fun _ _ _ _ _ _ w1 r1 h1 => hf w1 r1 h1)⟩
theorem RE.callTy {r : List V → Hp → VK → Prop} {f : List D → M D} (hf : FnR X T W r f) (hc : CallR X (.type Ty) r) (hg : Gl X x) (hm : X.mg x = none) (hv : bootBuiltins x = some (.type Ty)) (ha : RA X T W ρ (e :: es) tr cr) (hn : x ≠ "__name__" := by decide) (hdb : (x == ("__debug__" : Str)) = false := by decide)
    (he : starEach (e :: es) X.env = (false, eval e X.env) :: starEach es X.env := by rfl) (hpl : (backTo pos (starEach es X.env)).any (·.1) = false := by rfl) : RE X T W ρ (.Call (.Name x p0) (e :: es) [] pos) (tCB r tr) (bnd cr f) :=
  ⟨pe_callTy hc hg hm hv ha.pa hn hdb he hpl, fun w e h => ha.rd w e (PostA.bndE h fun _ _ _ _ _ _ w1 r1 h1 => hf w1 r1 h1)⟩
def absM : List D → M D
  | [.int i] => ret (.int (if i < 0 then -i else i))
  | _ => stk
theorem fn_abs : FnR X T W (fun xs H Q => ∃ i, xs = [.int i] ∧ Q (.int (if i < 0 then -i else i)) H) absM := by
  intro m p S σ H Q vs ds w r h
  unfold absM at h
  split at h
  · cases r with
    | cons r1 r2 =>
      cases r1
      cases r2
      exact ⟨_, rfl, PostE.here (S := S) h w (.int _)⟩
  · exact False.elim h
def maxM : List D → M D
  | [.int i, .int j] => ret (.int (if j > i then j else i))
  | _ => stk
def minM : List D → M D
  | [.int i, .int j] => ret (.int (if j < i then j else i))
  | _ => stk
theorem fn_max : FnR X T W (fun xs H Q => ∃ i j, xs = [.int i, .int j] ∧ Q (.int (if j > i then j else i)) H) maxM := by
  intro m p S σ H Q vs ds w r h
  unfold maxM at h
  split at h
  · cases r with
    | cons r1 r2 =>
      cases r2 with
      | cons r2 r3 =>
      cases r1
      cases r2
      cases r3
      exact ⟨_, _, rfl, PostE.here (S := S) h w (.int _)⟩
  · exact False.elim h
theorem fn_min : FnR X T W (fun xs H Q => ∃ i j, xs = [.int i, .int j] ∧ Q (.int (if j < i then j else i)) H) minM := by
  intro m p S σ H Q vs ds w r h
  unfold minM at h
  split at h
  · cases r with
    | cons r1 r2 =>
      cases r2 with
      | cons r2 r3 =>
      cases r1
      cases r2
      cases r3
      exact ⟨_, _, rfl, PostE.here (S := S) h w (.int _)⟩
  · exact False.elim h
def intM : List D → M D
  | [.int i] => ret (.int i)
  | [.bl k] => ret (.int (if k then 1 else 0))
  | _ => stk
theorem fn_int : FnR X T W (fun xs H Q => (∃ i, xs = [.int i] ∧ Q (.int i) H) ∨ ∃ k, xs = [.bl k] ∧ Q (.int (if k then 1 else 0)) H) intM := by
  intro m p S σ H Q vs ds w r h
  unfold intM at h
  split at h
  · cases r with
    | cons r1 r2 =>
      cases r1
      cases r2
      exact .inl ⟨_, rfl, PostE.here (S := S) h w (.int _)⟩
  · cases r with
    | cons r1 r2 =>
      cases r1
      cases r2
      exact .inr ⟨_, rfl, PostE.here (S := S) h w (.int _)⟩
  · exact False.elim h
def lenM (ds : List D) : M D := fun S => match ds with
  | [.str z] => if z.length ≤ lim then .ok (.int z.length) S else .stuck
  | [.tup xs] => .ok (.int xs.length) S
  | [d] => match sqL S d with
    | some xs => .ok (.int xs.length) S
    | none => .stuck
  | _ => .stuck
def rLenA (K : PySem.W.Frag) : List V → Hp → VK → Prop := fun xs H Q => ∃ x n, xs = [x] ∧ LenV K x H n ∧ Q (.int n) H
theorem fn_len : FnR X T W (rLenA X.K) lenM := by
  intro m p S σ H Q vs ds w r h
  unfold lenM at h
  split at h
  · cases r with
    | cons r1 r2 =>
      cases r1
      cases r2
      split at h
      · rename_i hz
        exact ⟨_, _, rfl, ⟨Nat.le_trans hz lim_line, rfl⟩, PostE.here (S := S) h w (.int _)⟩
      · exact False.elim h
  · cases r with
    | cons r1 r2 =>
      cases r2
      cases r1 with
      | tup h1 h2 => exact ⟨_, _, rfl, .inr ⟨_, h1.sq, rfl⟩, by rw [h2.length]; exact PostE.here (S := S) h w (.int _)⟩
  · cases r with
    | cons r1 r2 =>
      cases r2
      split at h
      · rename_i xs hx
        obtain ⟨a, us, rfl, q1, q2⟩ := sqL_ok w r1 hx
        exact ⟨_, _, rfl, .inl ⟨_, q1, rfl⟩, by rw [q2.length]; exact PostE.here (S := S) h w (.int _)⟩
      · exact False.elim h
  · exact False.elim h
/-! isinstance -/
def tyD (S : Sto) : D → Option String
  | .non => some "NoneType"
  | .bl _ => some "bool"
  | .int _ => some "int"
  | .str _ => some "str"
  | .tup _ => some "tuple"
  | .lst _ => some "list"
  | .rol _ => some "list"
  | .loc n => match S[n]? with
    | some (.lst _) => some "list"
    | some (.dict _) => some "dict"
    | _ => none
  | _ => none
theorem tyD_ok {m p : List Addr} {S : Sto} {H : Hp} {v : V} {d : D} {t : String} (w : Wd X.K X.mg T m p S H) (r : Rep X.K m p H v d) (h : tyD S d = some t) : TyX X.K H v (.type t) := by
  cases r with
  | non => cases h; exact .base .non
  | bl b => cases h; exact .base (.bl b)
  | int b => cases h; exact .base (.int b)
  | str b => cases h; exact .base (.str b)
  | tup h1 h2 =>
    cases h
    rcases h1 with ⟨_, _, h1⟩ | ⟨o, its, n, e1, e2, _⟩
    · exact .base (.tup h1)
    · exact .kTuple e1 e2
  | lst h1 h2 => cases h; exact .base (.lst h1.2.2)
  | rol h1 h2 =>
    cases h
    rcases h1 with ⟨_, _, h1 | ⟨o, h1⟩⟩ | ⟨o, its, n, e1, e2, _⟩
    · exact .base (.lst h1)
    · exact .base (.frz h1)
    · exact .kList e1 e2
  | @loc n a h1 =>
    unfold tyD at h
    cases e : S[n]? with
    | none => simp [e] at h
    | some c =>
      cases c with
      | lst xs =>
        simp [e] at h
        subst h
        obtain ⟨us, q1, q2⟩ := w.cel n a _ h1 e
        exact .base (.lst q1)
      | dict _ =>
        simp [e] at h
        subst h
        obtain ⟨us, q1, q2⟩ := w.cel n a _ h1 e
        exact .base (.dK q1)
      | ins _ _ => simp [e] at h
  | _ => cases h
def subT (a b : String) : Bool := a == b || (a == "bool" && b == "int")
def tyNames : List String := ["NoneType", "bool", "int", "str", "tuple", "list", "dict"]
theorem kitB_all : (tyNames.all fun a => tyNames.all fun b => decide (kitB a b = some (subT a b))) = true := by decide +kernel
theorem kitB_sub {a b : String} (ha : a ∈ tyNames) (hb : b ∈ tyNames) : kitB a b = some (subT a b) := by
  have h := List.all_eq_true.mp kitB_all a ha
  exact of_decide_eq_true (List.all_eq_true.mp h b hb)
theorem tyD_in {S : Sto} {d : D} {t : String} (h : tyD S d = some t) : t ∈ tyNames := by
  unfold tyD at h
  split at h
  all_goals first
    | (cases h; decide)
    | (split at h <;> first | (cases h; decide) | cases h)
    | cases h
/-- one built-in type b, or several -/
def isiM (bs : List String) (d : D) : M D := fun S => match tyD S d with
  | some t => .ok (.bl (bs.any (subT t))) S
  | none => .stuck
def isi1 (ds : List D) : M D := match ds with
  | [d, .ty b] => if b ∈ tyNames then isiM [b] d else stk
  | _ => stk
theorem fn_isi : FnR X T W (rIsi X.K) isi1 := by
  intro m p S σ H Q vs ds w r h
  unfold isi1 at h
  split at h
  · cases r with
    | cons r1 r2 =>
      cases r2 with
      | cons r2 r3 =>
      cases r3
      cases r2
      split at h
      · rename_i hb
        unfold isiM at h
        cases e : tyD S _ with
        | none => rw [e] at h; exact False.elim h
        | some t =>
          rw [e] at h
          refine ⟨_, _, _, _, _, rfl, .ty _, tyD_ok w r1 e, kit_ty (kitB_sub (tyD_in e) hb), ?_⟩
          simp only [List.any_cons, List.any_nil, Bool.or_false] at h
          exact PostE.here (S := S) h w (.bl _)
      · exact False.elim h
  · exact False.elim h
def tyL : List D → Option (List String)
  | [] => some []
  | .ty b :: ds => (tyL ds).map (b :: ·)
  | _ => none
theorem tyL_ok {K : PySem.W.Frag} {m p : List Addr} {H : Hp} : ∀ {ds : List D} {vs : List V} {bs : List String}, Reps K m p H vs ds → tyL ds = some bs → vs = bs.map V.ty
  | [], vs, bs, r, h => by cases r; cases h; rfl
  | d :: ds, vs, bs, r, h => by
    cases r with
    | cons r1 r2 =>
      cases r1 with
      | ty b =>
        unfold tyL at h
        cases q : tyL ds with
        | none => rw [q] at h; cases h
        | some cs => rw [q] at h; cases h; rw [tyL_ok r2 q]; rfl
      | _ => cases h
theorem kitAny_sub {K : PySem.W.Frag} {a : String} (ha : a ∈ tyNames) : ∀ {bs : List String}, (∀ b ∈ bs, b ∈ tyNames) → PySem.W.kitAny K (.type a) (bs.map Value.type) = some (bs.any (subT a))
  | [], _ => rfl
  | b :: bs, h => by
    show (match PySem.W.kitOne K (.type a) (.type b) with | some true => some true | some false => PySem.W.kitAny K (.type a) (bs.map Value.type) | none => none) = _
    rw [kit_ty (kitB_sub ha (h b List.mem_cons_self))]
    cases e : subT a b with
    | true => simp [e]
    | false => simp only [kitAny_sub ha fun c hc => h c (List.mem_cons_of_mem _ hc), List.any_cons, e, Bool.false_or]
theorem clsV_all : ∀ bs : List String, Paired ClsV (bs.map V.ty) (bs.map Value.type)
  | [] => .nil
  | b :: bs => .cons (.ty b) (clsV_all bs)
theorem vals_ty : ∀ {bs : List String} {us : List Value}, Vals (bs.map V.ty) us → us = bs.map Value.type
  | [], us, r => by cases r; rfl
  | b :: bs, us, r => by
    cases r with
    | cons r1 r2 => rw [vals_ty r2]; cases r1; rfl
def isiT (ds : List D) : M D := match ds with
  | [d, .tup ts] => match tyL ts with
    | some bs => if ∀ b ∈ bs, b ∈ tyNames then isiM bs d else stk
    | none => stk
  | _ => stk
def rIsiA (K : PySem.W.Frag) : List V → Hp → VK → Prop := fun xs H Q => rIsiT K xs H Q ∨ rIsiK K xs H Q
theorem call_isiA : CallR X (.builtin "isinstance") (rIsiA X.K) := call_isiT.or call_isiK
theorem fn_isiT : FnR X T W (rIsiA X.K) isiT := by
  intro m p S σ H Q vs ds w r h
  unfold isiT at h
  split at h
  · rename_i d0 ts0
    cases r with
    | cons r1 r2 =>
      cases r2 with
      | cons r2 r3 =>
      cases r3
      cases r2 with
      | tup q1 q2 =>
        cases hb : tyL ts0 with
        | none => rw [hb] at h; exact False.elim h
        | some bs =>
          rw [hb] at h
          dsimp only at h
          by_cases hin : ∀ b ∈ bs, b ∈ tyNames
          · rw [if_pos hin] at h
            unfold isiM at h
            cases e : tyD S d0 with
            | none => rw [e] at h; exact False.elim h
            | some t =>
              rw [e] at h
              have hv := tyL_ok q2 hb
              rcases q1 with ⟨_, _, q1⟩ | ⟨o, its, n, e1, e2, e3, _, e5⟩
              · exact .inl ⟨_, _, _, _, _, _, rfl, q1, by rw [hv]; exact clsV_all bs, tyD_ok w r1 e, kitAny_sub (tyD_in e) hin, PostE.here (S := S) h w (.bl _)⟩
              · obtain ⟨oc, od, dt, sl⟩ := o
                simp only at e2 e3
                subst e2 e3
                rw [hv] at e5
                have hu := vals_ty e5
                exact .inr ⟨_, _, od, bs.map Value.type, n, sl, _, _, rfl, by rw [← hu]; exact e1, tyD_ok w r1 e, kitAny_sub (tyD_in e) hin, PostE.here (S := S) h w (.bl _)⟩
          · rw [if_neg hin] at h
            exact False.elim h
  · exact False.elim h
/-! ### calls of defs -/
def spR (K : PySem.W.Frag) (mg : Str → Option Value) (T : CT) (n : Nat) (f : List D → M D) : Sp := fun vs H Q E =>
  vs.length = n ∧ ∃ (m p : List Addr) (S : Sto) (ds : List D), Wd K mg T m p S H ∧ Reps K m p H vs ds ∧ PostE K mg T (fun c d _ H => E c d H) [] m p H (f ds S) Q
theorem PostE.slots {K : PySem.W.Frag} {mg : Str → Option Value} {σ : L2.St} {m p : List Addr} {H : Hp} {r : Res D} {Q : VK} (h : PostE K mg T W σ m p H r Q) : PostE K mg T (fun c d _ H => W c d σ H) [] m p H r Q := by
  cases r with
  | ok d S => exact h
  | exc c w S => exact h
  | stuck => exact h
variable {k n : Nat} {f C : Addr} {fd : FuncData} {ps : List Str} {g : List D → M D}
theorem RE.call {K : PySem.W.Frag} {mg : Str → Option Value} (F : FnOk X.prog X.w X.K X.mg X.base (L2.CX X.prog X.w) k f fd ps (spR K mg T n g)) (hr : Room k X.A) (hg : Gl X x) (hm : X.mg x = some (.ref f)) (hk : PySem.W.keepIn X.K (.ref f) = true) (hb : Binds X.K fd ps []) (hx : ∀ σ, PassesAt (L2.CX X.prog X.w) X σ (WE W σ))
    (ha : RA X T W ρ (e :: es) tr cr) (hl : (e :: es).length = n := by rfl) (hdb : (x == ("__debug__" : Str)) = false := by decide) (he : starEach (e :: es) X.env = (false, eval e X.env) :: starEach es X.env := by rfl) (hpl : (backTo pos (starEach es X.env)).any (·.1) = false := by rfl)
    (hlen : ∀ (ds : List D) (S S' : Sto), cr S = .ok ds S' → ds.length = n) (hK : X.K = K := by rfl) (hM : X.mg = mg := by rfl) :
    RE X T W ρ (.Call (.Name x p0) (e :: es) [] pos) (tCallS (spR K mg T n g) (WE W) tr) (bnd cr g) := by
  subst hK hM
  exact ⟨pe_callS F hr hg hm hk hb hx ha.pa hdb he hpl, fun {m p S σ H Q} w en h => ha.rd w en (by
    unfold R.bnd at h
    cases q : cr S with
    | ok ds S1 =>
      rw [q] at h
      exact fun v m1 H1 e1 w1 r1 => ⟨by rw [r1.length]; exact hlen _ _ _ q, m1, p, S1, ds, w1, r1, (h.ext e1).slots⟩
    | exc c u S1 => rw [q] at h; exact h
    | stuck => rw [q] at h; exact h)⟩
theorem consM_len {ca : M D} {cr : M (List D)} {n : Nat} (h : ∀ (ds : List D) (S S' : Sto), cr S = .ok ds S' → ds.length = n) : ∀ (ds : List D) (S S' : Sto), consM ca cr S = .ok ds S' → ds.length = n + 1 := by
  intro ds S S' e
  unfold consM bnd at e
  cases q : ca S with
  | ok d S1 =>
    rw [q] at e
    dsimp only at e
    cases q2 : cr S1 with
    | ok xs S2 =>
      rw [q2] at e
      cases e
      rw [List.length_cons, h _ _ _ q2]
    | exc _ _ _ => rw [q2] at e; cases e
    | stuck => rw [q2] at e; cases e
  | exc _ _ _ => rw [q] at e; cases e
  | stuck => rw [q] at e; cases e
theorem nilM_len : ∀ (ds : List D) (S S' : Sto), (ret [] : M (List D)) S = .ok ds S' → ds.length = 0 := by
  intro ds S S' e
  cases e
  rfl
/-- in a comprehension's block nothing is let out -/
theorem passBlk {X : Cx} {s : Shared} {H : Hp} {sc : Scope} {ce : Env} {fp : List Addr} {CX : CXT} (hx : ∀ (E : XK) l H s e s', (∀ a b c, ¬ E a b c) → ¬ CX l H s E e s') : ∀ σ, PassesAt CX (X.blk s H sc ce fp) σ (WE (fun _ _ _ _ => False) σ) := fun σ _ _ _ _ _ _ h => hx _ _ _ _ _ _ (fun _ _ _ z => z) h
theorem cx_false {P : Program} {w : World} : ∀ (E : XK) l H s e s', (∀ a b c, ¬ E a b c) → ¬ L2.CX P w l H s E e s' := fun E l H s e s' hE h => by
  obtain ⟨_, _, _, _, _, _, _, _, _, _, _, _, z⟩ := h
  exact hE _ _ _ z
end
end R

namespace R
open PySem PySem.Spec PyProof.Rows L2

/-! ### statements -/
inductive Fl where
  | nx (ρ : REnv) | rt (d : D) | bk (ρ : REnv) | ct (ρ : REnv) | ex (c : Nat) (w : D) (ρ : REnv)
def PostS (K : PySem.W.Frag) (mg : Str → Option Value) (T : CT) (W : WX) (m p : List Addr) (H : Hp) (r : Res Fl) (E : Ends) : Prop :=
  match r with
  | .ok (.nx ρ) S' => ∀ (σ : L2.St) (m' : List Addr) (H' : Hp), Ext m H m' H' → Wd K mg T m' p S' H' → EnvOk K m' p H' σ ρ → E.nx σ H'
  | .ok (.bk ρ) S' => ∀ (σ : L2.St) (m' : List Addr) (H' : Hp), Ext m H m' H' → Wd K mg T m' p S' H' → EnvOk K m' p H' σ ρ → E.bk σ H'
  | .ok (.ct ρ) S' => ∀ (σ : L2.St) (m' : List Addr) (H' : Hp), Ext m H m' H' → Wd K mg T m' p S' H' → EnvOk K m' p H' σ ρ → E.ct σ H'
  | .ok (.rt d) S' => ∀ (v : V) (m' : List Addr) (H' : Hp), Ext m H m' H' → Wd K mg T m' p S' H' → Rep K m' p H' v d → E.rt v H'
  | .ok (.ex c w ρ) S' => ∀ (x : Str) (fl : List Str) (C dx : Addr) (v : V) (σ : L2.St) (m' : List Addr) (H' : Hp), T[c]? = some (x, fl) → mg x = some (.ref C) → Ext m H m' H' → Wd K mg T m' p S' H' → EnvOk K m' p H' σ ρ → Rep K m' p H' v w → H' dx = some (.xd [("what", v)]) → W (.ref C) (some dx) σ H'
  | .exc _ _ _ => False
  | .stuck => False
structure RS (X : Cx) (T : CT) (W : WX) (ρ : REnv) (st : Stmt) (t : TS) (c : M Fl) : Prop where
  ps : PS X st t
  rd : ∀ {m p : List Addr} {S : Sto} {σ : L2.St} {H : Hp} {E : Ends}, Wd X.K X.mg T m p S H → EnvOk X.K m p H σ ρ → PostS X.K X.mg T W m p H (c S) E → t E σ H
structure RSs (X : Cx) (T : CT) (W : WX) (ρ : REnv) (st : List Stmt) (t : TS) (c : M Fl) : Prop where
  ps : PSs X st t
  rd : ∀ {m p : List Addr} {S : Sto} {σ : L2.St} {H : Hp} {E : Ends}, Wd X.K X.mg T m p S H → EnvOk X.K m p H σ ρ → PostS X.K X.mg T W m p H (c S) E → t E σ H
/-- an expression's outcome within a statement, the slots as they are -/
def lft {α : Type} (ρ : REnv) (c : M α) (k : α → M Fl) : M Fl := fun S => match c S with
  | .ok d S' => k d S'
  | .exc c w S' => .ok (.ex c w ρ) S'
  | .stuck => .stuck
theorem lft_ok {α : Type} {ρ : REnv} {c : M α} {k : α → M Fl} {a : α} {S S' : Sto} (h : c S = .ok a S') : lft ρ c k S = k a S' := by unfold lft; rw [h]
@[simp] theorem lft_ret {α : Type} (ρ : REnv) (a : α) (k : α → M Fl) : lft ρ (ret a) k = k a := rfl
/-- behind a statement -/
def sq (c : M Fl) (k : REnv → M Fl) : M Fl := fun S => match c S with
  | .ok (.nx ρ) S' => k ρ S'
  | r => r
theorem sq_nx {c : M Fl} {k : REnv → M Fl} {ρ : REnv} {S S' : Sto} (h : c S = .ok (.nx ρ) S') : sq c k S = k ρ S' := by unfold sq; rw [h]
theorem sq_rt {c : M Fl} {k : REnv → M Fl} {d : D} {S S' : Sto} (h : c S = .ok (.rt d) S') : sq c k S = .ok (.rt d) S' := by unfold sq; rw [h]
section
variable {K : PySem.W.Frag} {mg : Str → Option Value} {T : CT} {W : WX} {σ : L2.St} {m p m1 m' p' : List Addr} {H H1 H' : Hp} {S S' : Sto} {ρ : REnv}
theorem PostS.ext {r : Res Fl} {E : Ends} (e : Ext m H m1 H1) (h : PostS K mg T W m p H r E) : PostS K mg T W m1 p H1 r E := by
  cases r with
  | ok f S' =>
    cases f with
    | nx ρ => exact fun σ m' H' e' => h σ m' H' (e.trans e')
    | bk ρ => exact fun σ m' H' e' => h σ m' H' (e.trans e')
    | ct ρ => exact fun σ m' H' e' => h σ m' H' (e.trans e')
    | rt ρ => exact fun σ m' H' e' => h σ m' H' (e.trans e')
    | ex c w ρ => exact fun x fl C dx v σ m' H' h1 h2 e' => h x fl C dx v σ m' H' h1 h2 (e.trans e')
  | exc c w S' => exact h
  | stuck => exact h
theorem PostS.lftE {c : M D} {k : D → M Fl} {Q' : VK} {E : Ends} (en : EnvOk K m p H σ ρ) (h : PostS K mg T W m p H (lft ρ c k S) E)
    (hk : ∀ d S1 v m1 H1, Ext m H m1 H1 → Wd K mg T m1 p S1 H1 → Rep K m1 p H1 v d → EnvOk K m1 p H1 σ ρ → PostS K mg T W m1 p H1 (k d S1) E → Q' v H1) : PostE K mg T W σ m p H (c S) Q' := by
  unfold R.lft at h
  cases e : c S with
  | ok d S1 => rw [e] at h; exact fun v m1 H1 e1 w1 r1 => hk d S1 v m1 H1 e1 w1 r1 (en.ext e1) (h.ext e1)
  | exc c w S1 => rw [e] at h; exact fun x fl C dx v m1 H1 h1 h2 e1 w1 r1 hd => h x fl C dx v σ m1 H1 h1 h2 e1 w1 (en.ext e1) r1 hd
  | stuck => rw [e] at h; exact h
theorem PostS.lftT {c : M Bool} {k : Bool → M Fl} {Q' : Bool → Hp → Prop} {E : Ends} (en : EnvOk K m p H σ ρ) (h : PostS K mg T W m p H (lft ρ c k S) E)
    (hk : ∀ d S1 m1 H1, Ext m H m1 H1 → Wd K mg T m1 p S1 H1 → EnvOk K m1 p H1 σ ρ → PostS K mg T W m1 p H1 (k d S1) E → Q' d H1) : PostT K mg T W σ m p H (c S) Q' := by
  unfold R.lft at h
  cases e : c S with
  | ok d S1 => rw [e] at h; exact fun m1 H1 e1 w1 => hk d S1 m1 H1 e1 w1 (en.ext e1) (h.ext e1)
  | exc c w S1 => rw [e] at h; exact fun x fl C dx v m1 H1 h1 h2 e1 w1 r1 hd => h x fl C dx v σ m1 H1 h1 h2 e1 w1 (en.ext e1) r1 hd
  | stuck => rw [e] at h; exact h
theorem PostS.lftA {c : M (List D)} {k : List D → M Fl} {Q' : List V → Hp → Prop} {E : Ends} (en : EnvOk K m p H σ ρ) (h : PostS K mg T W m p H (lft ρ c k S) E)
    (hk : ∀ d S1 v m1 H1, Ext m H m1 H1 → Wd K mg T m1 p S1 H1 → Reps K m1 p H1 v d → EnvOk K m1 p H1 σ ρ → PostS K mg T W m1 p H1 (k d S1) E → Q' v H1) : PostA K mg T W σ m p H (c S) Q' := by
  unfold R.lft at h
  cases e : c S with
  | ok d S1 => rw [e] at h; exact fun v m1 H1 e1 w1 r1 => hk d S1 v m1 H1 e1 w1 r1 (en.ext e1) (h.ext e1)
  | exc c w S1 => rw [e] at h; exact fun x fl C dx v m1 H1 h1 h2 e1 w1 r1 hd => h x fl C dx v σ m1 H1 h1 h2 e1 w1 (en.ext e1) r1 hd
  | stuck => rw [e] at h; exact h
/-- the first of two statements -/
theorem PostS.sq {c : M Fl} {k : REnv → M Fl} {E : Ends} {nx : L2.St → Hp → Prop} (h : PostS K mg T W m p H (sq c k S) E)
    (hk : ∀ ρ S1 σ m1 H1, Ext m H m1 H1 → Wd K mg T m1 p S1 H1 → EnvOk K m1 p H1 σ ρ → PostS K mg T W m1 p H1 (k ρ S1) E → nx σ H1) : PostS K mg T W m p H (c S) { E with nx := nx } := by
  unfold R.sq at h
  cases e : c S with
  | ok f S1 =>
    rw [e] at h
    cases f with
    | nx ρ => exact fun σ m1 H1 e1 w1 en => hk ρ S1 σ m1 H1 e1 w1 en (h.ext e1)
    | _ => exact h
  | exc c w S1 => rw [e] at h; exact h
  | stuck => rw [e] at h; exact h
theorem PostS.here {E : Ends} (h : PostS K mg T W m p H (.ok (.nx ρ) S) E) (w : Wd K mg T m p S H) (en : EnvOk K m p H σ ρ) : E.nx σ H := h σ m H Ext.refl w en
end
section
variable {X : Cx} {T : CT} {W : WX} {ρ : REnv} {a b e c : Expr} {ta tb te tc : TE} {ca cb ce cc : M D} {pos p0 : Pos} {es : List Expr} {tr : TA} {cr : M (List D)} {st : Stmt} {sts : List Stmt} {t u : TS} {cs : M Fl} {ks : REnv → M Fl}
theorem RSs.nil : RSs X T W ρ [] tNext (ret (.nx ρ)) := ⟨pss_nil, fun w en h => h.here w en⟩
theorem RSs.cons (h1 : RS X T W ρ st t cs) (h2 : ∀ ρ, RSs X T W ρ sts u (ks ρ)) : RSs X T W ρ (st :: sts) (tSeq t u) (sq cs ks) :=
  ⟨pss_cons h1.ps (h2 ρ).ps, fun w en h => h1.rd w en (h.sq fun ρ' _ _ _ _ _ w1 en1 h1' => (h2 ρ').rd w1 en1 h1')⟩
theorem RSs.last (h1 : RS X T W ρ st t cs) : RSs X T W ρ [st] t cs := ⟨pss_one h1.ps, h1.rd⟩
theorem RS.pass : RS X T W ρ (.Pass pos) tNext (ret (.nx ρ)) := ⟨ps_pass, fun w en h => h.here w en⟩
theorem RS.brk : RS X T W ρ (.Break pos) tBreak (ret (.bk ρ)) := ⟨ps_break, fun {m p S σ H E} w en h => h σ m H Ext.refl w en⟩
theorem RS.cnt : RS X T W ρ (.Continue pos) tCont (ret (.ct ρ)) := ⟨ps_continue, fun {m p S σ H E} w en h => h σ m H Ext.refl w en⟩
theorem RS.doc {x j pos'} : RS X T W ρ (.Expr (.Constant (.str x) j pos) pos') tNext (ret (.nx ρ)) := ⟨ps_doc, fun w en h => h.here w en⟩
def drp (ρ : REnv) (c : M D) : M Fl := lft ρ c fun _ => ret (.nx ρ)
theorem RS.expr (ha : RE X T W ρ a ta ca) (hs : swapsWith a none pos.line X.env = pure false := by rfl) : RS X T W ρ (.Expr a pos) (tDrop ta) (drp ρ ca) :=
  ⟨ps_expr ha.pe hs, fun w en h => ha.rd w en (h.lftE en fun _ _ _ _ _ _ w1 _ en1 h1 => h1.here w1 en1)⟩
def rtM (ρ : REnv) (c : M D) : M Fl := lft ρ c fun d => ret (.rt d)
theorem RS.ret (ha : RE X T W ρ a ta ca) : RS X T W ρ (.Return (some a) pos) (tRet ta) (rtM ρ ca) :=
  ⟨ps_ret ha.pe, fun w en h => ha.rd w en (h.lftE en fun _ _ v m1 H1 _ w1 r1 _ h1 => h1 v m1 H1 Ext.refl w1 r1)⟩
theorem RS.retN : RS X T W ρ (.Return none pos) tRetN (R.ret (.rt .non)) := ⟨ps_retN, fun {m p S σ H E} w en h => h .non m H Ext.refl w .non⟩
def ifS (ρ : REnv) (c : M Bool) (x y : M Fl) : M Fl := lft ρ c fun b => if b then x else y
theorem RS.ifs {tA : TT} {cA : M Bool} {xs ys : List Stmt} {cx cy : M Fl} (hc : RT X T W ρ c tA cA) (hx : RSs X T W ρ xs t cx) (hy : RSs X T W ρ ys u cy) : RS X T W ρ (.If c xs ys pos) (tIfS tA t u) (ifS ρ cA cx cy) :=
  ⟨ps_if hc.pt hx.ps hy.ps, fun w en h => hc.rd w en (h.lftT en fun d _ _ _ _ w1 en1 h1 => by
    cases d with
    | true => exact hx.rd w1 en1 h1
    | false => exact hy.rd w1 en1 h1)⟩
/-! targets -/
def PostG (K : PySem.W.Frag) (mg : Str → Option Value) (T : CT) (is : List Nat) (σ : L2.St) (m p : List Addr) (H : Hp) (r : Res REnv) (Q : L2.St → Hp → Prop) : Prop :=
  match r with
  | .ok ρ S' => ∀ (σ' : L2.St) (m' : List Addr) (H' : Hp), Ext m H m' H' → Wd K mg T m' p S' H' → EnvOk K m' p H' σ' ρ → (∀ vs : List Nat, (∀ i ∈ is, i ∈ vs) → wipe σ' vs = wipe σ vs) → Q σ' H'
  | .exc _ _ _ => False
  | .stuck => False
structure RG (X : Cx) (T : CT) (is : List Nat) (tg : Expr) (t : TG) (g : D → REnv → M REnv) : Prop where
  pg : PG X tg t
  rd : ∀ {m p : List Addr} {S : Sto} {σ : L2.St} {H : Hp} {ρ : REnv} {v : V} {d : D} {Q : L2.St → Hp → Prop}, Wd X.K X.mg T m p S H → EnvOk X.K m p H σ ρ → Rep X.K m p H v d → PostG X.K X.mg T is σ m p H (g d ρ S) Q → t v σ H Q
def gN (i : Nat) (d : D) (ρ : REnv) : M REnv := R.ret (ρ.set i (some d))
theorem wipe_set {σ : L2.St} {i : Nat} {o : Option V} : ∀ {vs : List Nat}, i ∈ vs → wipe (σ.set i o) vs = wipe σ vs
  | [], h => by simp at h
  | v :: vs, h => by
    unfold wipe
    by_cases hi : i ∈ vs
    · rw [wipe_set hi]
    · have e : i = v := by rcases List.mem_cons.mp h with z | z; exact z; exact absurd z hi
      subst e
      have key : ∀ ws : List Nat, i ∉ ws → wipe (σ.set i o) ws = (wipe σ ws).set i o := by
        intro ws
        induction ws with
        | nil => intro _; rfl
        | cons w ws ih =>
          intro hw
          unfold wipe
          rw [ih fun z => hw (List.mem_cons_of_mem _ z), List.set_comm]
          exact fun z => hw (by rw [z]; exact List.mem_cons_self)
      rw [key vs hi, List.set_set]
theorem RG.name {i : Nat} {tg : Expr} (h : PG X tg (gName i)) : RG X T [i] tg (gName i) (gN i) :=
  ⟨h, fun {m p S σ H ρ v d Q} w en r h => h (σ.set i (some v)) m H Ext.refl w (en.set r) fun vs hv => wipe_set (hv i (by simp))⟩
/-- several targets -/
structure RGs (X : Cx) (T : CT) (is : List Nat) (tg : List Expr) (t : TGs) (g : List D → REnv → M REnv) : Prop where
  pg : PGs X tg t
  rd : ∀ {m p : List Addr} {S : Sto} {σ : L2.St} {H : Hp} {ρ : REnv} {v : List V} {d : List D} {Q : L2.St → Hp → Prop}, Wd X.K X.mg T m p S H → EnvOk X.K m p H σ ρ → Reps X.K m p H v d → PostG X.K X.mg T is σ m p H (g d ρ S) Q → t v σ H Q
def gsN : List D → REnv → M REnv
  | [], ρ => R.ret ρ
  | _, _ => stk
def gsC (g : D → REnv → M REnv) (gs : List D → REnv → M REnv) : List D → REnv → M REnv
  | d :: ds, ρ => bnd (g d ρ) fun ρ' => gs ds ρ'
  | [], _ => stk
theorem RGs.nil : RGs X T [] [] gNil gsN := ⟨pgs_nil, fun {m p S σ H ρ v d Q} w en r h => by
  cases r with
  | nil => exact ⟨rfl, h σ m H Ext.refl w en fun _ _ => rfl⟩
  | cons _ _ => exact False.elim h⟩
theorem PostG.ext {K : PySem.W.Frag} {mg : Str → Option Value} {is js : List Nat} {σ σ1 : L2.St} {m p m1 : List Addr} {H H1 : Hp} {r : Res REnv} {Q : L2.St → Hp → Prop} (e : Ext m H m1 H1) (hw : ∀ vs : List Nat, (∀ i ∈ is, i ∈ vs) → wipe σ1 vs = wipe σ vs) (h : PostG K mg T (is ++ js) σ m p H r Q) : PostG K mg T js σ1 m1 p H1 r Q := by
  cases r with
  | ok d S' => exact fun v m' H' e' w' en' hv => h v m' H' (e.trans e') w' en' fun vs hvs => (hv vs fun i hi => hvs i (List.mem_append_right _ hi)).trans (hw vs fun i hi => hvs i (List.mem_append_left _ hi))
  | exc c w S' => exact h
  | stuck => exact h
theorem RGs.cons {is js : List Nat} {tg : Expr} {tgs : List Expr} {t : TG} {u : TGs} {g : D → REnv → M REnv} {gs : List D → REnv → M REnv} (h1 : RG X T is tg t g) (h2 : RGs X T js tgs u gs)
    (hs : (assignEach (tg :: tgs) X.env).map (·.2) = assign tg X.env :: (assignEach tgs X.env).map (·.2) := by rfl) : RGs X T (is ++ js) (tg :: tgs) (gCons t u) (gsC g gs) :=
  ⟨pgs_cons h1.pg h2.pg hs, fun {m p S σ H ρ v d Q} w en r h => by
    cases r with
    | nil => exact False.elim h
    | cons r1 r2 =>
      refine ⟨_, _, rfl, h1.rd w en r1 ?_⟩
      unfold gsC R.bnd at h
      dsimp only at h
      cases q : g _ ρ S with
      | ok ρ1 S1 =>
        rw [q] at h
        exact fun σ1 m1 H1 e1 w1 en1 hw1 => h2.rd w1 en1 (r2.ext e1) (PostG.ext e1 hw1 h)
      | exc _ _ _ => rw [q] at h; exact h
      | stuck => rw [q] at h; exact h⟩
def gT (n : Nat) (gs : List D → REnv → M REnv) (d : D) (ρ : REnv) : M REnv := match d with
  | .tup ds => if ds.length = n then gs ds ρ else stk
  | _ => stk
theorem RG.tup (K : PySem.W.Frag) {is : List Nat} {tgs : List Expr} {k n : Nat} {u : TGs} {gs : List D → REnv → M REnv} (hc : X.calm = true) (h : RGs X T is tgs u gs)
    (hn : (assignEach tgs X.env).length = n := by rfl) (hst : (assignEach tgs X.env).findIdx? (·.1) = none := by rfl) (hK : X.K = K := by rfl) : RG X T is (.Tuple tgs k pos) (gTup K n u) (gT n gs) := by
  subst hK
  exact ⟨pg_tup hc h.pg hn hst, fun {m p S σ H ρ v d Q} w en r hh => by
    unfold gT at hh
    split at hh
    · cases r with
      | tup r1 r2 =>
        split at hh
        · rename_i hz
          exact ⟨_, _, rfl, r1.sq, by rw [r2.length]; exact hz, h.rd w en r2 hh⟩
        · exact False.elim hh
    · exact False.elim hh⟩
/-! assignments -/
theorem PostS.gNx {K : PySem.W.Frag} {mg : Str → Option Value} {is : List Nat} {σ : L2.St} {m p : List Addr} {H : Hp} {r : M REnv} {S : Sto} {E : Ends} (h : PostS K mg T W m p H (lft ρ r (fun ρ => R.ret (.nx ρ)) S) E) (nx : ∀ c w S', r S ≠ .exc c w S') :
    PostG K mg T is σ m p H (r S) E.nx := by
  unfold lft at h
  cases q : r S with
  | ok ρ1 S1 => rw [q] at h; exact fun σ' m' H' e' w' en' _ => h σ' m' H' e' w' en'
  | exc c w S1 => exact absurd q (nx c w S1)
  | stuck => rw [q] at h; exact h
/-- a target lets no exception out -/
def gX (c : M REnv) : M Fl := fun S => match c S with
  | .ok ρ S' => .ok (.nx ρ) S'
  | _ => .stuck
theorem PostS.g {K : PySem.W.Frag} {mg : Str → Option Value} {is : List Nat} {σ : L2.St} {m p : List Addr} {H : Hp} {r : M REnv} {S : Sto} {E : Ends} (h : PostS K mg T W m p H (gX r S) E) : PostG K mg T is σ m p H (r S) E.nx := by
  unfold gX at h
  cases q : r S with
  | ok ρ1 S1 => rw [q] at h; exact fun σ' m' H' e' w' en' _ => h σ' m' H' e' w' en'
  | exc c w S1 => rw [q] at h; exact h
  | stuck => rw [q] at h; exact h
def asg (g : D → REnv → M REnv) (ρ : REnv) (c : M D) : M Fl := lft ρ c fun d => gX (g d ρ)
theorem RS.asg {is : List Nat} {tg : Expr} {t : TG} {g : D → REnv → M REnv} (ha : RE X T W ρ a ta ca) (hg : RG X T is tg t g) (hs : swapsWithSole [tg] a pos.line X.env = pure false := by rfl) (hw : swappedStores [tg] a X.env = pure none := by rfl)
    (h1 : (assignEach [tg] X.env).map (·.2) = [assign tg X.env] := by rfl) : RS X T W ρ (.Assign [tg] a pos) (tAsg ta t) (asg g ρ ca) :=
  ⟨ps_asg ha.pe hg.pg hs hw h1, fun w en h => ha.rd w en (h.lftE en fun _ _ _ _ _ _ w1 r1 en1 h1 => hg.rd w1 en1 r1 h1.g)⟩
theorem RS.set {i : Nat} {x : Str} {pos' : Pos} (hN : X.N.Nodup) (hi : X.N[i]? = some x) (hx : Loc X.env.scope x) (ha : RE X T W ρ a ta ca) (hs : swapsWith a (some (.Name x pos')) pos.line X.env = pure false := by rfl) (hf : X.fn x = true ∨ X.env.scope.names.lookup x = some .local := by first | exact .inl rfl | exact .inr rfl | assumption) :
    RS X T W ρ (.Assign [.Name x pos'] a pos) (tAsg ta (gName i)) (R.asg (gN i) ρ ca) :=
  ⟨ps_set hN hi hx ha.pe hs hf, fun w en h => ha.rd w en (h.lftE en fun _ _ v m1 H1 _ w1 r1 en1 h1 => h1 _ m1 H1 Ext.refl w1 (en1.set r1))⟩
/-- a, b = x, y -/
def par (i j : Nat) (ρ : REnv) (c : M (List D)) : M Fl := lft ρ c fun ds => match ds with
  | [x, y] => R.ret (.nx ((ρ.set i (some x)).set j (some y)))
  | _ => stk
theorem RS.par {i j : Nat} {x y : Str} {px py pt : Pos} {kt k2 pt2} (hc : X.calm = true) (hN : X.N.Nodup) (hi : X.N[i]? = some x) (hj : X.N[j]? = some y) (hij : i ≠ j)
    (hx : X.env.scope.names.lookup x = some .local) (hy : X.env.scope.names.lookup y = some .local) (ha : RA X T W ρ [a, b] tr cr)
    (hw : swappedStores [.Tuple [.Name x px, .Name y py] kt pt] (.Tuple [a, b] k2 pt2) X.env = pure (some [x, y]))
    (hs : swapsWithSole [.Tuple [.Name x px, .Name y py] kt pt] (.Tuple [a, b] k2 pt2) pos.line X.env = pure false := by rfl) :
    RS X T W ρ (.Assign [.Tuple [.Name x px, .Name y py] kt pt] (.Tuple [a, b] k2 pt2) pos) (tPar i j tr) (R.par i j ρ cr) :=
  ⟨ps_par hc hN hi hj hij hx hy ha.pa hw hs, fun w en h => ha.rd w en (h.lftA en fun ds _ vs m1 H1 _ w1 r1 en1 h1 => by
    split at h1
    · cases r1 with
      | cons r1 r2 =>
        cases r2 with
        | cons r2 r3 =>
          cases r3
          exact ⟨_, _, rfl, h1 _ m1 H1 Ext.refl w1 ((en1.set r1).set r2)⟩
    · exact False.elim h1)⟩
def par3 (i j l : Nat) (ρ : REnv) (c : M (List D)) : M Fl := lft ρ c fun ds => match ds with
  | [x, y, z] => R.ret (.nx (((ρ.set i (some x)).set j (some y)).set l (some z)))
  | _ => stk
end
end R

namespace R
open PySem PySem.Spec PyProof.Rows L2

/-! ### what is walked -/
def PNew (H : Hp) (p p1 : List Addr) : Prop := ∀ a, a ∈ p1 → a ∈ p ∨ H a = none
theorem PNew.refl {H : Hp} {p : List Addr} : PNew H p p := fun _ h => .inl h
section
variable {K : PySem.W.Frag} {m m1 p p1 : List Addr} {H H1 : Hp}
theorem TupAt.mv (e : Ext m H m1 H1) (n : PNew H p p1) {a : Addr} {xs : List V} (h : TupAt K m p H a xs) : TupAt K m1 p1 H1 a xs := by
  rcases h with ⟨h1, h2, h3⟩ | h
  · refine .inl ⟨(e.rd h1 (.inl h3)).1, fun z => ?_, e.out _ _ h1 h3⟩
    rcases n a z with q | q
    · exact h2 q
    · rw [q] at h3; cases h3
  · exact .inr h
theorem LstAt.mv (e : Ext m H m1 H1) (n : PNew H p p1) {a : Addr} {xs : List V} (h : LstAt m p H a xs) : LstAt m1 p1 H1 a xs := by
  obtain ⟨h1, h2, h3⟩ := h
  refine ⟨(e.rd h1 (.inl h3)).1, fun z => ?_, e.out _ _ h1 h3⟩
  rcases n a z with q | q
  · exact h2 q
  · rw [q] at h3; cases h3
theorem RolAt.mv (e : Ext m H m1 H1) (n : PNew H p p1) {a : Addr} {xs : List V} (h : RolAt K m p H a xs) : RolAt K m1 p1 H1 a xs := by
  rcases h with ⟨h1, h2, h3⟩ | h
  · obtain ⟨g1, g2⟩ := e.rd h1 h3
    refine .inl ⟨g1, fun z => ?_, g2⟩
    rcases n a z with q | q
    · exact h2 q
    · rcases h3 with h3 | ⟨_, h3⟩ <;> (rw [q] at h3; cases h3)
  · exact .inr h
theorem Rep.mv (e : Ext m H m1 H1) (n : PNew H p p1) {v : V} {d : D} (h : Rep K m p H v d) : Rep K m1 p1 H1 v d := Rep.move (fun _ _ => TupAt.mv e n) (fun _ _ => LstAt.mv e n) (fun _ _ => RolAt.mv e n) e.pre d v h
theorem Reps.mv (e : Ext m H m1 H1) (n : PNew H p p1) {v : List V} {d : List D} (h : Reps K m p H v d) : Reps K m1 p1 H1 v d := Reps.move (fun _ _ => TupAt.mv e n) (fun _ _ => LstAt.mv e n) (fun _ _ => RolAt.mv e n) e.pre d v h
/-- fewer private places -/
theorem Rep.less (n : ∀ a, a ∈ p1 → a ∈ p) {v : V} {d : D} (h : Rep K m p H v d) : Rep K m p1 H v d := Rep.move (fun _ _ h => by
    rcases h with ⟨h1, h2, h3⟩ | h
    · exact .inl ⟨h1, fun z => h2 (n _ z), h3⟩
    · exact .inr h) (fun _ _ h => ⟨h.1, fun z => h.2.1 (n _ z), h.2.2⟩) (fun _ _ h => by
    rcases h with ⟨h1, h2, h3⟩ | h
    · exact .inl ⟨h1, fun z => h2 (n _ z), h3⟩
    · exact .inr h) (fun _ _ h => h) d v h
theorem Reps.less (n : ∀ a, a ∈ p1 → a ∈ p) {v : List V} {d : List D} (h : Reps K m p H v d) : Reps K m p1 H v d := Reps.move (fun _ _ h => by
    rcases h with ⟨h1, h2, h3⟩ | h
    · exact .inl ⟨h1, fun z => h2 (n _ z), h3⟩
    · exact .inr h) (fun _ _ h => ⟨h.1, fun z => h.2.1 (n _ z), h.2.2⟩) (fun _ _ h => by
    rcases h with ⟨h1, h2, h3⟩ | h
    · exact .inl ⟨h1, fun z => h2 (n _ z), h3⟩
    · exact .inr h) (fun _ _ h => h) d v h
theorem KRep.less (n : ∀ a, a ∈ p1 → a ∈ p) : ∀ {v : List (Key × V)} {d : List (Key × D)}, KRep K m p H v d → KRep K m p1 H v d
  | _, _, .nil => .nil
  | _, _, .cons h t => .cons (h.less n) (KRep.less n t)
theorem CelOk.less {mg : Str → Option Value} {T : CT} {a : Addr} {c : Cell} (n : ∀ a, a ∈ p1 → a ∈ p) (h : CelOk K mg T m p H a c) : CelOk K mg T m p1 H a c := by
  cases c with
  | lst ds => obtain ⟨xs, e1, e2⟩ := h; exact ⟨xs, e1, e2.less n⟩
  | dict kvs => obtain ⟨xs, e1, e2⟩ := h; exact ⟨xs, e1, e2.less n⟩
  | ins c fs => obtain ⟨x, fl, C, dx, us, e0, e1, e2, e3, e4⟩ := h; exact ⟨x, fl, C, dx, us, e0, e1, e2, e3, e4.less n⟩
theorem Wd.less {mg : Str → Option Value} {T : CT} {S : Sto} (w : Wd K mg T m p S H) (n : ∀ a, a ∈ p1 → a ∈ p) : Wd K mg T m p1 S H :=
  ⟨w.len, w.nd, fun i a c e1 e2 => (w.cel i a c e1 e2).less n, fun a h => w.prv a (n a h)⟩
theorem KRep.mv (e : Ext m H m1 H1) (n : PNew H p p1) : ∀ {v : List (Key × V)} {d : List (Key × D)}, KRep K m p H v d → KRep K m1 p1 H1 v d
  | _, _, .nil => .nil
  | _, _, .cons h t => .cons (h.mv e n) (KRep.mv e n t)
theorem CelOk.mv {mg : Str → Option Value} {T : CT} {a : Addr} {c : Cell} (e : Ext m H m1 H1) (n : PNew H p p1) (ha : H1 a = H a) (h : CelOk K mg T m p H a c) : CelOk K mg T m1 p1 H1 a c := by
  cases c with
  | lst ds => obtain ⟨xs, e1, e2⟩ := h; exact ⟨xs, ha.trans e1, e2.mv e n⟩
  | dict kvs => obtain ⟨xs, e1, e2⟩ := h; exact ⟨xs, ha.trans e1, e2.mv e n⟩
  | ins c fs => obtain ⟨x, fl, C, dx, us, e0, e1, e2, e3, e4⟩ := h; exact ⟨x, fl, C, dx, us, e0, e1, ha.trans e2, e3, e4.mv e n⟩
end
def IterOk (K : PySem.W.Frag) (mg : Str → Option Value) (T : CT) (m p : List Addr) (H : Hp) (J : It) (ds : List D) : Prop :=
  ∀ (m1 p1 : List Addr) (S1 : Sto) (H1 : Hp) (i : Nat), Ext m H m1 H1 → PNew H p p1 → Wd K mg T m1 p1 S1 H1 →
    (∀ d, ds[i]? = some d → J.go i H1 ∧ ∀ x H2, J.yld i H1 x H2 → Ext m1 H1 m1 H2 ∧ Wd K mg T m1 p1 S1 H2 ∧ Rep K m1 p1 H2 x d) ∧ (ds[i]? = none → J.stop i H1)
def PostI (K : PySem.W.Frag) (mg : Str → Option Value) (T : CT) (W : WX) (σ : L2.St) (m p : List Addr) (H : Hp) (r : Res (List D)) (R : It → Hp → Prop) : Prop :=
  match r with
  | .ok ds S' => ∀ (J : It) (m' : List Addr) (H' : Hp), Ext m H m' H' → Wd K mg T m' p S' H' → IterOk K mg T m' p H' J ds → R J H'
  | .exc c w S' => ∀ (x : Str) (fl : List Str) (C dx : Addr) (v : V) (m' : List Addr) (H' : Hp), T[c]? = some (x, fl) → mg x = some (.ref C) → Ext m H m' H' → Wd K mg T m' p S' H' → Rep K m' p H' v w → H' dx = some (.xd [("what", v)]) → W (.ref C) (some dx) σ H'
  | .stuck => False
structure RI (X : Cx) (T : CT) (W : WX) (ρ : REnv) (tg it : Expr) (wi : TI) (c : M (List D)) : Prop where
  pi : PI X tg it wi
  rd : ∀ {m p : List Addr} {S : Sto} {σ : L2.St} {H : Hp} {R : It → Hp → Prop}, Wd X.K X.mg T m p S H → EnvOk X.K m p H σ ρ → PostI X.K X.mg T W σ m p H (c S) R → wi σ H R
section
variable {X : Cx} {T : CT} {W : WX} {ρ : REnv} {a b e c tg : Expr} {ta tb te tc : TE} {ca cb ce cc : M D} {pos p0 : Pos} {es : List Expr} {tr : TA} {cr : M (List D)}
theorem PI.or {it : Expr} {w1 w2 : TI} (h1 : PI X tg it w1) (h2 : PI X tg it w2) : PI X tg it (fun σ H R => w1 σ H R ∨ w2 σ H R) :=
  ⟨fun pins s σ H R I h => h.elim (h1.run pins s σ H R I) (h2.run pins s σ H R I)⟩
theorem PostI.ext {K : PySem.W.Frag} {mg : Str → Option Value} {σ : L2.St} {m m1 p : List Addr} {H H1 : Hp} {r : Res (List D)} {R : It → Hp → Prop} (e : Ext m H m1 H1) (h : PostI K mg T W σ m p H r R) : PostI K mg T W σ m1 p H1 r R := by
  cases r with
  | ok d S' => exact fun v m' H' e' => h v m' H' (e.trans e')
  | exc c w S' => exact fun x fl C dx v m' H' h1 h2 e' => h x fl C dx v m' H' h1 h2 (e.trans e')
  | stuck => exact h
theorem PostI.bndE {K : PySem.W.Frag} {mg : Str → Option Value} {σ : L2.St} {m p : List Addr} {H : Hp} {S : Sto} {c : M D} {k : D → M (List D)} {R : It → Hp → Prop} {Q : VK} (h : PostI K mg T W σ m p H (bnd c k S) R)
    (hk : ∀ d S1 v m1 H1, Ext m H m1 H1 → Wd K mg T m1 p S1 H1 → Rep K m1 p H1 v d → PostI K mg T W σ m1 p H1 (k d S1) R → Q v H1) : PostE K mg T W σ m p H (c S) Q := by
  unfold _root_.R.bnd at h
  cases e : c S with
  | ok d S1 => rw [e] at h; exact fun v m1 H1 e1 w1 r1 => hk d S1 v m1 H1 e1 w1 r1 (h.ext e1)
  | exc c w S1 => rw [e] at h; exact h
  | stuck => rw [e] at h; exact h
theorem PostI.bndA {K : PySem.W.Frag} {mg : Str → Option Value} {σ : L2.St} {m p : List Addr} {H : Hp} {S : Sto} {c : M (List D)} {k : List D → M (List D)} {R : It → Hp → Prop} {Q : List V → Hp → Prop} (h : PostI K mg T W σ m p H (bnd c k S) R)
    (hk : ∀ d S1 v m1 H1, Ext m H m1 H1 → Wd K mg T m1 p S1 H1 → Reps K m1 p H1 v d → PostI K mg T W σ m1 p H1 (k d S1) R → Q v H1) : PostA K mg T W σ m p H (c S) Q := by
  unfold _root_.R.bnd at h
  cases e : c S with
  | ok d S1 => rw [e] at h; exact fun v m1 H1 e1 w1 r1 => hk d S1 v m1 H1 e1 w1 r1 (h.ext e1)
  | exc c w S1 => rw [e] at h; exact h
  | stuck => rw [e] at h; exact h
theorem iter_list {K : PySem.W.Frag} {mg : Str → Option Value} {m p : List Addr} {H : Hp} {a : Addr} {xs : List V} {ds : List D} (hq : RolAt K m p H a xs) (hr : Reps K m p H xs ds) : IterOk K mg T m p H (Itl K a) ds := by
  intro m1 p1 S1 H1 i e n w
  have hq1 := hq.mv e n
  have hr1 := hr.mv e n
  refine ⟨fun d hd => ?_, fun hd => ⟨xs, hq1.sq, ?_⟩⟩
  · obtain ⟨v, e1, r1⟩ := hr1.get hd
    refine ⟨⟨xs, v, hq1.sq, e1⟩, fun x H2 hy => ?_⟩
    obtain ⟨rfl, hy⟩ := hy
    have := (hy xs hq1.sq).symm.trans e1
    cases this
    exact ⟨Ext.refl, w, r1⟩
  · rw [hr1.length]; exact List.getElem?_eq_none_iff.mp hd
theorem iter_tup {K : PySem.W.Frag} {mg : Str → Option Value} {m p : List Addr} {H : Hp} {a : Addr} {xs : List V} {ds : List D} (hq : TupAt K m p H a xs) (hr : Reps K m p H xs ds) : IterOk K mg T m p H (Itt K a) ds := by
  intro m1 p1 S1 H1 i e n w
  have hq1 := hq.mv e n
  have hr1 := hr.mv e n
  refine ⟨fun d hd => ?_, fun hd => ⟨xs, hq1.sq, ?_⟩⟩
  · obtain ⟨v, e1, r1⟩ := hr1.get hd
    refine ⟨⟨xs, v, hq1.sq, e1⟩, fun x H2 hy => ?_⟩
    obtain ⟨rfl, hy⟩ := hy
    have := (hy xs hq1.sq).symm.trans e1
    cases this
    exact ⟨Ext.refl, w, r1⟩
  · rw [hr1.length]; exact List.getElem?_eq_none_iff.mp hd
theorem LstAt.rol {K : PySem.W.Frag} {m p : List Addr} {H : Hp} {a : Addr} {xs : List V} (h : LstAt m p H a xs) : RolAt K m p H a xs := .inl ⟨h.1, h.2.1, .inl h.2.2⟩
def itemsM (d : D) : M (List D) := match d with
  | .lst xs => ret xs
  | .rol xs => ret xs
  | .tup xs => ret xs
  | _ => stk
theorem RI.seq (K : PySem.W.Frag) (ha : RE X T W ρ a ta ca) (hK : X.K = K := by rfl) : RI X T W ρ tg a (fun σ H R => iList K ta σ H R ∨ iTup K ta σ H R) (bnd ca itemsM) := by
  subst hK
  exact ⟨PI.or (pi_list ha.pe) (pi_tup ha.pe), fun {m p S σ H R} w en h => by
    unfold bnd at h
    cases q : ca S with
    | ok d S1 =>
      rw [q] at h
      have key : (∃ xs, d = .tup xs) ∨ ¬ ∃ xs, d = .tup xs := Classical.em _
      rcases key with ⟨xs, rfl⟩ | nt
      · refine .inr (ha.rd w en ?_)
        rw [q]
        intro v m1 H1 e1 w1 r1
        cases r1 with
        | tup h1 h2 => exact ⟨_, rfl, ⟨_, h1.sq⟩, h _ m1 H1 e1 w1 (iter_tup h1 h2)⟩
      · refine .inl (ha.rd w en ?_)
        rw [q]
        intro v m1 H1 e1 w1 r1
        cases r1 with
        | tup h1 h2 => exact absurd ⟨_, rfl⟩ nt
        | lst h1 h2 => exact ⟨_, rfl, ⟨_, .of h1.2.2⟩, h _ m1 H1 e1 w1 (iter_list h1.rol h2)⟩
        | rol h1 h2 => exact ⟨_, rfl, ⟨_, h1.sq⟩, h _ m1 H1 e1 w1 (iter_list h1 h2)⟩
        | _ => exact False.elim h
    | exc c u S1 =>
      rw [q] at h
      refine .inl (ha.rd w en ?_)
      rw [q]
      exact h
    | stuck => rw [q] at h; exact False.elim h⟩
def charsD (x : Str) : List D := x.cps.toList.map fun c => .str ⟨#[c]⟩
def signsM (d : D) : M (List D) := match d with
  | .str x => ret (charsD x)
  | _ => stk
theorem RI.str (ha : RE X T W ρ a ta ca) : RI X T W ρ tg a (iStr ta) (bnd ca signsM) :=
  ⟨pi_str ha.pe, fun {m p S σ H R} w en h => ha.rd w en (h.bndE fun d S1 v m1 H1 e1 w1 r1 h1 => by
    cases r1 with
    | str x =>
      refine ⟨x, rfl, h1 _ m1 H1 Ext.refl w1 fun m2 p2 S2 H2 i e2 n2 w2 => ⟨fun d hd => ?_, fun hd => ?_⟩⟩
      · unfold charsD at hd
        rw [List.getElem?_map] at hd
        cases q : x.cps.toList[i]? with
        | none => rw [q] at hd; cases hd
        | some c =>
          rw [q] at hd
          cases hd
          have hq : x.cps[i]? = some c := by rw [← Array.getElem?_toList]; exact q
          refine ⟨(Array.getElem?_eq_some_iff.mp hq).1, fun y H3 hy => ?_⟩
          obtain ⟨rfl, c', e', rfl⟩ := hy
          rw [hq] at e'
          cases e'
          exact ⟨Ext.refl, w2, .str _⟩
      · unfold charsD at hd
        have := List.getElem?_eq_none_iff.mp hd
        rw [List.length_map, Array.length_toList] at this
        exact this
    | _ => exact False.elim h1)⟩
def rangeD (lo : Int) (n : Nat) : List D := (List.range n).map fun i => .int (lo + (i : Nat))
theorem iter_range {K : PySem.W.Frag} {mg : Str → Option Value} {m p : List Addr} {H : Hp} {lo : Int} {n : Nat} : IterOk K mg T m p H (Itr lo n) (rangeD lo n) := by
  intro m1 p1 S1 H1 i e _ w
  unfold rangeD
  refine ⟨fun d hd => ?_, fun hd => ?_⟩
  · rw [List.getElem?_map] at hd
    cases q : (List.range n)[i]? with
    | none => rw [q] at hd; cases hd
    | some j =>
      rw [q] at hd
      cases hd
      have hi : i < n := by have := (List.getElem?_eq_some_iff.mp q).1; simpa using this
      have hj : j = i := by rw [List.getElem?_range hi] at q; cases q; rfl
      subst hj
      refine ⟨hi, fun y H3 hy => ?_⟩
      obtain ⟨rfl, rfl⟩ := hy
      exact ⟨Ext.refl, w, .int _⟩
  · have := List.getElem?_eq_none_iff.mp hd
    rw [List.length_map, List.length_range] at this
    exact this
def range1M (ds : List D) : M (List D) := match ds with
  | [.int j] => if -(2 ^ 62) ≤ j ∧ j < 2 ^ 62 then ret (rangeD 0 j.toNat) else stk
  | _ => stk
theorem RI.range1 (hg : Gl X "range") (hm : X.mg "range" = none) (ha : RA X T W ρ [a] tr cr) (hs : starEach [a] X.env = [(false, eval a X.env)] := by rfl) : RI X T W ρ tg (.Call (.Name "range" p0) [a] [] pos) (iRng1 tr) (bnd cr range1M) :=
  ⟨pi_range1 hg hm ha.pa hs, fun {m p S σ H R} w en h => ha.rd w en (h.bndA fun d S1 v m1 H1 e1 w1 r1 h1 => by
    unfold range1M at h1
    split at h1
    · cases r1 with
      | cons r1 r2 =>
        cases r1
        cases r2
        split at h1
        · rename_i hz
          exact ⟨_, rfl, hz.1, hz.2, h1 _ m1 H1 Ext.refl w1 iter_range⟩
        · exact False.elim h1
    · exact False.elim h1)⟩
def range2M (ds : List D) : M (List D) := match ds with
  | [.int i, .int j] => if -(2 ^ 62) ≤ i ∧ i < 2 ^ 62 ∧ -(2 ^ 62) ≤ j ∧ j < 2 ^ 62 then ret (rangeD i (j - i).toNat) else stk
  | _ => stk
theorem RI.range2 (hg : Gl X "range") (hm : X.mg "range" = none) (ha : RA X T W ρ [a, b] tr cr) (hs : starEach [a, b] X.env = [(false, eval a X.env), (false, eval b X.env)] := by rfl) (hs2 : starEach [b] X.env = [(false, eval b X.env)] := by rfl) : RI X T W ρ tg (.Call (.Name "range" p0) [a, b] [] pos) (iRng2 tr) (bnd cr range2M) :=
  ⟨pi_range2 hg hm ha.pa hs hs2, fun {m p S σ H R} w en h => ha.rd w en (h.bndA fun d S1 v m1 H1 e1 w1 r1 h1 => by
    unfold range2M at h1
    split at h1
    · cases r1 with
      | cons r1 r2 =>
        cases r2 with
        | cons r2 r3 =>
        cases r1
        cases r2
        cases r3
        split at h1
        · rename_i hz
          exact ⟨_, _, rfl, hz, h1 _ m1 H1 Ext.refl w1 iter_range⟩
        · exact False.elim h1
    · exact False.elim h1)⟩
def enumD (i : Nat) : List D → List D
  | [] => []
  | d :: ds => .tup [.int (i : Nat), d] :: enumD (i + 1) ds
theorem enumD_get : ∀ (ds : List D) (k i : Nat), (enumD k ds)[i]? = (ds[i]?).map fun d => .tup [.int ((k + i : Nat) : Int), d]
  | [], k, i => by simp [enumD]
  | d :: ds, k, 0 => by simp [enumD]
  | d :: ds, k, i + 1 => by
    show (enumD (k + 1) ds)[i]? = _
    rw [enumD_get ds (k + 1) i, List.getElem?_cons_succ, show k + 1 + i = k + (i + 1) by omega]
def enumM (ds : List D) : M (List D) := match ds with
  | [.lst xs] => ret (enumD 0 xs)
  | [.rol xs] => ret (enumD 0 xs)
  | _ => stk
theorem iter_enum {K : PySem.W.Frag} {mg : Str → Option Value} {m p : List Addr} {H : Hp} {a : Addr} {xs : List V} {ds : List D} (hq : RolAt K m p H a xs) (hr : Reps K m p H xs ds) : IterOk K mg T m p H (Ite K a) (enumD 0 ds) := by
  intro m1 p1 S1 H1 i e n w
  have hq1 := hq.mv e n
  have hr1 := hr.mv e n
  rw [enumD_get]
  refine ⟨fun d hd => ?_, fun hd => ⟨xs, hq1.sq, ?_⟩⟩
  · cases q : ds[i]? with
    | none => rw [q] at hd; cases hd
    | some d0 =>
      rw [q] at hd
      cases hd
      obtain ⟨v, e1, r1⟩ := hr1.get q
      refine ⟨⟨xs, v, hq1.sq, e1⟩, fun x H2 hy => ?_⟩
      obtain ⟨t, y, rfl, nT, rfl, fy⟩ := hy
      have := (fy xs hq1.sq).symm.trans e1
      cases this
      have e2 : Ext m1 H1 m1 (upd H1 t (.tup [.int (i : Nat), v])) := Ext.new1 nT
      refine ⟨e2, w.new1 nT, .tup (.inl ⟨w.fresh nT, w.np nT, upd_same⟩) (.cons ?_ (.cons (r1.ext e2) .nil))⟩
      rw [Nat.zero_add]
      exact .int _
  · rw [hr1.length]
    cases q : ds[i]? with
    | none => exact List.getElem?_eq_none_iff.mp q
    | some d => rw [q] at hd; cases hd
theorem RI.enum (K : PySem.W.Frag) {elts : List Expr} {kk : Nat} {tpos : Pos} (hg : Gl X "enumerate") (hm : X.mg "enumerate" = none) (ha : RA X T W ρ [a] tr cr) (hs : starEach [a] X.env = [(false, eval a X.env)] := by rfl) (hK : X.K = K := by rfl) : RI X T W ρ (.Tuple elts kk tpos) (.Call (.Name "enumerate" p0) [a] [] pos) (iEnum K tr) (bnd cr enumM) := by
  subst hK
  exact ⟨pi_enum hg hm ha.pa hs, fun {m p S σ H R} w en h => ha.rd w en (h.bndA fun d S1 v m1 H1 e1 w1 r1 h1 => by
    unfold enumM at h1
    split at h1
    · cases r1 with
      | cons r1 r2 =>
        cases r2
        cases r1 with
        | lst q1 q2 => exact ⟨_, _, rfl, .of q1.2.2, h1 _ m1 H1 Ext.refl w1 (iter_enum q1.rol q2)⟩
    · cases r1 with
      | cons r1 r2 =>
        cases r2
        cases r1 with
        | rol q1 q2 => exact ⟨_, _, rfl, q1.sq, h1 _ m1 H1 Ext.refl w1 (iter_enum q1 q2)⟩
    · exact False.elim h1)⟩
def zipD : List D → List D → List D
  | x :: xs, y :: ys => .tup [x, y] :: zipD xs ys
  | _, _ => []
theorem zipD_get : ∀ (xs ys : List D) (i : Nat), (zipD xs ys)[i]? = match xs[i]?, ys[i]? with
    | some x, some y => some (.tup [x, y])
    | _, _ => none
  | [], ys, i => by simp [zipD]
  | x :: xs, [], i => by cases h : (x :: xs)[i]? <;> simp [zipD, h]
  | x :: xs, y :: ys, 0 => by simp [zipD]
  | x :: xs, y :: ys, i + 1 => by
    show (zipD xs ys)[i]? = _
    rw [zipD_get xs ys i, List.getElem?_cons_succ, List.getElem?_cons_succ]
def fixL : D → Option (List D)
  | .lst xs => some xs
  | .rol xs => some xs
  | _ => none
def zipM (ds : List D) : M (List D) := match ds with
  | [.tup xs, .tup ys] => ret (zipD xs ys)
  | [a, b] => match fixL a, fixL b with
    | some xs, some ys => ret (zipD xs ys)
    | _, _ => stk
  | _ => stk
theorem iter_zip {K : PySem.W.Frag} {mg : Str → Option Value} {m p : List Addr} {H : Hp} {a b : Addr} {xs ys : List V} {ds es : List D} (hq : RolAt K m p H a xs) (hr : Reps K m p H xs ds) (hq' : RolAt K m p H b ys) (hr' : Reps K m p H ys es) : IterOk K mg T m p H (Itz K a b) (zipD ds es) := by
  intro m1 p1 S1 H1 i e n w
  have hq1 := hq.mv e n
  have hr1 := hr.mv e n
  have hq1' := hq'.mv e n
  have hr1' := hr'.mv e n
  rw [zipD_get]
  refine ⟨fun d hd => ?_, fun hd => ⟨xs, ys, hq1.sq, hq1'.sq, ?_⟩⟩
  · split at hd
    · rename_i d1 d2 q1 q2
      cases hd
      obtain ⟨v, e1, r1⟩ := hr1.get q1
      obtain ⟨u, e2, r2⟩ := hr1'.get q2
      refine ⟨⟨xs, ys, v, u, hq1.sq, hq1'.sq, e1, e2⟩, fun x H2 hy => ?_⟩
      obtain ⟨t, y, z, rfl, nT, rfl, fy, fz⟩ := hy
      have := (fy xs hq1.sq).symm.trans e1
      cases this
      have := (fz ys hq1'.sq).symm.trans e2
      cases this
      have e2 : Ext m1 H1 m1 (upd H1 t (.tup [v, u])) := Ext.new1 nT
      exact ⟨e2, w.new1 nT, .tup (.inl ⟨w.fresh nT, w.np nT, upd_same⟩) (.cons (r1.ext e2) (.cons (r2.ext e2) .nil))⟩
    · cases hd
  · rw [hr1.length, hr1'.length]
    split at hd
    · cases hd
    · rename_i hn
      cases q1 : ds[i]? with
      | none => exact .inl (List.getElem?_eq_none_iff.mp q1)
      | some d1 =>
        cases q2 : es[i]? with
        | none => exact .inr (List.getElem?_eq_none_iff.mp q2)
        | some d2 => exact absurd q2 (hn d1 d2 q1)
theorem iter_zipT {K : PySem.W.Frag} {mg : Str → Option Value} {m p : List Addr} {H : Hp} {a b : Addr} {xs ys : List V} {ds es : List D} (hq : TupAt K m p H a xs) (hr : Reps K m p H xs ds) (hq' : TupAt K m p H b ys) (hr' : Reps K m p H ys es) : IterOk K mg T m p H (RZ.ItzT K a b) (zipD ds es) := by
  intro m1 p1 S1 H1 i e n w
  have hq1 := hq.mv e n
  have hr1 := hr.mv e n
  have hq1' := hq'.mv e n
  have hr1' := hr'.mv e n
  rw [zipD_get]
  refine ⟨fun d hd => ?_, fun hd => ⟨xs, ys, hq1.sq, hq1'.sq, ?_⟩⟩
  · split at hd
    · rename_i d1 d2 q1 q2
      cases hd
      obtain ⟨v, e1, r1⟩ := hr1.get q1
      obtain ⟨u, e2, r2⟩ := hr1'.get q2
      refine ⟨⟨xs, ys, v, u, hq1.sq, hq1'.sq, e1, e2⟩, fun x H2 hy => ?_⟩
      obtain ⟨t, y, z, rfl, nT, rfl, fy, fz⟩ := hy
      have := (fy xs hq1.sq).symm.trans e1
      cases this
      have := (fz ys hq1'.sq).symm.trans e2
      cases this
      have e2 : Ext m1 H1 m1 (upd H1 t (.tup [v, u])) := Ext.new1 nT
      exact ⟨e2, w.new1 nT, .tup (.inl ⟨w.fresh nT, w.np nT, upd_same⟩) (.cons (r1.ext e2) (.cons (r2.ext e2) .nil))⟩
    · cases hd
  · rw [hr1.length, hr1'.length]
    split at hd
    · cases hd
    · rename_i hn
      cases q1 : ds[i]? with
      | none => exact .inl (List.getElem?_eq_none_iff.mp q1)
      | some d1 =>
        cases q2 : es[i]? with
        | none => exact .inr (List.getElem?_eq_none_iff.mp q2)
        | some d2 => exact absurd q2 (hn d1 d2 q1)
theorem sqL_rol {K : PySem.W.Frag} {m p : List Addr} {H : Hp} {v : V} {d : D} {ds : List D} (r : Rep K m p H v d) (h : fixL d = some ds) : ∃ a xs, v = .ref a ∧ RolAt K m p H a xs ∧ Reps K m p H xs ds := by
  cases r with
  | rol h1 h2 => cases h; exact ⟨_, _, rfl, h1, h2⟩
  | lst h1 h2 => cases h; exact ⟨_, _, rfl, h1.rol, h2⟩
  | _ => cases h
theorem RI.zip (K : PySem.W.Frag) {elts : List Expr} {kk : Nat} {tpos : Pos} (hg : Gl X "zip") (hm : X.mg "zip" = none) (ha : RA X T W ρ [a, b] tr cr)
    (hs : starEach [a, b] X.env = (false, eval a X.env) :: starEach [b] X.env := by rfl) (hpl : (backTo pos (starEach [b] X.env)).any (·.1) = false := by rfl) (hK : X.K = K := by rfl) : RI X T W ρ (.Tuple elts kk tpos) (.Call (.Name "zip" p0) [a, b] [] pos) (RZ.iZipA K tr) (bnd cr zipM) := by
  subst hK
  exact ⟨RZ.pi_zipA hg hm ha.pa hs hpl, fun {m p S σ H R} w en h => ha.rd w en (h.bndA fun d S1 v m1 H1 e1 w1 r1 h1 => by
    unfold zipM at h1
    split at h1
    · cases r1 with
      | cons r1 r2 =>
        cases r2 with
        | cons r2 r3 =>
          cases r3
          cases r1 with
          | tup q1 q2 =>
            cases r2 with
            | tup g1 g2 => exact ⟨_, _, _, _, rfl, .inr ⟨q1.sq, g1.sq, h1 _ m1 H1 Ext.refl w1 (iter_zipT q1 q2 g1 g2)⟩⟩
    · cases r1 with
      | cons r1 r2 =>
        cases r2 with
        | cons r2 r3 =>
          cases r3
          rename_i d1 d2 _ _ _
          cases hx : fixL d1 with
          | none => rw [hx] at h1; exact False.elim h1
          | some xs =>
            cases hy : fixL d2 with
            | none => rw [hx, hy] at h1; exact False.elim h1
            | some ys =>
              rw [hx, hy] at h1
              obtain ⟨a, us, rfl, q1, q2⟩ := sqL_rol r1 hx
              obtain ⟨b, vs, rfl, g1, g2⟩ := sqL_rol r2 hy
              exact ⟨_, _, _, _, rfl, .inl ⟨q1.sq, g1.sq, h1 _ m1 H1 Ext.refl w1 (iter_zip q1 q2 g1 g2)⟩⟩
    · exact False.elim h1)⟩
end
end R

namespace R
open PySem PySem.Spec PyProof.Rows L2
/-! ### for, while -/
def lpK (c : M Fl) (k : REnv → M Fl) : M Fl := fun S => match c S with
  | .ok (.nx ρ) S' => k ρ S'
  | .ok (.ct ρ) S' => k ρ S'
  | .ok (.bk ρ) S' => .ok (.nx ρ) S'
  | r => r
def forL (g : D → REnv → M REnv) (body : REnv → M Fl) : List D → REnv → M Fl
  | [], ρ => ret (.nx ρ)
  | d :: ds, ρ => fun S => match g d ρ S with
    | .ok ρ1 S1 => lpK (body ρ1) (forL g body ds) S1
    | _ => .stuck
def whileM (c : REnv → M Bool) (body : REnv → M Fl) : Nat → REnv → M Fl
  | 0, _ => stk
  | n + 1, ρ => lft ρ (c ρ) fun b => if b then lpK (body ρ) (whileM c body n) else ret (.nx ρ)
def forS (ρ : REnv) (c : M (List D)) (g : D → REnv → M REnv) (body : REnv → M Fl) : M Fl := lft ρ c fun ds => forL g body ds ρ
section
variable {X : Cx} {T : CT} {W : WX} {ρ : REnv} {a b e c tg it : Expr} {ta tb te tc : TE} {ca cb ce cc : M D} {pos p0 : Pos} {es : List Expr} {tr : TA} {cr : M (List D)} {sts : List Stmt} {t u : TS} {cs : M Fl} {ks : REnv → M Fl}
theorem PostS.lp {K : PySem.W.Frag} {mg : Str → Option Value} {m p : List Addr} {H : Hp} {S : Sto} {E : Ends} {N : L2.St → Hp → Prop} {c : M Fl} {k : REnv → M Fl} (h : PostS K mg T W m p H (lpK c k S) E)
    (hN : ∀ ρ S1 σ m1 H1, Ext m H m1 H1 → Wd K mg T m1 p S1 H1 → EnvOk K m1 p H1 σ ρ → PostS K mg T W m1 p H1 (k ρ S1) E → N σ H1) : PostS K mg T W m p H (c S) { E with nx := N, ct := N, bk := E.nx } := by
  unfold lpK at h
  cases q : c S with
  | ok f S1 =>
    rw [q] at h
    cases f with
    | nx ρ => exact fun σ m1 H1 e1 w1 en1 => hN ρ S1 σ m1 H1 e1 w1 en1 (h.ext e1)
    | ct ρ => exact fun σ m1 H1 e1 w1 en1 => hN ρ S1 σ m1 H1 e1 w1 en1 (h.ext e1)
    | bk ρ => exact h
    | rt d => exact h
    | ex c w ρ => exact h
  | exc c u S1 => rw [q] at h; exact h
  | stuck => rw [q] at h; exact h
theorem RS.for_ {is : List Nat} {wi : TI} {tgt : TG} {g : D → REnv → M REnv} (hp : PassesOwn (model X.prog X.w) X.A X.env X.xe) (hc : X.calm = true) (hi : RI X T W ρ tg it wi cr) (hg : RG X T is tg tgt g) (hb : ∀ ρ, RSs X T W ρ sts t (ks ρ))
    (hs : ∀ x, foldedSetIterable it X.env x = pure x := by intro _; rfl) : RS X T W ρ (.For tg it sts [] pos) (tFor wi tgt t) (forS ρ cr g ks) :=
  ⟨ps_for hp hc hi.pi hg.pg (hb ρ).ps hs, fun {m p S σ H E} w en h => hi.rd w en (by
    unfold forS lft at h
    cases q : cr S with
    | exc c u S1 => rw [q] at h; exact fun x fl C dx v m1 H1 h1 h2 e1 w1 r1 hd => h x fl C dx v σ m1 H1 h1 h2 e1 w1 (en.ext e1) r1 hd
    | stuck => rw [q] at h; exact h
    | ok ds S1 =>
      rw [q] at h
      intro J m1 H1 e1 w1 hJ
      have en1 := en.ext e1
      have h1 := h.ext e1
      refine ⟨fun i k σ2 H2 => k = ds.length - i ∧ i ≤ ds.length ∧ ∃ m2 S2 ρ2, Ext m1 H1 m2 H2 ∧ Wd X.K X.mg T m2 p S2 H2 ∧ EnvOk X.K m2 p H2 σ2 ρ2 ∧ PostS X.K X.mg T W m2 p H2 (forL g ks (ds.drop i) ρ2 S2) E, ⟨_, rfl, Nat.zero_le _, m1, S1, ρ, Ext.refl, w1, en1, h1⟩, ?_⟩
      rintro i k σ2 H2 ⟨rfl, hi2, m2, S2, ρ2, e2, w2, en2, h2⟩
      obtain ⟨hgo, hstop⟩ := hJ m2 p S2 H2 i e2 PNew.refl w2
      cases hd : ds[i]? with
      | none =>
        refine .inl ⟨hstop hd, ?_⟩
        have : ds.drop i = [] := List.drop_eq_nil_of_le (List.getElem?_eq_none_iff.mp hd)
        rw [this] at h2
        exact h2.here w2 en2
      | some d =>
        obtain ⟨hlt, hdi⟩ := List.getElem?_eq_some_iff.mp hd
        have hdrop : ds.drop i = d :: ds.drop (i + 1) := by rw [← hdi]; exact List.drop_eq_getElem_cons hlt
        rw [hdrop] at h2
        obtain ⟨go, hy⟩ := hgo d hd
        refine .inr ⟨go, fun σ3 H3 => ∃ m3 S3 ρ3, Ext m1 H1 m3 H3 ∧ Wd X.K X.mg T m3 p S3 H3 ∧ EnvOk X.K m3 p H3 σ3 ρ3 ∧ PostS X.K X.mg T W m3 p H3 (forL g ks (ds.drop (i + 1)) ρ3 S3) E, fun σ3 H3 hN => ⟨ds.length - (i + 1), by omega, rfl, hlt, hN⟩, fun x H3 y3 => ?_⟩
        obtain ⟨e3, w3, r3⟩ := hy x H3 y3
        have h3 := h2.ext e3
        refine hg.rd w3 (en2.ext e3) r3 ?_
        unfold forL at h3
        cases q3 : g d ρ2 S2 with
        | exc c u S3 => rw [q3] at h3; exact h3
        | stuck => rw [q3] at h3; exact h3
        | ok ρ3 S3 =>
          rw [q3] at h3
          intro σ4 m4 H4 e4 w4 en4 _
          exact (hb ρ3).rd w4 en4 ((h3.ext e4).lp fun ρ5 S5 σ5 m5 H5 e5 w5 en5 h5 => ⟨m5, S5, ρ5, ((e2.trans e3).trans e4).trans e5, w5, en5, h5⟩))⟩
theorem RS.while_ {tA : TT} {cA : REnv → M Bool} {n : Nat} (hp : PassesOwn (model X.prog X.w) X.A X.env X.xe) (hc : ∀ ρ, RT X T W ρ c tA (cA ρ)) (hb : ∀ ρ, RSs X T W ρ sts t (ks ρ)) : RS X T W ρ (.While c sts [] pos) (tWhile tA t) (whileM cA ks n ρ) :=
  ⟨ps_while hp (hc ρ).pt (hb ρ).ps, fun {m p S σ H E} w en h => by
    refine ⟨fun k σ2 H2 => ∃ m2 S2 ρ2, Ext m H m2 H2 ∧ Wd X.K X.mg T m2 p S2 H2 ∧ EnvOk X.K m2 p H2 σ2 ρ2 ∧ PostS X.K X.mg T W m2 p H2 (whileM cA ks k ρ2 S2) E, ⟨n, m, S, ρ, Ext.refl, w, en, h⟩, ?_⟩
    rintro k σ2 H2 ⟨m2, S2, ρ2, e2, w2, en2, h2⟩
    cases k with
    | zero => exact False.elim h2
    | succ k =>
      unfold whileM at h2
      refine (hc ρ2).rd w2 en2 (h2.lftT en2 fun d S3 m3 H3 e3 w3 en3 h3 => ?_)
      cases d with
      | false => exact h3.here w3 en3
      | true =>
        refine ⟨fun σ4 H4 => ∃ m4 S4 ρ4, Ext m H m4 H4 ∧ Wd X.K X.mg T m4 p S4 H4 ∧ EnvOk X.K m4 p H4 σ4 ρ4 ∧ PostS X.K X.mg T W m4 p H4 (whileM cA ks k ρ4 S4) E, fun σ4 H4 hN => ⟨k, Nat.lt_succ_self k, hN⟩, ?_⟩
        exact (hb ρ2).rd w3 en3 (h3.lp fun ρ5 S5 σ5 m5 H5 e5 w5 en5 h5 => ⟨m5, S5, ρ5, (e2.trans e3).trans e5, w5, en5, h5⟩)⟩

/-! ### list comprehensions -/
def wipeR (ρ : REnv) : List Nat → REnv
  | [] => ρ
  | v :: vs => (wipeR ρ vs).set v none
theorem EnvOk.none {K : PySem.W.Frag} {m p : List Addr} {H : Hp} {σ : L2.St} {ρ : REnv} (h : EnvOk K m p H σ ρ) (i : Nat) : EnvOk K m p H (σ.set i none) (ρ.set i none) := by
  refine ⟨by rw [List.length_set, List.length_set]; exact h.len, fun j e q => ?_⟩
  by_cases hj : j = i
  · subst hj
    by_cases hl : j < ρ.length
    · rw [List.getElem?_set_self hl] at q; cases q
    · rw [List.getElem?_eq_none (by rw [List.length_set]; omega)] at q; cases q
  · rw [List.getElem?_set_ne (Ne.symm hj)] at q ⊢
    exact h.get j e q
theorem EnvOk.wipe {K : PySem.W.Frag} {m p : List Addr} {H : Hp} {σ : L2.St} {ρ : REnv} (h : EnvOk K m p H σ ρ) : ∀ vs : List Nat, EnvOk K m p H (wipe σ vs) (wipeR ρ vs)
  | [] => h
  | v :: vs => (EnvOk.wipe h vs).none v
theorem wipe_wipe {σ : L2.St} {vs : List Nat} : ∀ {ws : List Nat}, (∀ i ∈ ws, i ∈ vs) → wipe (wipe σ ws) vs = wipe σ vs
  | [], _ => rfl
  | w :: ws, h => by
    show wipe ((wipe σ ws).set w Option.none) vs = _
    rw [wipe_set (h w List.mem_cons_self), wipe_wipe fun i hi => h i (List.mem_cons_of_mem _ hi)]
theorem EnvOk.mv {K : PySem.W.Frag} {m m1 p p1 : List Addr} {H H1 : Hp} {σ : L2.St} {ρ : REnv} (e : Ext m H m1 H1) (n : PNew H p p1) (h : EnvOk K m p H σ ρ) : EnvOk K m1 p1 H1 σ ρ :=
  ⟨h.len, fun i d q => let ⟨v, a, b⟩ := h.get i d q; ⟨v, a, b.mv e n⟩⟩
def nox {α : Type} (c : M α) : M α := fun S => match c S with
  | .ok d S' => .ok d S'
  | _ => .stuck
/-- the tests of a comprehension -/
def yesM : M Bool := ret true
def compL (g : D → REnv → M REnv) (tt : REnv → M Bool) (el : REnv → M D) (ρ : REnv) : List D → M (List D)
  | [] => ret []
  | d :: ds => bnd (nox (g d ρ)) fun ρ1 => bnd (nox (tt ρ1)) fun b => if b then bnd (nox (el ρ1)) fun y => bnd (compL g tt el ρ ds) fun ys => ret (y :: ys) else compL g tt el ρ ds
def compM (ρ : REnv) (vs : List Nat) (c : M (List D)) (g : D → REnv → M REnv) (tt : REnv → M Bool) (el : REnv → M D) : M (List D) := bnd c fun ds => short ds (compL g tt el (wipeR ρ vs) ds)
def lcM (ρ : REnv) (vs : List Nat) (c : M (List D)) (g : D → REnv → M REnv) (tt : REnv → M Bool) (el : REnv → M D) : M D := bnd (compM ρ vs c g tt el) fun ys => ret (.lst ys)
def lcC (ρ : REnv) (vs : List Nat) (c : M (List D)) (g : D → REnv → M REnv) (tt : REnv → M Bool) (el : REnv → M D) : M D := bnd (compM ρ vs c g tt el) fun ys => newC (.lst ys)
structure RTs (X : Cx) (T : CT) (W : WX) (ρ : REnv) (ifs : List Expr) (t : TT) (c : M Bool) : Prop where
  pt : PTs X ifs t
  rd : ∀ {m p : List Addr} {S : Sto} {σ : L2.St} {H : Hp} {Q : Bool → Hp → Prop}, Wd X.K X.mg T m p S H → EnvOk X.K m p H σ ρ → PostT X.K X.mg T W σ m p H (c S) Q → t σ H Q
theorem RTs.nil : RTs X T W ρ [] tYes yesM := ⟨pts_nil, fun {m p S σ H Q} w en h => h m H Ext.refl w⟩
theorem RTs.one {tA : TT} {cA : M Bool} (h : RT X T W ρ a tA cA) : RTs X T W ρ [a] tA cA := ⟨pts_one h.pt, h.rd⟩
abbrev W0 : WX := fun _ _ _ _ => False
section
variable {K : PySem.W.Frag} {m p : List Addr} {H H1 : Hp}
theorem Rep.keep (h : ∀ a, a ∉ p → H1 a = H a) {v : V} {d : D} (r : Rep K m p H v d) : Rep K m p H1 v d := Rep.move (fun a xs g => by
    rcases g with ⟨g1, g2, g3⟩ | g
    · exact .inl ⟨g1, g2, by rw [h a g2]; exact g3⟩
    · exact .inr g) (fun a xs g => ⟨g.1, g.2.1, by rw [h a g.2.1]; exact g.2.2⟩) (fun a xs g => by
    rcases g with ⟨g1, g2, g3⟩ | g
    · exact .inl ⟨g1, g2, by unfold Rd; rw [h a g2]; exact g3⟩
    · exact .inr g) (fun _ _ h => h) d v r
theorem Reps.keep (h : ∀ a, a ∉ p → H1 a = H a) {v : List V} {d : List D} (r : Reps K m p H v d) : Reps K m p H1 v d := Reps.move (fun a xs g => by
    rcases g with ⟨g1, g2, g3⟩ | g
    · exact .inl ⟨g1, g2, by rw [h a g2]; exact g3⟩
    · exact .inr g) (fun a xs g => ⟨g.1, g.2.1, by rw [h a g.2.1]; exact g.2.2⟩) (fun a xs g => by
    rcases g with ⟨g1, g2, g3⟩ | g
    · exact .inl ⟨g1, g2, by unfold Rd; rw [h a g2]; exact g3⟩
    · exact .inr g) (fun _ _ h => h) d v r
theorem KRep.keep (h : ∀ a, a ∉ p → H1 a = H a) : ∀ {v : List (Key × V)} {d : List (Key × D)}, KRep K m p H v d → KRep K m p H1 v d
  | _, _, .nil => .nil
  | _, _, .cons r t => .cons (r.keep h) (KRep.keep h t)
theorem CelOk.keep {mg : Str → Option Value} {T : CT} {a : Addr} {c : Cell} (n : ∀ a, a ∉ p → H1 a = H a) (ha : H1 a = H a) (h : CelOk K mg T m p H a c) : CelOk K mg T m p H1 a c := by
  cases c with
  | lst ds => obtain ⟨xs, e1, e2⟩ := h; exact ⟨xs, ha.trans e1, e2.keep n⟩
  | dict kvs => obtain ⟨xs, e1, e2⟩ := h; exact ⟨xs, ha.trans e1, e2.keep n⟩
  | ins c fs => obtain ⟨x, fl, C, dx, us, e0, e1, e2, e3, e4⟩ := h; exact ⟨x, fl, C, dx, us, e0, e1, ha.trans e2, e3, e4.keep n⟩
end
theorem lc_rd {is vs : List Nat} {wi : TI} {tgt : TG} {g : D → REnv → M REnv} {tt : REnv → M Bool} {el : REnv → M D} {tT : TT} {K : PySem.W.Frag} {mg : Str → Option Value} {fin : List D → M D}
    (hfin : ∀ {m m0 p : List Addr} {S : Sto} {H H0 : Hp} {Q : VK} {a : Addr} {ds : List D} {xs : List V} {σ : L2.St}, Ext m0 H0 m H → H0 a = none → Wd K mg T m (p ++ [a]) S H → a ∉ p → H a = some (.lst xs) → Reps K m (p ++ [a]) H xs ds → PostE K mg T W σ m0 p H0 (fin ds S) Q → Q (.ref a) H)
    (hi : ∀ {m p : List Addr} {S : Sto} {σ : L2.St} {H : Hp} {R : It → Hp → Prop}, Wd K mg T m p S H → EnvOk K m p H σ ρ → PostI K mg T W σ m p H (cr S) R → wi σ H R)
    (his : ∀ i ∈ is, i ∈ vs)
    (hg : ∀ {m p : List Addr} {S : Sto} {σ : L2.St} {H : Hp} {ρ : REnv} {v : V} {d : D} {Q : L2.St → Hp → Prop}, Wd K mg T m p S H → EnvOk K m p H σ ρ → Rep K m p H v d → PostG K mg T is σ m p H (g d ρ S) Q → tgt v σ H Q)
    (ht : ∀ ρ {m p : List Addr} {S : Sto} {σ : L2.St} {H : Hp} {Q : Bool → Hp → Prop}, Wd K mg T m p S H → EnvOk K m p H σ ρ → PostT K mg T W0 σ m p H (tt ρ S) Q → tT σ H Q)
    (he : ∀ ρ {m p : List Addr} {S : Sto} {σ : L2.St} {H : Hp} {Q : VK}, Wd K mg T m p S H → EnvOk K m p H σ ρ → PostE K mg T W0 σ m p H (el ρ S) Q → te σ H Q)
    {m p : List Addr} {S : Sto} {σ : L2.St} {H : Hp} {Q : VK} (w : Wd K mg T m p S H) (en : EnvOk K m p H σ ρ) (h : PostE K mg T W σ m p H (bnd (compM ρ vs cr g tt el) fin S) Q) : tLc wi tgt tT te vs σ H Q := by
  refine hi w en ?_
  unfold compM bnd at h
  cases q : cr S with
  | exc c u S1 => rw [q] at h; exact h
  | stuck => rw [q] at h; exact h
  | ok ds S1 =>
    rw [q] at h
    dsimp only at h
    by_cases hz : ds.length ≤ lim
    · rw [short_le hz] at h
      intro J m1 H1 e1 w1 hJ D0 hD
      have enw := (en.ext e1).wipe vs
      have hDm : D0 ∉ m1 := w1.fresh hD
      have hDp : D0 ∉ p := w1.np hD
      have eD : Ext m1 H1 m1 (upd H1 D0 (.lst [])) := Ext.new1 hD
      have pn : ∀ {H' : Hp}, H' D0 = none → PNew H' p (p ++ [D0]) := fun hn a ha => by
        rcases List.mem_append.mp ha with z | z
        · exact .inl z
        · rw [List.mem_singleton.mp z]; exact .inr hn
      -- the invariant
      refine ⟨fun i k H2 => k = ds.length - i ∧ i ≤ ds.length ∧ ∃ m2 S2 acc us, Ext m1 H1 m2 H2 ∧ Wd K mg T m2 (p ++ [D0]) S2 H2 ∧ H2 D0 = some (.lst us) ∧ Reps K m2 (p ++ [D0]) H2 us acc ∧ acc.length ≤ i ∧
        PostE K mg T W σ m1 p H1 ((match compL g tt el (wipeR ρ vs) (ds.drop i) S2 with | .ok ys S' => fin (acc ++ ys) S' | .exc c w S' => .exc c w S' | .stuck => .stuck)) Q, ⟨_, rfl, Nat.zero_le _, m1, S1, [], [], eD, ?_, upd_same, .nil, Nat.zero_le _, ?_⟩, ?_⟩
      · have w2 := w1.new1 (o := .lst []) hD
        refine ⟨w2.len, w2.nd, fun n a c q1 q2 => (w1.cel n a c q1 q2).mv eD (pn hD) (upd_ne fun z => hDm (z ▸ List.mem_of_getElem? q1)), fun a ha => ?_⟩
        rcases List.mem_append.mp ha with z | z
        · exact w2.prv a z
        · rw [List.mem_singleton.mp z]; exact ⟨hDm, _, upd_same⟩
      · have h1 := h.ext e1
        rw [List.drop_zero]
        cases q5 : compL g tt el (wipeR ρ vs) ds S1 with
        | ok ys S' => rw [q5] at h1; exact h1
        | exc c u S' => rw [q5] at h1; exact h1
        | stuck => rw [q5] at h1; exact h1
      · rintro i k H2 ⟨rfl, hi2, m2, S2, acc, us, e2, w2, hD2, ra, hal, h2⟩
        have pn2 : PNew H1 p (p ++ [D0]) := pn hD
        obtain ⟨hgo, hstop⟩ := hJ m2 (p ++ [D0]) S2 H2 i e2 pn2 w2
        cases hd : ds[i]? with
        | none =>
          refine .inl ⟨hstop hd, ?_⟩
          have : ds.drop i = [] := List.drop_eq_nil_of_le (List.getElem?_eq_none_iff.mp hd)
          rw [this] at h2
          have h2' : PostE K mg T W σ m1 p H1 (fin acc S2) Q := by
            have : acc ++ ([] : List D) = acc := List.append_nil _
            rw [← this]
            exact h2
          exact hfin e2 hD w2 hDp hD2 ra h2'
        | some d =>
          obtain ⟨hlt, hdi⟩ := List.getElem?_eq_some_iff.mp hd
          have hdrop : ds.drop i = d :: ds.drop (i + 1) := by rw [← hdi]; exact List.drop_eq_getElem_cons hlt
          rw [hdrop] at h2
          obtain ⟨go, hy⟩ := hgo d hd
          refine .inr ⟨go, fun H3 => i + 1 ≤ ds.length ∧ ∃ m2 S2 acc us, Ext m1 H1 m2 H3 ∧ Wd K mg T m2 (p ++ [D0]) S2 H3 ∧ H3 D0 = some (.lst us) ∧ Reps K m2 (p ++ [D0]) H3 us acc ∧ acc.length ≤ i + 1 ∧
            PostE K mg T W σ m1 p H1 ((match compL g tt el (wipeR ρ vs) (ds.drop (i + 1)) S2 with | .ok ys S' => fin (acc ++ ys) S' | .exc c w S' => .exc c w S' | .stuck => .stuck)) Q, fun H3 hN => ⟨ds.length - (i + 1), by omega, rfl, hN⟩, fun x H3 y3 => ?_⟩
          obtain ⟨e3, w3, r3⟩ := hy x H3 y3
          have en3 : EnvOk K m2 (p ++ [D0]) H3 (wipe σ vs) (wipeR ρ vs) := enw.mv (e2.trans e3) pn2
          refine hg w3 en3 r3 ?_
          unfold compL bnd nox at h2
          cases q3 : g d (wipeR ρ vs) S2 with
          | exc c u S3 => rw [q3] at h2; exact False.elim h2
          | stuck => rw [q3] at h2; exact False.elim h2
          | ok ρ3 S3 =>
            rw [q3] at h2
            intro σ4 m4 H4 e4 w4 en4 hw4
            refine ⟨(hw4 vs his).trans (wipe_wipe fun _ hi => hi), ht ρ3 w4 en4 ?_⟩
            dsimp only at h2
            have hD4 : H4 D0 = some (.lst us) := e4.out _ _ (w2.prv D0 (by simp)).1 (e3.out _ _ (w2.prv D0 (by simp)).1 hD2)
            have ra4 := (ra.ext e3).ext e4
            cases q4 : tt ρ3 S3 with
            | exc c u S4 => rw [q4] at h2; exact False.elim h2
            | stuck => rw [q4] at h2; exact False.elim h2
            | ok b S4 =>
              rw [q4] at h2
              dsimp only at h2
              intro m5 H5 e5 w5
              have hD5 : H5 D0 = some (.lst us) := e5.out _ _ (w4.prv D0 (by simp)).1 hD4
              have ra5 := ra4.ext e5
              cases b with
              | false =>
                rw [if_neg Bool.false_ne_true] at h2 ⊢
                exact ⟨hlt, m5, S4, acc, us, ((e2.trans e3).trans e4).trans e5, w5, hD5, ra5, Nat.le_succ_of_le hal, h2⟩
              | true =>
                rw [if_pos rfl] at h2 ⊢
                refine he ρ3 w5 (en4.ext e5) ?_
                cases q5 : el ρ3 S4 with
                | exc c u S5 => rw [q5] at h2; exact False.elim h2
                | stuck => rw [q5] at h2; exact False.elim h2
                | ok y S5 =>
                  rw [q5] at h2
                  dsimp only at h2
                  intro v m6 H6 e6 w6 r6
                  have hD6 : H6 D0 = some (.lst us) := e6.out _ _ (w5.prv D0 (by simp)).1 hD5
                  have hm6 : D0 ∉ m6 := (w6.prv D0 (by simp)).1
                  have ra6 := ra5.ext e6
                  have hlen : us.length = acc.length := ra6.length
                  refine ⟨us, hD6, by rw [hlen]; exact Nat.lt_of_lt_of_le (by omega) lim_line, hlt, m6, S5, acc ++ [y], us ++ [v], ?_, ?_, upd_same, ?_, by rw [List.length_append]; simp; omega, ?_⟩
                  · -- the list grows: seen from ahead of it nothing is changed
                    have eA : Ext m1 H1 m6 H6 := (((e2.trans e3).trans e4).trans e5).trans e6
                    exact ⟨eA.pre, fun a o na ha => by rw [upd_ne (ne_of_none ha hD)]; exact eA.out a o na ha, eA.new⟩
                  · have mvT : ∀ a xs, TupAt K m6 (p ++ [D0]) H6 a xs → TupAt K m6 (p ++ [D0]) (upd H6 D0 (.lst (us ++ [v]))) a xs := fun a xs h => by
                      rcases h with ⟨g1, g2, g3⟩ | g
                      · refine .inl ⟨g1, g2, ?_⟩
                        have ne : a ≠ D0 := fun z => g2 (by rw [z]; simp)
                        rw [upd_ne ne]
                        exact g3
                      · exact .inr g
                    have eU : ∀ a, a ≠ D0 → upd H6 D0 (.lst (us ++ [v])) a = H6 a := fun a ne => upd_ne ne
                    refine ⟨w6.len, w6.nd, fun n a c q1 q2 => ?_, fun a ha => ?_⟩
                    · exact (w6.cel n a c q1 q2).keep (fun a ha => eU a fun z => ha (by rw [z]; simp)) (eU a fun z => hm6 (z ▸ List.mem_of_getElem? q1))
                    · refine ⟨(w6.prv a ha).1, ?_⟩
                      by_cases z : a = D0
                      · rw [z]; exact ⟨_, upd_same⟩
                      · rw [eU a z]; exact (w6.prv a ha).2
                  · exact (ra6.append (.cons r6 .nil)).keep fun a ha => upd_ne fun z => ha (by rw [z]; simp)
                  · cases q6 : compL g tt el (wipeR ρ vs) (ds.drop (i + 1)) S5 with
                    | ok ys S' =>
                      rw [q6] at h2
                      show PostE K mg T W σ m1 p H1 (fin (acc ++ [y] ++ ys) S') Q
                      rw [List.append_assoc]
                      exact h2
                    | exc c u S' => rw [q6] at h2; exact h2
                    | stuck => rw [q6] at h2; exact h2
    · unfold short at h
      rw [if_neg hz] at h
      exact False.elim h
section
variable {K : PySem.W.Frag} {m p : List Addr} {H : Hp} {x : Addr}
theorem pub_no {a : Addr} (h1 : a ∉ m) (h2 : a ∉ p ++ [x]) : a ∉ m ++ [x] ∧ a ∉ p :=
  ⟨fun z => (List.mem_append.mp z).elim h1 fun q => h2 (List.mem_append_right _ q), fun z => h2 (List.mem_append_left _ z)⟩
theorem pub_pre : ∀ (n : Nat) (a : Addr), m[n]? = some a → (m ++ [x])[n]? = some a := fun n a e => by
  rw [List.getElem?_append_left (List.getElem?_eq_some_iff.mp e).1]; exact e
theorem Rep.pub {v : V} {d : D} (r : Rep K m (p ++ [x]) H v d) : Rep K (m ++ [x]) p H v d := Rep.move (fun a xs g => by
    rcases g with ⟨g1, g2, g3⟩ | g
    · exact .inl ⟨(pub_no g1 g2).1, (pub_no g1 g2).2, g3⟩
    · exact .inr g) (fun a xs g => ⟨(pub_no g.1 g.2.1).1, (pub_no g.1 g.2.1).2, g.2.2⟩) (fun a xs g => by
    rcases g with ⟨g1, g2, g3⟩ | g
    · exact .inl ⟨(pub_no g1 g2).1, (pub_no g1 g2).2, g3⟩
    · exact .inr g) pub_pre d v r
theorem Reps.pub {v : List V} {d : List D} (r : Reps K m (p ++ [x]) H v d) : Reps K (m ++ [x]) p H v d := Reps.move (fun a xs g => by
    rcases g with ⟨g1, g2, g3⟩ | g
    · exact .inl ⟨(pub_no g1 g2).1, (pub_no g1 g2).2, g3⟩
    · exact .inr g) (fun a xs g => ⟨(pub_no g.1 g.2.1).1, (pub_no g.1 g.2.1).2, g.2.2⟩) (fun a xs g => by
    rcases g with ⟨g1, g2, g3⟩ | g
    · exact .inl ⟨(pub_no g1 g2).1, (pub_no g1 g2).2, g3⟩
    · exact .inr g) pub_pre d v r
theorem KRep.pub : ∀ {v : List (Key × V)} {d : List (Key × D)}, KRep K m (p ++ [x]) H v d → KRep K (m ++ [x]) p H v d
  | _, _, .nil => .nil
  | _, _, .cons r t => .cons r.pub (KRep.pub t)
theorem CelOk.pub {mg : Str → Option Value} {T : CT} {a : Addr} {c : Cell} (h : CelOk K mg T m (p ++ [x]) H a c) : CelOk K mg T (m ++ [x]) p H a c := by
  cases c with
  | lst ds => obtain ⟨xs, e1, e2⟩ := h; exact ⟨xs, e1, e2.pub⟩
  | dict kvs => obtain ⟨xs, e1, e2⟩ := h; exact ⟨xs, e1, e2.pub⟩
  | ins c fs => obtain ⟨x, fl, C, dx, us, e0, e1, e2, e3, e4⟩ := h; exact ⟨x, fl, C, dx, us, e0, e1, e2, e3, e4.pub⟩
theorem Wd.pub {mg : Str → Option Value} {T : CT} {S : Sto} {c : Cell} (w : Wd K mg T m (p ++ [x]) S H) (hp : x ∉ p) (hc : CelOk K mg T (m ++ [x]) p H x c) : Wd K mg T (m ++ [x]) p (S ++ [c]) H := by
  have hl := w.len
  have hx : x ∉ m := (w.prv x (by simp)).1
  refine ⟨by simp [hl], ?_, fun n b d e1 e2 => ?_, fun a ha => ?_⟩
  · rw [List.nodup_append]
    refine ⟨w.nd, by simp, fun y hy z hz e => ?_⟩
    rw [List.mem_singleton.mp hz] at e
    exact hx (e ▸ hy)
  · by_cases hn : n < m.length
    · rw [List.getElem?_append_left hn] at e1
      rw [List.getElem?_append_left (by omega)] at e2
      exact (w.cel n b d e1 e2).pub
    · rw [List.getElem?_append_right (by omega)] at e1 e2
      have e0 : n - m.length = 0 := by
        have := (List.getElem?_eq_some_iff.mp e1).1
        simp at this
        omega
      rw [e0] at e1
      rw [show n - S.length = 0 by omega] at e2
      simp at e1 e2
      subst e1 e2
      exact hc
  · obtain ⟨q1, q2⟩ := w.prv a (List.mem_append_left _ ha)
    refine ⟨fun z => ?_, q2⟩
    rcases List.mem_append.mp z with z | z
    · exact q1 z
    · rw [List.mem_singleton.mp z] at ha
      exact hp ha
end
theorem fin_lst {K : PySem.W.Frag} {mg : Str → Option Value} {m m0 p : List Addr} {S : Sto} {H H0 : Hp} {Q : VK} {a : Addr} {ds : List D} {xs : List V} {σ : L2.St} (e : Ext m0 H0 m H) (hn : H0 a = none) (w : Wd K mg T m (p ++ [a]) S H) (hp : a ∉ p) (ha : H a = some (.lst xs)) (r : Reps K m (p ++ [a]) H xs ds)
    (h : PostE K mg T W σ m0 p H0 ((fun ys => ret (.lst ys)) ds S) Q) : Q (.ref a) H :=
  h (.ref a) m H e (w.less fun a ha => List.mem_append_left _ ha) (.lst ⟨(w.prv a (by simp)).1, hp, ha⟩ (r.less fun a ha => List.mem_append_left _ ha))
theorem fin_cell {K : PySem.W.Frag} {mg : Str → Option Value} {m m0 p : List Addr} {S : Sto} {H H0 : Hp} {Q : VK} {a : Addr} {ds : List D} {xs : List V} {σ : L2.St} (e : Ext m0 H0 m H) (hn : H0 a = none) (w : Wd K mg T m (p ++ [a]) S H) (hp : a ∉ p) (ha : H a = some (.lst xs)) (r : Reps K m (p ++ [a]) H xs ds)
    (h : PostE K mg T W σ m0 p H0 ((fun ys => newC (.lst ys)) ds S) Q) : Q (.ref a) H :=
  h (.ref a) (m ++ [a]) H ⟨fun n b q => pub_pre n b (e.pre n b q), e.out, fun b hb nb => by
      rcases List.mem_append.mp hb with z | z
      · exact e.new b z nb
      · rw [List.mem_singleton.mp z]; exact hn⟩ (w.pub hp ⟨xs, ha, r.pub⟩) (.loc (by rw [← w.len]; exact nth_new m a))
variable {elt : Expr} {ifs : List Expr} {scope : Scope} {own : List (Str × Nat)} {wi : TI} {tgt : TG} {tT : TT} {is : List Nat} {g : D → REnv → M REnv} {tt : REnv → M Bool} {el : REnv → M D}
theorem RE.lc (hc : X.calm = true) (hN : X.N.Nodup) (hi : RI X T W ρ tg it wi cr) (ok : BlkOk X.N X.env.scope scope own)
    (hg : ∀ (s : Shared) (H : Hp) (C : Addr) (cl : List (Str × Addr)) (fp : List Addr), RG (X.blk s H scope (compEnvC scope cl C X.env) fp) T is tg tgt g)
    (ht : ∀ (s : Shared) (H : Hp) (C : Addr) (cl : List (Str × Addr)) (fp : List Addr) (ρ : REnv), RTs (X.blk s H scope (compEnvC scope cl C X.env) fp) T W0 ρ ifs tT (tt ρ))
    (he : ∀ (s : Shared) (H : Hp) (C : Addr) (cl : List (Str × Addr)) (fp : List Addr) (ρ : REnv), RE (X.blk s H scope (compEnvC scope cl C X.env) fp) T W0 ρ elt te (el ρ))
    (his : ∀ i ∈ is, i ∈ own.map (·.2)) (s0 : Shared) (hs : ∀ x, foldedSetIterable it X.env x = pure x := by intro _; rfl) :
    RE X T W ρ (.ListComp elt [⟨tg, it, ifs, 0⟩] scope pos) (tLc wi tgt tT te (own.map (·.2))) (lcM ρ (own.map (·.2)) cr g tt el) :=
  ⟨pe_lc hc hN hi.pi ok (fun s H C cl fp => (hg s H C cl fp).pg) (fun s H C cl fp => (ht s H C cl fp []).pt) (fun s H C cl fp => (he s H C cl fp []).pe) hs,
   fun w en h => lc_rd (fin := fun ys => ret (.lst ys)) fin_lst hi.rd his (hg s0 (fun _ => none) 0 [] []).rd (fun ρ => (ht s0 (fun _ => none) 0 [] [] ρ).rd) (fun ρ => (he s0 (fun _ => none) 0 [] [] ρ).rd) w en h⟩
theorem RE.lcC (hc : X.calm = true) (hN : X.N.Nodup) (hi : RI X T W ρ tg it wi cr) (ok : BlkOk X.N X.env.scope scope own)
    (hg : ∀ (s : Shared) (H : Hp) (C : Addr) (cl : List (Str × Addr)) (fp : List Addr), RG (X.blk s H scope (compEnvC scope cl C X.env) fp) T is tg tgt g)
    (ht : ∀ (s : Shared) (H : Hp) (C : Addr) (cl : List (Str × Addr)) (fp : List Addr) (ρ : REnv), RTs (X.blk s H scope (compEnvC scope cl C X.env) fp) T W0 ρ ifs tT (tt ρ))
    (he : ∀ (s : Shared) (H : Hp) (C : Addr) (cl : List (Str × Addr)) (fp : List Addr) (ρ : REnv), RE (X.blk s H scope (compEnvC scope cl C X.env) fp) T W0 ρ elt te (el ρ))
    (his : ∀ i ∈ is, i ∈ own.map (·.2)) (s0 : Shared) (hs : ∀ x, foldedSetIterable it X.env x = pure x := by intro _; rfl) :
    RE X T W ρ (.ListComp elt [⟨tg, it, ifs, 0⟩] scope pos) (tLc wi tgt tT te (own.map (·.2))) (R.lcC ρ (own.map (·.2)) cr g tt el) :=
  ⟨pe_lc hc hN hi.pi ok (fun s H C cl fp => (hg s H C cl fp).pg) (fun s H C cl fp => (ht s H C cl fp []).pt) (fun s H C cl fp => (he s H C cl fp []).pe) hs,
   fun w en h => lc_rd (fin := fun ys => newC (.lst ys)) fin_cell hi.rd his (hg s0 (fun _ => none) 0 [] []).rd (fun ρ => (ht s0 (fun _ => none) 0 [] [] ρ).rd) (fun ρ => (he s0 (fun _ => none) 0 [] [] ρ).rd) w en h⟩
/-- name = [..] -/
theorem RS.setLc {i : Nat} {y : Str} {py spos : Pos} (hc : X.calm = true) (hN : X.N.Nodup) (hy : X.N[i]? = some y) (hyl : X.env.scope.names.lookup y = some .local)
    (hsw : swapsWith (.ListComp elt [⟨tg, it, ifs, 0⟩] scope pos) (some (.Name y py)) spos.line X.env = pure true) (hi : RI X T W ρ tg it wi cr) (ok : BlkOk X.N X.env.scope scope own)
    (hg : ∀ (s : Shared) (H : Hp) (C : Addr) (cl : List (Str × Addr)) (fp : List Addr), RG (X.blk s H scope (compEnvC scope cl C X.env) fp) T is tg tgt g)
    (ht : ∀ (s : Shared) (H : Hp) (C : Addr) (cl : List (Str × Addr)) (fp : List Addr) (ρ : REnv), RTs (X.blk s H scope (compEnvC scope cl C X.env) fp) T W0 ρ ifs tT (tt ρ))
    (he : ∀ (s : Shared) (H : Hp) (C : Addr) (cl : List (Str × Addr)) (fp : List Addr) (ρ : REnv), RE (X.blk s H scope (compEnvC scope cl C X.env) fp) T W0 ρ elt te (el ρ))
    (his : ∀ i ∈ is, i ∈ own.map (·.2)) (s0 : Shared) (hs : ∀ x, foldedSetIterable it X.env x = pure x := by intro _; rfl) :
    RS X T W ρ (.Assign [.Name y py] (.ListComp elt [⟨tg, it, ifs, 0⟩] scope pos) spos) (tAsg (tLc wi tgt tT te (own.map (·.2))) (gName i)) (R.asg (gN i) ρ (lcM ρ (own.map (·.2)) cr g tt el)) :=
  ⟨ps_setLc hc hN hy hyl hsw hi.pi ok (fun s H C cl fp => (hg s H C cl fp).pg) (fun s H C cl fp => (ht s H C cl fp []).pt) (fun s H C cl fp => (he s H C cl fp []).pe) hs, fun w en h => (RE.lc (pos := pos) hc hN hi ok hg ht he his s0 hs).rd w en (h.lftE en fun _ _ v m1 H1 _ w1 r1 en1 h1 => h1 _ m1 H1 Ext.refl w1 (en1.set r1))⟩
theorem RS.setLcC {i : Nat} {y : Str} {py spos : Pos} (hc : X.calm = true) (hN : X.N.Nodup) (hy : X.N[i]? = some y) (hyl : X.env.scope.names.lookup y = some .local)
    (hsw : swapsWith (.ListComp elt [⟨tg, it, ifs, 0⟩] scope pos) (some (.Name y py)) spos.line X.env = pure true) (hi : RI X T W ρ tg it wi cr) (ok : BlkOk X.N X.env.scope scope own)
    (hg : ∀ (s : Shared) (H : Hp) (C : Addr) (cl : List (Str × Addr)) (fp : List Addr), RG (X.blk s H scope (compEnvC scope cl C X.env) fp) T is tg tgt g)
    (ht : ∀ (s : Shared) (H : Hp) (C : Addr) (cl : List (Str × Addr)) (fp : List Addr) (ρ : REnv), RTs (X.blk s H scope (compEnvC scope cl C X.env) fp) T W0 ρ ifs tT (tt ρ))
    (he : ∀ (s : Shared) (H : Hp) (C : Addr) (cl : List (Str × Addr)) (fp : List Addr) (ρ : REnv), RE (X.blk s H scope (compEnvC scope cl C X.env) fp) T W0 ρ elt te (el ρ))
    (his : ∀ i ∈ is, i ∈ own.map (·.2)) (s0 : Shared) (hs : ∀ x, foldedSetIterable it X.env x = pure x := by intro _; rfl) :
    RS X T W ρ (.Assign [.Name y py] (.ListComp elt [⟨tg, it, ifs, 0⟩] scope pos) spos) (tAsg (tLc wi tgt tT te (own.map (·.2))) (gName i)) (R.asg (gN i) ρ (R.lcC ρ (own.map (·.2)) cr g tt el)) :=
  ⟨ps_setLc hc hN hy hyl hsw hi.pi ok (fun s H C cl fp => (hg s H C cl fp).pg) (fun s H C cl fp => (ht s H C cl fp []).pt) (fun s H C cl fp => (he s H C cl fp []).pe) hs, fun w en h => (RE.lcC (pos := pos) hc hN hi ok hg ht he his s0 hs).rd w en (h.lftE en fun _ _ v m1 H1 _ w1 r1 en1 h1 => h1 _ m1 H1 Ext.refl w1 (en1.set r1))⟩

/-! ### a def -/
def finR (c : M Fl) : M D := fun S => match c S with
  | .ok (.rt d) S' => .ok d S'
  | .ok (.nx _) S' => .ok .non S'
  | .ok (.ex c w _) S' => .exc c w S'
  | _ => .stuck
def startR (n : Nat) (ds : List D) : REnv := ds.map some ++ List.replicate (n - ds.length) none
theorem PostE.body {K : PySem.W.Frag} {mg : Str → Option Value} {m p : List Addr} {H : Hp} {S : Sto} {Q : VK} {E : XK} {c : M Fl} (h : PostE K mg T (fun c d _ H => E c d H) [] m p H (finR c S) Q) : PostS K mg T (fun c d _ H => E c d H) m p H (c S) { nx := fun _ H' => Q .non H', rt := Q } := by
  unfold finR at h
  cases q : c S with
  | ok f S1 =>
    rw [q] at h
    cases f with
    | nx ρ => exact fun σ m1 H1 e1 w1 _ => h .non m1 H1 e1 w1 .non
    | rt d => exact h
    | bk ρ => exact False.elim h
    | ct ρ => exact False.elim h
    | ex c w ρ => exact fun x fl C dx v σ m1 H1 h1 h2 e1 w1 _ r hd => h x fl C dx v m1 H1 h1 h2 e1 w1 r hd
  | exc c u S1 => rw [q] at h; exact False.elim h
  | stuck => rw [q] at h; exact h
theorem fn_ok {P : Program} {w : World} {K : PySem.W.Frag} {mg : Str → Option Value} {base : Heap} {x qual : Str} {st : Stmt} {f : Addr} {fd : FuncData} {N ps : List Str} {k : Nat} {c : REnv → M Fl} (F : Fun K x qual st f fd) (S : FnScope N ps (defScope st)) (n n2 : Nat) (hn : ps.length = n) (hn2 : N.length = n2)
    (hbody : ∀ (cdv : Value) (A : Around) (outer : List Env) (s : Shared) (H : Hp) (E : XK), Room k (A.deeper (envOfC qual (defScope st) s.heap.objs.size f cdv)) →
      (∀ σ, PassesAt (L2.CX P w) (cxOf (L2.CX P w) P w K mg base N qual (defScope st) f cdv A outer s H E) σ (WE (fun c d _ H => E c d H) σ)) →
      PassesOwn (model P w) (cxOf (L2.CX P w) P w K mg base N qual (defScope st) f cdv A outer s H E).A (cxOf (L2.CX P w) P w K mg base N qual (defScope st) f cdv A outer s H E).env (cxOf (L2.CX P w) P w K mg base N qual (defScope st) f cdv A outer s H E).xe →
      Takes (cxOf (L2.CX P w) P w K mg base N qual (defScope st) f cdv A outer s H E) (fun c d _ H => E c d H) →
      ∃ t, ∀ ρ, RSs (cxOf (L2.CX P w) P w K mg base N qual (defScope st) f cdv A outer s H E) T (fun c d _ H => E c d H) ρ (defBody st) t (c ρ)) :
    FnOk P w K mg base (L2.CX P w) (k + 1) f fd ps (spR K mg T n fun ds => finR (c (startR n2 ds))) := by
  refine F.okX S (fun vs H Q E h => by rw [h.1, hn]) fun cdv A outer s H vs Q E hr h => ?_
  obtain ⟨hl, m, p, St, ds, wd, rs, po⟩ := h
  have tk := takes_of (X := cxOf (L2.CX P w) P w K mg base N qual (defScope st) f cdv A outer s H E) rfl rfl rfl (E := E) rfl
  obtain ⟨t, ht⟩ := hbody cdv A outer s H E hr (passAt tk) (passes_of (X := cxOf (L2.CX P w) P w K mg base N qual (defScope st) f cdv A outer s H E) rfl) tk
  refine ⟨t, (ht (startR n2 ds)).ps, (ht (startR n2 ds)).rd wd ?_ po.body⟩
  rw [← hn2]
  exact EnvOk.start rs
end
end R

namespace R
open PySem PySem.Spec PyProof.Rows L2
section
variable {X : Cx} {T : CT} {W : WX} {ρ : REnv} {a b e c d : Expr} {ta tb te tc td : TE} {ca cb ce cc cd : M D} {pos p0 : Pos} {es : List Expr} {tr : TA} {cr : M (List D)} {nid Ty : String} {x : Str}
/-! ### chains of comparisons -/
def chM (f : D → D → M D) (ca cb : M D) (k : D → M D) : M D := bnd ca fun x => bnd cb fun y => bnd (f x y) fun z => match z with
  | .bl true => k y
  | .bl false => ret (.bl false)
  | _ => stk
def ch2 (f g : D → D → M D) (ca cb cc : M D) : M D := chM f ca cb fun y => bnd cc fun z => g y z
def ch3 (f g h : D → D → M D) (ca cb cc cd : M D) : M D := chM f ca cb fun y => bnd cc fun z => bnd (g y z) fun r => match r with
  | .bl true => bnd cd fun w => h z w
  | .bl false => ret (.bl false)
  | _ => stk
/-- a comparison hands back a bool and changes nothing -/
def CmpF (X : Cx) (T : CT) (W : WX) (r : R2) (f : D → D → M D) : Prop :=
  ∀ {m p : List Addr} {S : Sto} {σ : L2.St} {H : Hp} {Q : VK} {x y : V} {d e : D}, Wd X.K X.mg T m p S H → Rep X.K m p H x d → Rep X.K m p H y e → PostE X.K X.mg T W σ m p H (f d e S) Q → r x y H Q
theorem RE.ch2 {op op' : CmpOp} {r r' : R2} {f g : D → D → M D} (ho : OpR X (compareOp op) r) (hf : OpOk X T W r f) (ho' : OpR X (compareOp op') r') (hg : OpOk X T W r' g) (ha : RE X T W ρ a ta ca) (hb : RE X T W ρ b tb cb) (hc : RE X T W ρ c tc cc)
    (hm : lastMarks [op, op'] [b, c] = false := by with_unfolding_all rfl) : RE X T W ρ (.Compare a [op, op'] [b, c] pos) (tChain r r' ta tb tc) (R.ch2 f g ca cb cc) :=
  ⟨pe_chain ho ho' ha.pe hb.pe hc.pe hm, fun w en h => ha.rd w en (h.bnd fun _ _ _ _ _ e1 w1 r1 h1 => hb.rd w1 (en.ext e1) (h1.bnd fun _ _ _ _ _ e2 w2 r2 h2 => hf w2 (r1.ext e2) r2 (h2.bnd fun dd S3 v3 m3 H3 e3 w3 r3 h3 => by
    cases r3 with
    | bl k =>
      refine ⟨k, rfl, ?_⟩
      cases k with
      | true => exact hc.rd w3 (((en.ext e1).ext e2).ext e3) (h3.bnd fun _ _ _ _ _ e4 w4 r4 h4 => hg w4 ((r2.ext e3).ext e4) r4 h4)
      | false => exact h3.here w3 (.bl _)
    | _ => exact False.elim h3)))⟩
theorem RT.ch2 {op op' : CmpOp} {r r' : R2} {f g : D → D → M D} (ho : OpR X (compareOp op) r) (hf : OpOk X T W r f) (ho' : OpR X (compareOp op') r') (hg : OpOk X T W r' g) (ha : RE X T W ρ a ta ca) (hb : RE X T W ρ b tb cb) (hc : RE X T W ρ c tc cc)
    (hm : lastMarks [op, op'] [b, c] = false := by with_unfolding_all rfl) : RT X T W ρ (.Compare a [op, op'] [b, c] pos) (tTest (tChain r r' ta tb tc)) (tst (R.ch2 f g ca cb cc)) :=
  ⟨pt_chain ho ho' ha.pe hb.pe hc.pe hm, fun w e h => (RE.ch2 (pos := pos) ho hf ho' hg ha hb hc hm).rd w e (PostE.asB h)⟩
/-- a op1 b op2 c op3 d -/
def tChain3 (r r' r'' : R2) (ta tb tc td : TE) : TE := fun σ H Q => ta σ H fun x H1 => tb σ H1 fun y H2 => r x y H2 fun z H3 => ∃ k, z = .bl k ∧
  (if k = true then tc σ H3 fun w' H4 => r' y w' H4 fun z2 H5 => ∃ k2, z2 = .bl k2 ∧ (if k2 = true then td σ H5 fun w2 H6 => r'' w' w2 H6 Q else Q (.bl false) H5) else Q (.bl false) H3)
theorem pe_chain3 {op op' op'' : CmpOp} {r r' r'' : R2} (ho : OpR X (compareOp op) r) (ho' : OpR X (compareOp op') r') (ho'' : OpR X (compareOp op'') r'') (ha : PE X a ta) (hb : PE X b tb) (hc : PE X c tc) (hd : PE X d td)
    (hm : lastMarks [op, op', op''] [b, c, d] = false := by with_unfolding_all rfl) : PE X (.Compare a [op, op', op''] [b, c, d] pos) (tChain3 r r' r'' ta tb tc td) := by
  refine ⟨fun pins s σ H Q I h => ?_⟩
  refine Compare_chain (thn (ha.run pins s σ H _ I h) fun v s1 ⟨x, H1, I1, r1, q1⟩ => chain_link (thn (hb.run pins s1 σ H1 _ I1 q1) fun u s2 ⟨y, H2, I2, r2, q2⟩ =>
    thn (ho pins s2 σ H2 x y v u _ I2 r1 r2 q2) fun d s3 ⟨z, H3, I3, r3, k, e, q3⟩ => ?_)) hm
  subst e
  cases r3
  refine wpAny_truthy_bool ?_
  cases k with
  | false => exact ite_ff ⟨.bl false, H3, I3, rfl, q3⟩
  | true =>
    refine ite_tt (chain_link (thn (hc.run pins s3 σ H3 _ I3 q3) fun w' s4 ⟨z', H4, I4, r4, q4⟩ => thn (ho' pins s4 σ H4 y z' u w' _ I4 r2 r4 q4) fun d' s5 ⟨z5, H5, I5, r5, k5, e5, q5⟩ => ?_))
    subst e5
    cases r5
    refine wpAny_truthy_bool ?_
    cases k5 with
    | false => exact ite_ff ⟨.bl false, H5, I5, rfl, q5⟩
    | true => exact ite_tt (chain_last (thn (hd.run pins s5 σ H5 _ I5 q5) fun w2 s6 ⟨z6, H6, I6, r6, q6⟩ => ho'' pins s6 σ H6 z' z6 w' w2 Q I6 r4 r6 q6))
theorem pt_chain3 {op op' op'' : CmpOp} {r r' r'' : R2} (ho : OpR X (compareOp op) r) (ho' : OpR X (compareOp op') r') (ho'' : OpR X (compareOp op'') r'') (ha : PE X a ta) (hb : PE X b tb) (hc : PE X c tc) (hd : PE X d td)
    (hm : lastMarks [op, op', op''] [b, c, d] = false := by with_unfolding_all rfl) : PT X (.Compare a [op, op', op''] [b, c, d] pos) (tTest (tChain3 r r' r'' ta tb tc td)) := by
  refine ⟨fun pins s σ H Q I h => ?_⟩
  refine isTrue_chain (thn (ha.run pins s σ H _ I h) fun v s1 ⟨x, H1, I1, r1, q1⟩ => test_link (thn (hb.run pins s1 σ H1 _ I1 q1) fun u s2 ⟨y, H2, I2, r2, q2⟩ =>
    thn (ho pins s2 σ H2 x y v u _ I2 r1 r2 q2) fun d s3 ⟨z, H3, I3, r3, k, e, q3⟩ => ?_)) hm
  subst e
  cases r3
  refine wpAny_truthy_bool ?_
  cases k with
  | false =>
    obtain ⟨k', e', q'⟩ := q3
    cases e'
    exact ite_ff ⟨H3, I3, q'⟩
  | true =>
    refine ite_tt (test_link (thn (hc.run pins s3 σ H3 _ I3 q3) fun w' s4 ⟨z', H4, I4, r4, q4⟩ => thn (ho' pins s4 σ H4 y z' u w' _ I4 r2 r4 q4) fun d' s5 ⟨z5, H5, I5, r5, k5, e5, q5⟩ => ?_))
    subst e5
    cases r5
    refine wpAny_truthy_bool ?_
    cases k5 with
    | false =>
      obtain ⟨k', e', q'⟩ := q5
      cases e'
      exact ite_ff ⟨H5, I5, q'⟩
    | true =>
      refine ite_tt (test_last (thn (hd.run pins s5 σ H5 _ I5 q5) fun w2 s6 ⟨z6, H6, I6, r6, q6⟩ => thn (ho'' pins s6 σ H6 z' z6 w' w2 _ I6 r4 r6 q6) fun d'' s7 ⟨z7, H7, I7, r7, k7, e7, q7⟩ => ?_))
      subst e7
      cases r7
      exact wpAny_truthy_bool ⟨H7, I7, q7⟩
theorem ch3_rd {r r' r'' : R2} {f g h : D → D → M D} (hf : OpOk X T W r f) (hg : OpOk X T W r' g) (hh : OpOk X T W r'' h) (ha : RE X T W ρ a ta ca) (hb : RE X T W ρ b tb cb) (hc : RE X T W ρ c tc cc) (hd : RE X T W ρ d td cd)
    {m p : List Addr} {S : Sto} {σ : L2.St} {H : Hp} {Q : VK} (w : Wd X.K X.mg T m p S H) (en : EnvOk X.K m p H σ ρ) (hp : PostE X.K X.mg T W σ m p H (R.ch3 f g h ca cb cc cd S) Q) : tChain3 r r' r'' ta tb tc td σ H Q :=
  ha.rd w en (hp.bnd fun _ _ _ _ _ e1 w1 r1 h1 => hb.rd w1 (en.ext e1) (h1.bnd fun _ _ _ _ _ e2 w2 r2 h2 => hf w2 (r1.ext e2) r2 (h2.bnd fun dd S3 v3 m3 H3 e3 w3 r3 h3 => by
    cases r3 with
    | bl k =>
      refine ⟨k, rfl, ?_⟩
      cases k with
      | true => exact hc.rd w3 (((en.ext e1).ext e2).ext e3) (h3.bnd fun _ _ _ _ _ e4 w4 r4 h4 => hg w4 ((r2.ext e3).ext e4) r4 (h4.bnd fun dd5 S5 v5 m5 H5 e5 w5 r5 h5 => by
          cases r5 with
          | bl k5 =>
            refine ⟨k5, rfl, ?_⟩
            cases k5 with
            | true => exact hd.rd w5 (((((en.ext e1).ext e2).ext e3).ext e4).ext e5) (h5.bnd fun _ _ _ _ _ e6 w6 r6 h6 => hh w6 ((r4.ext e5).ext e6) r6 h6)
            | false => exact h5.here w5 (.bl _)
          | _ => exact False.elim h5))
      | false => exact h3.here w3 (.bl _)
    | _ => exact False.elim h3)))
theorem RE.ch3 {op op' op'' : CmpOp} {r r' r'' : R2} {f g h : D → D → M D} (ho : OpR X (compareOp op) r) (hf : OpOk X T W r f) (ho' : OpR X (compareOp op') r') (hg : OpOk X T W r' g) (ho'' : OpR X (compareOp op'') r'') (hh : OpOk X T W r'' h) (ha : RE X T W ρ a ta ca) (hb : RE X T W ρ b tb cb) (hc : RE X T W ρ c tc cc) (hd : RE X T W ρ d td cd)
    (hm : lastMarks [op, op', op''] [b, c, d] = false := by with_unfolding_all rfl) : RE X T W ρ (.Compare a [op, op', op''] [b, c, d] pos) (tChain3 r r' r'' ta tb tc td) (R.ch3 f g h ca cb cc cd) :=
  ⟨pe_chain3 ho ho' ho'' ha.pe hb.pe hc.pe hd.pe hm, fun w e hp => ch3_rd hf hg hh ha hb hc hd w e hp⟩
theorem RT.ch3 {op op' op'' : CmpOp} {r r' r'' : R2} {f g h : D → D → M D} (ho : OpR X (compareOp op) r) (hf : OpOk X T W r f) (ho' : OpR X (compareOp op') r') (hg : OpOk X T W r' g) (ho'' : OpR X (compareOp op'') r'') (hh : OpOk X T W r'' h) (ha : RE X T W ρ a ta ca) (hb : RE X T W ρ b tb cb) (hc : RE X T W ρ c tc cc) (hd : RE X T W ρ d td cd)
    (hm : lastMarks [op, op', op''] [b, c, d] = false := by with_unfolding_all rfl) : RT X T W ρ (.Compare a [op, op', op''] [b, c, d] pos) (tTest (tChain3 r r' r'' ta tb tc td)) (tst (R.ch3 f g h ca cb cc cd)) :=
  ⟨pt_chain3 ho ho' ho'' ha.pe hb.pe hc.pe hd.pe hm, fun w e hp => ch3_rd hf hg hh ha hb hc hd w e (PostE.asB hp)⟩

/-! ### o[i] = v -/
def setM (o i v : D) : M Unit := fun S => match o, i with
  | .loc n, .int k => match S[n]? with
    | some (.lst xs) => match ixN xs.length k with
      | some j => .ok () (S.set n (.lst (xs.set j v)))
      | none => .stuck
    | _ => .stuck
  | _, _ => .stuck
def gS (co ci : REnv → M D) (d : D) (ρ : REnv) : M REnv := bnd (co ρ) fun o => bnd (ci ρ) fun i => bnd (setM o i d) fun _ => ret ρ
theorem PostG.bndE {K : PySem.W.Frag} {mg : Str → Option Value} {is : List Nat} {σ : L2.St} {m p : List Addr} {H : Hp} {S : Sto} {c : M D} {k : D → M REnv} {Q : L2.St → Hp → Prop} {Q' : VK} (h : PostG K mg T is σ m p H (bnd c k S) Q)
    (hk : ∀ d S1 v m1 H1, Ext m H m1 H1 → Wd K mg T m1 p S1 H1 → Rep K m1 p H1 v d → PostG K mg T is σ m1 p H1 (k d S1) Q → Q' v H1) : PostE K mg T W σ m p H (c S) Q' := by
  unfold R.bnd at h
  cases e : c S with
  | ok d S1 => rw [e] at h; exact fun v m1 H1 e1 w1 r1 => hk d S1 v m1 H1 e1 w1 r1 (PostG.ext (is := []) (js := is) e1 (fun _ _ => rfl) (by rw [List.nil_append]; exact h))
  | exc c w S1 => rw [e] at h; exact False.elim h
  | stuck => rw [e] at h; exact h
theorem RG.sub {co ci : REnv → M D} (ha : ∀ ρ, RE X T W ρ a ta (co ρ)) (hb : ∀ ρ, RE X T W ρ b tb (ci ρ))
    (hh : ∀ v, assign (.Subscript a b pos) X.env v = (do
      let ov ← holding [v] (eval a X.env)
      let iv ← holding [v, ov] (eval b X.env)
      standAt pos
      holding [v, ov, iv] (setItem ov iv v)
      release [v, ov, iv] []) := by intro _; rfl) : RG X T [] (.Subscript a b pos) (gSub ta tb rSetL) (gS co ci) :=
  ⟨pg_sub (ha []).pe (hb []).pe set_list hh, fun {m p S σ H ρ v d Q} w en r h => (ha ρ).rd w en (PostG.bndE h fun o S1 x m1 H1 e1 w1 r1 h1 => (hb ρ).rd w1 (en.ext e1) (PostG.bndE h1 fun i S2 y m2 H2 e2 w2 r2 h2 => by
    unfold bnd setM at h2
    cases r2 with
    | int k =>
      have r1' := r1.ext e2
      cases r1' with
      | @loc n a hn =>
        dsimp only at h2
        cases q : S2[n]? with
        | none => rw [q] at h2; exact False.elim h2
        | some c =>
          cases c with
          | lst xs =>
            rw [q] at h2
            dsimp only at h2
            cases q3 : ixN xs.length k with
            | none => rw [q3] at h2; exact False.elim h2
            | some j =>
              rw [q3] at h2
              obtain ⟨us, hu, ru⟩ := w2.cel n a _ hn q
              have rv := (r.ext e1).ext e2
              have ep : Ext m2 H2 m2 (upd H2 a (.lst (us.set j v))) := Ext.put hn
              refine ⟨a, us, k, j, rfl, rfl, hu, by rw [ru.length]; exact q3, h2 σ m2 _ ep (w2.put hn ⟨_, upd_same, (ru.ext ep).set j (rv.ext ep)⟩) (((en.ext e1).ext e2).ext ep) fun _ _ => rfl⟩
          | dict _ => rw [q] at h2; exact False.elim h2
          | ins _ _ => rw [q] at h2; exact False.elim h2
      | _ => exact False.elim h2
    | _ => cases r1 <;> exact False.elim h2))⟩

/-! ### all, any, sum of lists; list(..), tuple(..) -/
def bools : List D → Option (List Bool)
  | [] => some []
  | .bl b :: ds => (bools ds).map (b :: ·)
  | _ => none
def intL : List D → Option (List Int)
  | [] => some []
  | .int b :: ds => (intL ds).map (b :: ·)
  | _ => none
theorem bools_ok {K : PySem.W.Frag} {m p : List Addr} {H : Hp} : ∀ {ds : List D} {vs : List V} {bs : List Bool}, Reps K m p H vs ds → bools ds = some bs → vs = bs.map V.bl
  | [], vs, bs, r, h => by cases r; cases h; rfl
  | d :: ds, vs, bs, r, h => by
    cases r with
    | cons r1 r2 =>
      cases r1 with
      | bl b =>
        unfold bools at h
        cases q : bools ds with
        | none => rw [q] at h; cases h
        | some cs => rw [q] at h; cases h; rw [bools_ok r2 q]; rfl
      | _ => cases h
theorem ints_ok {K : PySem.W.Frag} {m p : List Addr} {H : Hp} : ∀ {ds : List D} {vs : List V} {bs : List Int}, Reps K m p H vs ds → intL ds = some bs → vs = bs.map V.int
  | [], vs, bs, r, h => by cases r; cases h; rfl
  | d :: ds, vs, bs, r, h => by
    cases r with
    | cons r1 r2 =>
      cases r1 with
      | int b =>
        unfold intL at h
        cases q : intL ds with
        | none => rw [q] at h; cases h
        | some cs => rw [q] at h; cases h; rw [ints_ok r2 q]; rfl
      | _ => cases h
def allM (ds : List D) : M D := fun S => match ds with
  | [d] => match (sqL S d).bind bools with
    | some bs => .ok (.bl (bs.all id)) S
    | none => .stuck
  | _ => .stuck
def anyM (ds : List D) : M D := fun S => match ds with
  | [d] => match (sqL S d).bind bools with
    | some bs => .ok (.bl (bs.any id)) S
    | none => .stuck
  | _ => .stuck
def sumM (ds : List D) : M D := fun S => match ds with
  | [d] => match (sqL S d).bind intL with
    | some bs => .ok (.int bs.sum) S
    | none => .stuck
  | _ => .stuck
theorem fn_all : FnR X T W (rAll X.K) allM := by
  intro m p S σ H Q vs ds w r h
  unfold allM at h
  split at h
  · rename_i d
    cases r with
    | cons r1 r2 =>
      cases r2
      cases q : sqL S d with
      | none => rw [q] at h; exact False.elim h
      | some xs =>
        rw [q] at h
        cases q2 : bools xs with
        | none => simp only [Option.bind_some, q2] at h; exact False.elim h
        | some bs =>
          simp only [Option.bind_some, q2] at h
          obtain ⟨a, us, rfl, g1, g2⟩ := sqL_ok w r1 q
          exact ⟨a, bs, rfl, by rw [← bools_ok g2 q2]; exact g1, h.here w (.bl _)⟩
  · exact False.elim h
theorem fn_any : FnR X T W (rAny X.K) anyM := by
  intro m p S σ H Q vs ds w r h
  unfold anyM at h
  split at h
  · rename_i d
    cases r with
    | cons r1 r2 =>
      cases r2
      cases q : sqL S d with
      | none => rw [q] at h; exact False.elim h
      | some xs =>
        rw [q] at h
        cases q2 : bools xs with
        | none => simp only [Option.bind_some, q2] at h; exact False.elim h
        | some bs =>
          simp only [Option.bind_some, q2] at h
          obtain ⟨a, us, rfl, g1, g2⟩ := sqL_ok w r1 q
          exact ⟨a, bs, rfl, by rw [← bools_ok g2 q2]; exact g1, h.here w (.bl _)⟩
  · exact False.elim h
theorem fn_sum : FnR X T W (rSum X.K) sumM := by
  intro m p S σ H Q vs ds w r h
  unfold sumM at h
  split at h
  · rename_i d
    cases r with
    | cons r1 r2 =>
      cases r2
      cases q : sqL S d with
      | none => rw [q] at h; exact False.elim h
      | some xs =>
        rw [q] at h
        cases q2 : intL xs with
        | none => simp only [Option.bind_some, q2] at h; exact False.elim h
        | some bs =>
          simp only [Option.bind_some, q2] at h
          obtain ⟨a, us, rfl, g1, g2⟩ := sqL_ok w r1 q
          exact ⟨a, bs, rfl, by rw [← ints_ok g2 q2]; exact g1, h.here w (.int _)⟩
  · exact False.elim h
/-- repr of a bool -/
theorem call_repr_bl : CallR X (.builtin "repr") (fun xs H Q => ∃ b, xs = [.bl b] ∧ Q (.str (if b then "True" else "False")) H) := by
  intro pins s σ H xs us Q I r h
  obtain ⟨b, rfl, q⟩ := h
  obtain ⟨u, rfl, r1⟩ := vals1 r
  cases r1
  exact PySem.P.repr_of_bool ⟨.str (if b then "True" else "False"), H, I.tok _, ⟨_, rfl⟩, q⟩
def reprM (ds : List D) : M D := match ds with
  | [.bl b] => ret (.str (if b then "True" else "False"))
  | _ => stk
theorem fn_repr : FnR X T W (fun xs H Q => ∃ b, xs = [.bl b] ∧ Q (.str (if b then "True" else "False")) H) reprM := by
  intro m p S σ H Q vs ds w r h
  unfold reprM at h
  split at h
  · cases r with
    | cons r1 r2 =>
      cases r2
      cases r1
      exact ⟨_, rfl, PostE.here (S := S) h w (.str _)⟩
  · exact False.elim h
end
theorem bt_all : bootBuiltins "all" = some (.builtin "all") := by decide +kernel
theorem bt_any : bootBuiltins "any" = some (.builtin "any") := by decide +kernel
theorem bt_sum : bootBuiltins "sum" = some (.builtin "sum") := by decide +kernel
theorem bt_len : bootBuiltins "len" = some (.builtin "len") := by decide +kernel
theorem bt_abs : bootBuiltins "abs" = some (.builtin "abs") := by decide +kernel
theorem bt_min : bootBuiltins "min" = some (.builtin "min") := by decide +kernel
theorem bt_max : bootBuiltins "max" = some (.builtin "max") := by decide +kernel
theorem bt_repr : bootBuiltins "repr" = some (.builtin "repr") := by decide +kernel
theorem bt_isinstance : bootBuiltins "isinstance" = some (.builtin "isinstance") := by decide +kernel
theorem bt_int : bootBuiltins "int" = some (.type "int") := by decide +kernel
theorem bt_bool : bootBuiltins "bool" = some (.type "bool") := by decide +kernel
theorem bt_str : bootBuiltins "str" = some (.type "str") := by decide +kernel
theorem bt_tuple : bootBuiltins "tuple" = some (.type "tuple") := by decide +kernel
theorem bt_list : bootBuiltins "list" = some (.type "list") := by decide +kernel
theorem bt_dict : bootBuiltins "dict" = some (.type "dict") := by decide +kernel
end R

namespace R
open PySem PySem.Spec PyProof.Rows L2
section
variable {X : Cx} {T : CT} {W : WX} {ρ : REnv} {a b e c d o : Expr} {ta tb te tc td to : TE} {ca cb ce cc cd co : M D} {pos p0 p2 apos cpos : Pos} {es : List Expr} {tr : TA} {cr : M (List D)} {x : Str}
/-! ### tuple(), list() -/
def tupleM (ds : List D) : M D := fun S => match ds with
  | [.tup xs] => .ok (.tup xs) S
  | [d] => match sqL S d with
    | some xs => .ok (.tup xs) S
    | none => .stuck
  | _ => .stuck
def rTupleA (K : PySem.W.Frag) : List V → Hp → VK → Prop := fun xs H Q => ∃ p ys, xs = [.ref p] ∧ ((SqL K H p ys ∧ ∀ l, H l = none → Q (.ref l) (upd H l (.tup ys))) ∨ (SqT K H p ys ∧ Q (.ref p) H))
theorem fn_tuple : FnR X T W (rTupleA X.K) tupleM := by
  intro m p S σ H Q vs ds w r h
  unfold tupleM at h
  split at h
  · cases r with
    | cons r1 r2 =>
      cases r2
      cases r1 with
      | tup h1 h2 => exact ⟨_, _, rfl, .inr ⟨h1.sq, h.here w (.tup h1 h2)⟩⟩
  · cases r with
    | cons r1 r2 =>
      cases r2
      split at h
      · rename_i xs hx
        obtain ⟨a, us, rfl, q1, q2⟩ := sqL_ok w r1 hx
        exact ⟨_, _, rfl, .inl ⟨q1, fun l n => h.tup w q2 n⟩⟩
      · exact False.elim h
  · exact False.elim h
def sqA (S : Sto) : D → Option (List D)
  | .tup xs => some xs
  | d => sqL S d
/-- a new list as a value -/
def listM (ds : List D) : M D := fun S => match ds with
  | [d] => match sqA S d with
    | some xs => .ok (.lst xs) S
    | none => .stuck
  | _ => .stuck
/-- a new list as a cell -/
def listC (ds : List D) : M D := fun S => match ds with
  | [d] => match sqA S d with
    | some xs => .ok (.loc S.length) (S ++ [.lst xs])
    | none => .stuck
  | _ => .stuck
def rListA (K : PySem.W.Frag) : List V → Hp → VK → Prop := fun xs H Q => ∃ p ys, xs = [.ref p] ∧ (SqL K H p ys ∨ SqT K H p ys) ∧ ∀ l, H l = none → Q (.ref l) (upd H l (.lst ys))
theorem sqA_ok {K : PySem.W.Frag} {mg : Str → Option Value} {m p : List Addr} {S : Sto} {H : Hp} {v : V} {d : D} {ds : List D} (w : Wd K mg T m p S H) (r : Rep K m p H v d) (h : sqA S d = some ds) : ∃ a xs, v = .ref a ∧ (SqL K H a xs ∨ SqT K H a xs) ∧ Reps K m p H xs ds := by
  cases r with
  | tup h1 h2 => cases h; exact ⟨_, _, rfl, .inr h1.sq, h2⟩
  | rol h1 h2 =>
    obtain ⟨a, us, e, q1, q2⟩ := sqL_ok w (.rol h1 h2) h
    exact ⟨a, us, e, .inl q1, q2⟩
  | lst h1 h2 =>
    obtain ⟨a, us, e, q1, q2⟩ := sqL_ok w (.lst h1 h2) h
    exact ⟨a, us, e, .inl q1, q2⟩
  | loc h1 =>
    obtain ⟨a, us, e, q1, q2⟩ := sqL_ok w (.loc h1) h
    exact ⟨a, us, e, .inl q1, q2⟩
  | _ => cases h
theorem fn_list : FnR X T W (rListA X.K) listM := by
  intro m p S σ H Q vs ds w r h
  unfold listM at h
  split at h
  · cases r with
    | cons r1 r2 =>
      cases r2
      split at h
      · rename_i xs hx
        obtain ⟨a, us, rfl, q1, q2⟩ := sqA_ok w r1 hx
        exact ⟨_, _, rfl, q1, fun l n => h.lst w q2 n⟩
      · exact False.elim h
  · exact False.elim h
theorem fn_listC : FnR X T W (rListA X.K) listC := by
  intro m p S σ H Q vs ds w r h
  unfold listC at h
  split at h
  · cases r with
    | cons r1 r2 =>
      cases r2
      split at h
      · rename_i xs hx
        obtain ⟨a, us, rfl, q1, q2⟩ := sqA_ok w r1 hx
        exact ⟨_, _, rfl, q1, fun l n => h.lstC w q2 n⟩
      · exact False.elim h
  · exact False.elim h
/-! ### methods of built-in types -/
/-- the type asked ahead of the arguments -/
def tyM (b : String) (d : D) : M D := fun S => if tyD S d = some b then .ok d S else .stuck
def MtOk (X : Cx) (T : CT) (W : WX) (r : V → List V → Hp → VK → Prop) (g : D → List D → M D) : Prop :=
  ∀ {m p : List Addr} {S : Sto} {σ : L2.St} {H : Hp} {Q : VK} {x : V} {d : D} {vs : List V} {ds : List D}, Wd X.K X.mg T m p S H → Rep X.K m p H x d → Reps X.K m p H vs ds → PostE X.K X.mg T W σ m p H (g d ds S) Q → r x vs H Q
/-- o.name(es): b the type's name -/
def mtM (b : String) (g : D → List D → M D) (co : M D) (cr : M (List D)) : M D := bnd co fun d => bnd (tyM b d) fun d => bnd cr fun ds => g d ds
theorem tyV_ok {m p : List Addr} {S : Sto} {H : Hp} {v : V} {d : D} {t : String} (w : Wd X.K X.mg T m p S H) (r : Rep X.K m p H v d) (h : tyD S d = some t) (ht : t = "list" ∨ t = "str") : tyV X.K t v H := by
  rcases ht with rfl | rfl
  · have : ∃ xs, sqL S d = some xs := by
      cases r with
      | @loc n a h1 =>
        unfold tyD at h
        dsimp only at h
        cases e : S[n]? with
        | none => rw [e] at h; simp at h
        | some c =>
          cases c with
          | lst xs => exact ⟨xs, by show lsOf S (.loc n) = _; unfold lsOf; dsimp only; rw [e]⟩
          | dict _ => rw [e] at h; simp at h
          | ins _ _ => rw [e] at h; simp at h
      | lst => exact ⟨_, rfl⟩
      | rol => exact ⟨_, rfl⟩
      | ty => cases h
      | ob => cases h
      | _ => simp [tyD] at h
    obtain ⟨xs, e⟩ := this
    obtain ⟨a, us, rfl, q1, q2⟩ := sqL_ok w r e
    exact .inl ⟨rfl, _, q1⟩
  · cases r with
    | str => exact rfl
    | @loc n a h1 =>
      unfold tyD at h
      dsimp only at h
      split at h
      all_goals simp at h
    | ty => cases h
    | ob => cases h
    | _ => simp [tyD] at h
theorem tyM_bnd {m p : List Addr} {S : Sto} {σ : L2.St} {H : Hp} {Q : VK} {b : String} {d : D} {k : D → M D} (h : PostE X.K X.mg T W σ m p H (bnd (tyM b d) k S) Q) : tyD S d = some b ∧ PostE X.K X.mg T W σ m p H (k d S) Q := by
  unfold bnd tyM at h
  by_cases e : tyD S d = some b
  · rw [if_pos e] at h; exact ⟨e, h⟩
  · rw [if_neg e] at h; exact False.elim h
theorem RE.mt {b id : String} {name : Str} {r : V → List V → Hp → VK → Prop} {g : D → List D → M D} (pa : PlainAttrs b) (slot : Slot b name id) (hty : typeOf (.builtin id) = pure (.type "method_descriptor")) (hm : MtR X id r) (hg : MtOk X T W r g) (hb : b = "list" ∨ b = "str")
    (ho : RE X T W ρ o to co) (ha : RA X T W ρ (e :: es) tr cr) (hbase : attributeBase o name X.env (eval o X.env) = eval o X.env := by rfl)
    (hfew : ((backTo cpos (starEach (e :: es) X.env)).all (fun x => !x.1) && (backToKw cpos (keywordEach [] X.env)).all (fun x => x.1.isSome)
      && decide ((e :: es).length + ([] : List Keyword).length + (if ([] : List Keyword).isEmpty then 0 else 1) < 30)) = true := by rfl)
    (hline : (apos.endLine == cpos.line) = true := by rfl) (hs : starEach (e :: es) X.env = (false, eval e X.env) :: starEach es X.env := by rfl) (hplain : (backTo cpos (starEach es X.env)).any (·.1) = false := by rfl) :
    RE X T W ρ (.Call (.Attribute o name apos) (e :: es) [] cpos) (tBM X.K b r to tr) (mtM b g co cr) :=
  ⟨pe_bm pa slot hty hm ho.pe ha.pa hbase hfew hline hs hplain, fun w en h => ho.rd w en (h.bnd fun _ _ _ _ _ e1 w1 r1 h1 => by
    obtain ⟨ht, h2⟩ := tyM_bnd h1
    exact ⟨tyV_ok w1 r1 ht hb, ha.rd w1 (en.ext e1) (PostA.bndE h2 fun _ _ _ _ _ e2 w2 r2 h3 => hg w2 (r1.ext e2) r2 h3)⟩)⟩
theorem RE.mt0 {b id : String} {name : Str} {r : V → List V → Hp → VK → Prop} {g : D → List D → M D} (pa : PlainAttrs b) (slot : Slot b name id) (hty : typeOf (.builtin id) = pure (.type "method_descriptor")) (hm : MtR X id r) (hg : MtOk X T W r g) (hb : b = "list" ∨ b = "str")
    (ho : RE X T W ρ o to co) (hbase : attributeBase o name X.env (eval o X.env) = eval o X.env := by rfl) (hline : (apos.endLine == cpos.line) = true := by rfl) :
    RE X T W ρ (.Call (.Attribute o name apos) [] [] cpos) (tBM0 X.K b r to) (mtM b g co (ret [])) :=
  ⟨pe_bm0 pa slot hty hm ho.pe hbase hline, fun w en h => ho.rd w en (h.bnd fun _ _ _ _ _ e1 w1 r1 h1 => by
    obtain ⟨ht, h2⟩ := tyM_bnd h1
    exact ⟨tyV_ok w1 r1 ht hb, hg w1 r1 .nil h2⟩)⟩
/-- append to a cell -/
def appendM (d : D) (ds : List D) : M D := fun S => match d, ds with
  | .loc n, [y] => match S[n]? with
    | some (.lst xs) => if xs.length < lim then .ok .non (S.set n (.lst (xs ++ [y]))) else .stuck
    | _ => .stuck
  | _, _ => .stuck
theorem ok_append : MtOk X T W rAppend appendM := by
  intro m p S σ H Q x d vs ds w rx r h
  unfold appendM at h
  split at h
  · cases r with
    | cons r1 r2 =>
      cases r2
      cases rx with
      | @loc n a h1 =>
        split at h
        · rename_i xs hx
          split at h
          · rename_i hz
            obtain ⟨us, q1, q2⟩ := w.cel _ _ _ h1 hx
            refine ⟨_, us, _, rfl, rfl, q1, by rw [q2.length]; exact Nat.lt_of_lt_of_le hz lim_line, ?_⟩
            exact h .non m _ (Ext.put h1) (w.put h1 ⟨_, upd_same, (q2.append (.cons r1 .nil)).ext (Ext.put h1)⟩) .non
          · exact False.elim h
        · exact False.elim h
  · exact False.elim h
/-! ### slices -/
def prtV : V → Option (Option Int)
  | .non => some none
  | .int i => some (some i)
  | _ => none
def prtD : D → Option (Option Int)
  | .non => some none
  | .int i => some (some i)
  | _ => none
def noP : M D := ret .non
/-- a part that is told must be a number -/
def somP (c : M D) : M D := bnd c fun d => match d with
  | .int i => ret (.int i)
  | _ => stk
structure RO (X : Cx) (T : CT) (W : WX) (ρ : REnv) (e : Option Expr) (t : TO) (c : M D) : Prop where
  po : PO X e t
  rd : ∀ {m p : List Addr} {S : Sto} {σ : L2.St} {H : Hp} {Q : Option Int → Hp → Prop}, Wd X.K X.mg T m p S H → EnvOk X.K m p H σ ρ → PostE X.K X.mg T W σ m p H (c S) (fun v H' => ∃ o, prtV v = some o ∧ Q o H') → t σ H Q
theorem RO.none : RO X T W ρ none tNoPart noP := ⟨po_none, fun w en h => by
  obtain ⟨o, e, q⟩ := h.here w .non
  cases e
  exact q⟩
theorem RO.some (h : RE X T W ρ e te ce) : RO X T W ρ (some e) (tPart te) (somP ce) := ⟨po_some h.pe, fun w en hh => h.rd w en (hh.bnd fun dd S1 v m1 H1 e1 w1 r1 h1 => by
  cases r1 with
  | int i =>
    obtain ⟨o, e, q⟩ := h1.here w1 (.int i)
    cases e
    exact ⟨i, rfl, q⟩
  | _ => exact False.elim h1)⟩
def cutD (xs : List D) (lo hi : Option Int) : List D := (xs.drop (HT.sIx xs.length 0 lo)).take (HT.sIx xs.length xs.length hi - HT.sIx xs.length 0 lo)
def cutM (x l h : D) : M D := fun S => match prtD l, prtD h with
  | some lo, some hi => match x with
    | .str z => if z.length ≤ lim then .ok (.str (cutS z lo hi)) S else .stuck
    | .tup xs => if HT.sIx xs.length 0 lo = 0 ∧ HT.sIx xs.length xs.length hi = xs.length then .stuck else .ok (.tup (cutD xs lo hi)) S
    | x => match sqL S x with
      | some xs => .ok (.lst (cutD xs lo hi)) S
      | none => .stuck
  | _, _ => .stuck
def prM (d : D) : M D := fun S => match prtD d with
  | some _ => .ok d S
  | none => .stuck
def sliceM (ca cl ch : M D) : M D := bnd ca fun x => bnd cl fun l => bnd (prM l) fun l => bnd ch fun h => cutM x l h
def rSl (K : PySem.W.Frag) : V → Option Int → Option Int → Hp → VK → Prop := fun x lo hi H Q => (rSlS x lo hi H Q ∨ rSlT K x lo hi H Q) ∨ rSlL K x lo hi H Q
theorem Reps.cut {K : PySem.W.Frag} {m p : List Addr} {H : Hp} {vs : List V} {ds : List D} (r : Reps K m p H vs ds) (lo hi : Option Int) : Reps K m p H (cutV vs lo hi) (cutD ds lo hi) := by
  unfold cutV cutD
  rw [r.length]
  exact (r.drop _).take _
theorem prt_of {K : PySem.W.Frag} {m p : List Addr} {H : Hp} {v : V} {d : D} (r : Rep K m p H v d) : prtD d = prtV v := by cases r <;> rfl
theorem cut_ok {m p : List Addr} {S : Sto} {σ : L2.St} {H : Hp} {Q : VK} {v : V} {d l h : D} {lo hi : Option Int} (w : Wd X.K X.mg T m p S H) (r : Rep X.K m p H v d) (el : prtD l = some lo) (eh : prtD h = some hi) (q : PostE X.K X.mg T W σ m p H (cutM d l h S) Q) : rSl X.K v lo hi H Q := by
  unfold cutM at q
  rw [el, eh] at q
  dsimp only at q
  split at q
  · cases r
    split at q
    · rename_i hz
      exact .inl (.inl ⟨_, rfl, Nat.le_trans hz lim_line, q.here w (.str _)⟩)
    · exact False.elim q
  · cases r with
    | tup h1 h2 =>
      split at q
      · exact False.elim q
      · rename_i hz
        exact .inl (.inr ⟨_, _, rfl, h1.sq, by rw [h2.length]; exact hz, fun p n => q.tup w (h2.cut lo hi) n⟩)
  · split at q
    · rename_i xs hx
      obtain ⟨a, us, rfl, q1, q2⟩ := sqL_ok w r hx
      exact .inr ⟨_, _, rfl, q1, fun p n => q.lst w (q2.cut lo hi) n⟩
    · exact False.elim q
theorem prM_bnd {m p : List Addr} {S : Sto} {σ : L2.St} {H : Hp} {Q : VK} {d : D} {k : D → M D} (h : PostE X.K X.mg T W σ m p H (bnd (prM d) k S) Q) : (∃ o, prtD d = some o) ∧ PostE X.K X.mg T W σ m p H (k d S) Q := by
  unfold bnd prM at h
  cases e : prtD d with
  | some o => rw [e] at h; exact ⟨⟨o, rfl⟩, h⟩
  | none => rw [e] at h; exact False.elim h
theorem RE.slice {lo hi : Option Expr} {tl th : TO} {cl ch : M D} (ha : RE X T W ρ a ta ca) (hl : RO X T W ρ lo tl cl) (hh : RO X T W ρ hi th ch) : RE X T W ρ (.Subscript a (.Slice lo hi none p2) pos) (tSl (fun x lo hi H Q => (rSlS x lo hi H Q ∨ rSlT X.K x lo hi H Q) ∨ rSlL X.K x lo hi H Q) ta tl th) (sliceM ca cl ch) :=
  ⟨pe_slice ((SlR.or sl_str sl_tup).or sl_list) ha.pe hl.po hh.po, fun w en h => ha.rd w en (h.bnd fun d1 S1 v1 m1 H1 e1 w1 r1 h1 => hl.rd w1 (en.ext e1) (h1.bnd fun d2 S2 v2 m2 H2 e2 w2 r2 h2 => by
    obtain ⟨⟨lo, el⟩, h3⟩ := prM_bnd h2
    refine ⟨lo, by rw [← prt_of r2]; exact el, hh.rd w2 ((en.ext e1).ext e2) (h3.bnd fun d3 S3 v3 m3 H3 e3 w3 r3 h4 => ?_)⟩
    cases eh : prtD d3 with
    | some hi => exact ⟨hi, by rw [← prt_of r3]; exact eh, cut_ok w3 ((r1.ext e2).ext e3) el eh h4⟩
    | none =>
      unfold cutM at h4
      rw [el, eh] at h4
      exact False.elim h4))⟩
/-! ### x in y -/
theorem room65 {k : Nat} {A : Around} (r : Room k A) : A.units + 65 < cLine := by have := r.un; omega
def rIn3 (K : PySem.W.Frag) (g : Bool → Bool) : R2 := fun x y H Q =>
  (∃ (c : Nat) (z : Str), x = .str ⟨#[c]⟩ ∧ y = .str z ∧ Q (.bl (g (decide (c ∈ z.cps.toList)))) H) ∨
  (∃ d ds, Dp K H x d ∧ (Dp K H y (.list ds) ∨ Dp K H y (.tuple ds)) ∧ SeqAt.shaped d = true ∧ SeqAt.shaped (.list ds) = true ∧ Q (.bl (g (ds.any fun z => PyData.eqv z d))) H)
theorem op_in3 (hu : X.A.units + 65 < cLine) : OpR X (compareOp .In) (rIn3 X.K fun b => b) := by
  intro pins s σ H x y v u Q I rx ry h
  rcases h with h | ⟨d, ds, hd, he | he, sd, se, q⟩
  · exact op_in_sign pins s σ H x y v u Q I rx ry h
  · exact op_inD hu pins s σ H x y v u Q I rx ry ⟨d, ds, hd, he, sd, se, q⟩
  · obtain ⟨as, r1⟩ := Dp.reads I d x v hd rx
    obtain ⟨bs, r2⟩ := Dp.reads I (.tuple ds) y u he ry
    exact SeqAt.in_tuple_reads r2 r1 (SeqAt.canLay_of_shaped se) (SeqAt.canLay_of_shaped sd) (room_in_shaped sd hu) ⟨.bl _, H, I, rfl, q⟩
theorem op_notIn3 (hu : X.A.units + 65 < cLine) : OpR X (compareOp .NotIn) (rIn3 X.K fun b => !b) := by
  intro pins s σ H x y v u Q I rx ry h
  rcases h with h | ⟨d, ds, hd, he | he, sd, se, q⟩
  · exact op_notIn_sign pins s σ H x y v u Q I rx ry h
  · exact op_notInD hu pins s σ H x y v u Q I rx ry ⟨d, ds, hd, he, sd, se, q⟩
  · obtain ⟨as, r1⟩ := Dp.reads I d x v hd rx
    obtain ⟨bs, r2⟩ := Dp.reads I (.tuple ds) y u he ry
    exact SeqAt.notIn_tuple_reads r2 r1 (SeqAt.canLay_of_shaped se) (SeqAt.canLay_of_shaped sd) (room_in_shaped sd hu) ⟨.bl _, H, I, rfl, q⟩
/-- the items of y as data -/
def itP (S : Sto) : D → Option (List PyData)
  | .tup xs => D.pys xs
  | d => (sqL S d).bind D.pys
def inG (g : Bool → Bool) (x y : D) : M D := fun S => match x, y with
  | .str a, .str z => match a.cps.toList with
    | [c] => .ok (.bl (g (decide (c ∈ z.cps.toList)))) S
    | _ => .stuck
  | x, y => match x.py, itP S y with
    | some d, some ds => if SeqAt.shaped d = true ∧ SeqAt.shaped (.list ds) = true then .ok (.bl (g (ds.any fun z => PyData.eqv z d))) S else .stuck
    | _, _ => .stuck
def inM (x y : D) : M D := inG (fun b => b) x y
def notInM (x y : D) : M D := inG (fun b => !b) x y
theorem itP_ok {K : PySem.W.Frag} {mg : Str → Option Value} {m p : List Addr} {S : Sto} {H : Hp} {v : V} {d : D} {ds : List PyData} (w : Wd K mg T m p S H) (r : Rep K m p H v d) (h : itP S d = some ds) : Dp K H v (.list ds) ∨ Dp K H v (.tuple ds) := by
  have key : ∀ xs, sqL S d = some xs → D.pys xs = some ds → Dp K H v (.list ds) ∨ Dp K H v (.tuple ds) := by
    intro xs e1 e2
    obtain ⟨a, us, rfl, q1, q2⟩ := sqL_ok w r e1
    exact .inl (.lst q1 (D.pys_ok _ _ _ q2 e2))
  have key2 : (sqL S d).bind D.pys = some ds → Dp K H v (.list ds) ∨ Dp K H v (.tuple ds) := by
    intro h
    cases e : sqL S d with
    | none => rw [e] at h; cases h
    | some xs => rw [e] at h; exact key xs e h
  cases d with
  | tup xs =>
    cases r with
    | tup h1 h2 => exact .inr (.tup h1.sq (D.pys_ok _ _ _ h2 h))
  | _ => exact key2 h
theorem ok_inG (g : Bool → Bool) : OpOk X T W (rIn3 X.K g) (inG g) := by
  intro m p S σ H Q x y d e w rx ry h
  unfold inG at h
  split at h
  · split at h
    · rename_i a z _ c hc
      cases rx; cases ry
      refine .inl ⟨c, _, ?_, rfl, h.here w (.bl _)⟩
      have : a = ⟨#[c]⟩ := by
        have : a.cps = #[c] := by rw [← Array.toList_inj]; exact hc
        cases a; simpa using this
      rw [this]
    · exact False.elim h
  · cases q1 : d.py with
    | none => rw [q1] at h; exact False.elim h
    | some a =>
      cases q2 : itP S e with
      | none => rw [q1, q2] at h; exact False.elim h
      | some b =>
        rw [q1, q2] at h
        dsimp only at h
        split at h
        · rename_i hz
          exact .inr ⟨a, b, D.py_ok d x a rx q1, itP_ok w ry q2, hz.1, hz.2, h.here w (.bl _)⟩
        · exact False.elim h
theorem ok_in : OpOk X T W (rIn3 X.K fun b => b) inM := ok_inG _
theorem ok_notIn : OpOk X T W (rIn3 X.K fun b => !b) notInM := ok_inG _
end
end R

namespace R
open PySem PySem.Spec PyProof.Rows L2
/-! ### lists walked as they stand: the items of a cell are read turn by turn -/
def forC (n : Nat) (g : D → REnv → M REnv) (body : REnv → M Fl) : Nat → Nat → REnv → M Fl
  | 0, i, ρ => fun S => match S[n]? with
    | some (.lst xs) => if xs.length = i then .ok (.nx ρ) S else .stuck
    | _ => .stuck
  | k + 1, i, ρ => fun S => match S[n]? with
    | some (.lst xs) => match xs[i]? with
      | some d => match g d ρ S with
        | .ok ρ1 S1 => lpK (body ρ1) (forC n g body k (i + 1)) S1
        | _ => .stuck
      | none => .stuck
    | _ => .stuck
def forV (g : D → REnv → M REnv) (body : REnv → M Fl) (d : D) (ρ : REnv) : M Fl := fun S => match d with
  | .loc n => match S[n]? with
    | some (.lst xs) => forC n g body xs.length 0 ρ S
    | _ => .stuck
  | .tup xs => forL g body xs ρ S
  | .lst xs => forL g body xs ρ S
  | .rol xs => forL g body xs ρ S
  | _ => .stuck
def forX (ρ : REnv) (ca : M D) (g : D → REnv → M REnv) (body : REnv → M Fl) : M Fl := lft ρ ca fun d => forV g body d ρ
section
variable {X : Cx} {T : CT} {W : WX} {ρ : REnv} {a b e c tg it : Expr} {ta tb te tc : TE} {ca cb ce cc : M D} {pos p0 : Pos} {es : List Expr} {tr : TA} {cr : M (List D)} {sts : List Stmt} {t u : TS} {cs : M Fl} {ks : REnv → M Fl}
theorem for_core {is : List Nat} {tgt : TG} {g : D → REnv → M REnv} (hg : RG X T is tg tgt g) (hb : ∀ ρ, RSs X T W ρ sts t (ks ρ)) {m1 p : List Addr} {S1 : Sto} {σ : L2.St} {H1 : Hp} {E : Ends} {J : It} {ds : List D}
    (w1 : Wd X.K X.mg T m1 p S1 H1) (en1 : EnvOk X.K m1 p H1 σ ρ) (h1 : PostS X.K X.mg T W m1 p H1 (forL g ks ds ρ S1) E) (hJ : IterOk X.K X.mg T m1 p H1 J ds) :
    ∃ Z : Nat → Nat → L2.St → Hp → Prop, (∃ m, Z 0 m σ H1) ∧ ∀ i m σ H, Z i m σ H →
      (J.stop i H ∧ E.nx σ H) ∨ (J.go i H ∧ ∃ N : L2.St → Hp → Prop, (∀ σ' H', N σ' H' → ∃ m', m' < m ∧ Z (i + 1) m' σ' H') ∧ ∀ x H', J.yld i H x H' → tgt x σ H' fun σ2 H2 => t { E with nx := N, ct := N, bk := E.nx } σ2 H2) := by
  refine ⟨fun i k σ2 H2 => k = ds.length - i ∧ i ≤ ds.length ∧ ∃ m2 S2 ρ2, Ext m1 H1 m2 H2 ∧ Wd X.K X.mg T m2 p S2 H2 ∧ EnvOk X.K m2 p H2 σ2 ρ2 ∧ PostS X.K X.mg T W m2 p H2 (forL g ks (ds.drop i) ρ2 S2) E, ⟨_, rfl, Nat.zero_le _, m1, S1, ρ, Ext.refl, w1, en1, h1⟩, ?_⟩
  rintro i k σ2 H2 ⟨rfl, hi2, m2, S2, ρ2, e2, w2, en2, h2⟩
  obtain ⟨hgo, hstop⟩ := hJ m2 p S2 H2 i e2 PNew.refl w2
  cases hd : ds[i]? with
  | none =>
    refine .inl ⟨hstop hd, ?_⟩
    have : ds.drop i = [] := List.drop_eq_nil_of_le (List.getElem?_eq_none_iff.mp hd)
    rw [this] at h2
    exact h2.here w2 en2
  | some d =>
    obtain ⟨hlt, hdi⟩ := List.getElem?_eq_some_iff.mp hd
    have hdrop : ds.drop i = d :: ds.drop (i + 1) := by rw [← hdi]; exact List.drop_eq_getElem_cons hlt
    rw [hdrop] at h2
    obtain ⟨go, hy⟩ := hgo d hd
    refine .inr ⟨go, fun σ3 H3 => ∃ m3 S3 ρ3, Ext m1 H1 m3 H3 ∧ Wd X.K X.mg T m3 p S3 H3 ∧ EnvOk X.K m3 p H3 σ3 ρ3 ∧ PostS X.K X.mg T W m3 p H3 (forL g ks (ds.drop (i + 1)) ρ3 S3) E, fun σ3 H3 hN => ⟨ds.length - (i + 1), by omega, rfl, hlt, hN⟩, fun x H3 y3 => ?_⟩
    obtain ⟨e3, w3, r3⟩ := hy x H3 y3
    have h3 := h2.ext e3
    refine hg.rd w3 (en2.ext e3) r3 ?_
    unfold forL at h3
    cases q3 : g d ρ2 S2 with
    | exc c u S3 => rw [q3] at h3; exact h3
    | stuck => rw [q3] at h3; exact h3
    | ok ρ3 S3 =>
      rw [q3] at h3
      intro σ4 m4 H4 e4 w4 en4 _
      exact (hb ρ3).rd w4 en4 ((h3.ext e4).lp fun ρ5 S5 σ5 m5 H5 e5 w5 en5 h5 => ⟨m5, S5, ρ5, ((e2.trans e3).trans e4).trans e5, w5, en5, h5⟩)
theorem forC_core {is : List Nat} {tgt : TG} {g : D → REnv → M REnv} (hg : RG X T is tg tgt g) (hb : ∀ ρ, RSs X T W ρ sts t (ks ρ)) {m1 p : List Addr} {S1 : Sto} {σ : L2.St} {H1 : Hp} {E : Ends} {n k : Nat} {a : Addr}
    (w1 : Wd X.K X.mg T m1 p S1 H1) (en1 : EnvOk X.K m1 p H1 σ ρ) (hn : m1[n]? = some a) (h1 : PostS X.K X.mg T W m1 p H1 (forC n g ks k 0 ρ S1) E) :
    ∃ Z : Nat → Nat → L2.St → Hp → Prop, (∃ m, Z 0 m σ H1) ∧ ∀ i m σ H, Z i m σ H →
      ((Itl X.K a).stop i H ∧ E.nx σ H) ∨ ((Itl X.K a).go i H ∧ ∃ N : L2.St → Hp → Prop, (∀ σ' H', N σ' H' → ∃ m', m' < m ∧ Z (i + 1) m' σ' H') ∧ ∀ x H', (Itl X.K a).yld i H x H' → tgt x σ H' fun σ2 H2 => t { E with nx := N, ct := N, bk := E.nx } σ2 H2) := by
  refine ⟨fun i k σ2 H2 => ∃ m2 S2 ρ2, Ext m1 H1 m2 H2 ∧ Wd X.K X.mg T m2 p S2 H2 ∧ EnvOk X.K m2 p H2 σ2 ρ2 ∧ PostS X.K X.mg T W m2 p H2 (forC n g ks k i ρ2 S2) E, ⟨k, m1, S1, ρ, Ext.refl, w1, en1, h1⟩, ?_⟩
  rintro i k σ2 H2 ⟨m2, S2, ρ2, e2, w2, en2, h2⟩
  have hn2 := e2.pre n a hn
  cases k with
  | zero =>
    unfold forC at h2
    cases hx : S2[n]? with
    | none => rw [hx] at h2; exact False.elim h2
    | some c =>
      rw [hx] at h2
      cases c with
      | lst xs =>
        dsimp only at h2
        split at h2
        · rename_i hl
          obtain ⟨us, q1, q2⟩ := w2.cel n a _ hn2 hx
          refine .inl ⟨⟨us, .of q1, ?_⟩, h2.here w2 en2⟩
          rw [q2.length, hl]
          exact Nat.le_refl _
        · exact False.elim h2
      | dict _ => exact False.elim h2
      | ins _ _ => exact False.elim h2
  | succ k =>
    unfold forC at h2
    cases hx : S2[n]? with
    | none => rw [hx] at h2; exact False.elim h2
    | some c =>
      rw [hx] at h2
      cases c with
      | dict _ => exact False.elim h2
      | ins _ _ => exact False.elim h2
      | lst xs =>
        dsimp only at h2
        obtain ⟨us, q1, q2⟩ := w2.cel n a _ hn2 hx
        cases hd : xs[i]? with
        | none => rw [hd] at h2; exact False.elim h2
        | some d =>
          rw [hd] at h2
          dsimp only at h2
          obtain ⟨v, hv, rv⟩ := q2.get hd
          refine .inr ⟨⟨us, v, .of q1, hv⟩, fun σ3 H3 => ∃ m3 S3 ρ3, Ext m1 H1 m3 H3 ∧ Wd X.K X.mg T m3 p S3 H3 ∧ EnvOk X.K m3 p H3 σ3 ρ3 ∧ PostS X.K X.mg T W m3 p H3 (forC n g ks k (i + 1) ρ3 S3) E, fun σ3 H3 hN => ⟨k, by omega, hN⟩, fun x H3 y3 => ?_⟩
          obtain ⟨rfl, y4⟩ := y3
          have hxv := (y4 us (.of q1)).symm.trans hv
          cases hxv
          refine hg.rd w2 en2 rv ?_
          cases q3 : g d ρ2 S2 with
          | exc c u S3 => rw [q3] at h2; exact h2
          | stuck => rw [q3] at h2; exact h2
          | ok ρ3 S3 =>
            rw [q3] at h2
            intro σ4 m4 H4 e4 w4 en4 _
            exact (hb ρ3).rd w4 en4 ((h2.ext e4).lp fun ρ5 S5 σ5 m5 H5 e5 w5 en5 h5 => ⟨m5, S5, ρ5, (e2.trans e4).trans e5, w5, en5, h5⟩)
theorem RS.forX (K : PySem.W.Frag) {is : List Nat} {tgt : TG} {g : D → REnv → M REnv} (hp : PassesOwn (model X.prog X.w) X.A X.env X.xe) (hc : X.calm = true) (ha : RE X T W ρ it ta ca) (hg : RG X T is tg tgt g) (hb : ∀ ρ, RSs X T W ρ sts t (ks ρ))
    (hs : ∀ x, foldedSetIterable it X.env x = pure x := by intro _; rfl) (hK : X.K = K := by rfl) : RS X T W ρ (.For tg it sts [] pos) (tFor (fun σ H R => iList K ta σ H R ∨ iTup K ta σ H R) tgt t) (R.forX ρ ca g ks) := by
  subst hK
  refine ⟨ps_for hp hc (PI.or (pi_list ha.pe) (pi_tup ha.pe)) hg.pg (hb ρ).ps hs, fun {m p S σ H E} w en h => ?_⟩
  unfold R.forX lft at h
  cases q : ca S with
  | exc c u S1 =>
    rw [q] at h
    refine .inl (ha.rd w en ?_)
    rw [q]
    exact fun x fl C dx v m1 H1 h1 h2 e1 w1 r1 hd => h x fl C dx v σ m1 H1 h1 h2 e1 w1 (en.ext e1) r1 hd
  | stuck => rw [q] at h; exact False.elim h
  | ok d S1 =>
    rw [q] at h
    dsimp only at h
    have key : (∃ xs, d = .tup xs) ∨ ¬ ∃ xs, d = .tup xs := Classical.em _
    rcases key with ⟨xs, rfl⟩ | nt
    · refine .inr (ha.rd w en ?_)
      rw [q]
      intro v m1 H1 e1 w1 r1
      cases r1 with
      | tup h1 h2 => exact ⟨_, rfl, ⟨_, h1.sq⟩, for_core hg hb w1 (en.ext e1) (h.ext e1) (iter_tup h1 h2)⟩
    · refine .inl (ha.rd w en ?_)
      rw [q]
      intro v m1 H1 e1 w1 r1
      cases r1 with
      | tup h1 h2 => exact absurd ⟨_, rfl⟩ nt
      | lst h1 h2 => exact ⟨_, rfl, ⟨_, .of h1.2.2⟩, for_core hg hb w1 (en.ext e1) (h.ext e1) (iter_list h1.rol h2)⟩
      | rol h1 h2 => exact ⟨_, rfl, ⟨_, h1.sq⟩, for_core hg hb w1 (en.ext e1) (h.ext e1) (iter_list h1 h2)⟩
      | @loc n a h1 =>
        unfold forV at h
        dsimp only at h
        cases hx : S1[n]? with
        | none => rw [hx] at h; exact False.elim h
        | some c =>
          rw [hx] at h
          cases c with
          | lst xs =>
            obtain ⟨us, q1, q2⟩ := w1.cel n a _ h1 hx
            exact ⟨_, rfl, ⟨us, .of q1⟩, forC_core hg hb w1 (en.ext e1) h1 (h.ext e1)⟩
          | dict _ => exact False.elim h
          | ins _ _ => exact False.elim h
      | _ => exact False.elim h
/-! ### xs[::-1] -/
def revLM (ca : M D) : M D := bnd ca fun d => fun S => match sqL S d with
  | some xs => .ok (.lst xs.reverse) S
  | none => .stuck
theorem RE.revL {k : Nat} {p1 p2 p3 : Pos} (ha : RE X T W ρ a ta ca) : RE X T W ρ (.Subscript a (.Slice none none (some (.UnaryOp .USub (.Constant (.int 1) k p1) p2)) p3) pos) (tRevL X.K ta) (revLM ca) :=
  ⟨pe_revL ha.pe, fun w en h => ha.rd w en (h.bnd fun d S1 v m1 H1 e1 w1 r1 h1 => by
    cases hx : sqL S1 d with
    | none => rw [hx] at h1; exact False.elim h1
    | some xs =>
      rw [hx] at h1
      obtain ⟨a, us, rfl, q1, q2⟩ := sqL_ok w1 r1 hx
      exact ⟨a, us, rfl, q1, fun p n => h1.lst w1 q2.reverse n⟩)⟩
theorem RS.par3 {i j l : Nat} {x y z : Str} {px py pz pt : Pos} {kt k2 pt2} (hc : X.calm = true) (hN : X.N.Nodup) (hi : X.N[i]? = some x) (hj : X.N[j]? = some y) (hl : X.N[l]? = some z) (hij : i ≠ j) (hil : i ≠ l) (hjl : j ≠ l)
    (hx : X.env.scope.names.lookup x = some .local) (hy : X.env.scope.names.lookup y = some .local) (hz : X.env.scope.names.lookup z = some .local) (ha : RA X T W ρ [a, b, c] tr cr)
    (hw : swappedStores [.Tuple [.Name x px, .Name y py, .Name z pz] kt pt] (.Tuple [a, b, c] k2 pt2) X.env = pure (some [x, y, z]))
    (hs : swapsWithSole [.Tuple [.Name x px, .Name y py, .Name z pz] kt pt] (.Tuple [a, b, c] k2 pt2) pos.line X.env = pure false := by rfl) :
    RS X T W ρ (.Assign [.Tuple [.Name x px, .Name y py, .Name z pz] kt pt] (.Tuple [a, b, c] k2 pt2) pos) (tPar3 i j l tr) (R.par3 i j l ρ cr) :=
  ⟨ps_par3 hc hN hi hj hl hij hil hjl hx hy hz ha.pa hw hs, fun w en h => ha.rd w en (h.lftA en fun ds _ vs m1 H1 _ w1 r1 en1 h1 => by
    split at h1
    · cases r1 with
      | cons r1 r2 =>
        cases r2 with
        | cons r2 r3 =>
          cases r3 with
          | cons r3 r4 =>
            cases r4
            exact ⟨_, _, _, rfl, h1 _ m1 H1 Ext.refl w1 (((en1.set r1).set r2).set r3)⟩
    · exact False.elim h1)⟩
end
end R

namespace R
open PySem PySem.Spec PyProof.Rows L2
section
variable {X : Cx} {T : CT} {W : WX} {ρ : REnv} {a b e c tg it : Expr} {ta tb te tc : TE} {ca cb ce cc : M D} {pos p0 : Pos} {es : List Expr} {tr : TA} {cr : M (List D)} {st : Stmt} {x : Str}
/-! ### what is never come to -/
theorem RE.dead : RE X T W ρ e (fun _ _ _ => False) stk := ⟨⟨fun _ _ _ _ _ _ h => False.elim h⟩, fun _ _ h => h⟩
theorem RS.dead : RS X T W ρ st (fun _ _ _ => False) stk := ⟨⟨fun _ _ _ _ _ _ h => False.elim h⟩, fun _ _ h => h⟩
/-! ### products of texts and of lists -/
def smulM (x y : D) : M D := match x, y with
  | .str z, .int n => if n = 0 then ret (.str Str.empty) else if n = 1 then ret (.str z) else stk
  | _, _ => stk
theorem op_smul : OpR X (binaryOp .Mult) (fun x y H Q => ∃ z n, x = .str z ∧ y = .int n ∧ ((n = 0 ∧ Q (.str Str.empty) H) ∨ (n = 1 ∧ Q (.str z) H))) := by
  intro pins s σ H x y v u Q I rx ry h
  obtain ⟨z, n, rfl, rfl, h⟩ := h
  obtain ⟨t, rfl⟩ := rx
  obtain ⟨t2, rfl⟩ := ry
  rcases h with ⟨rfl, q⟩ | ⟨rfl, q⟩
  · exact P.mul_str_none (by decide) (by decide) ⟨.str Str.empty, H, I.tok _, ⟨_, rfl⟩, q⟩
  · exact P.mul_str (by decide) (fun _ e => by simp at e) (fun _ e => by simp at e) ⟨.str z, H, I, ⟨_, rfl⟩, q⟩
theorem ok_smul : OpOk X T W (fun x y H Q => ∃ z n, x = .str z ∧ y = .int n ∧ ((n = 0 ∧ Q (.str Str.empty) H) ∨ (n = 1 ∧ Q (.str z) H))) smulM := by
  intro m p S σ H Q x y d e w rx ry h
  unfold smulM at h
  split at h
  · cases rx; cases ry
    split at h
    · rename_i h0
      exact ⟨_, _, rfl, rfl, .inl ⟨h0, h.here w (.str _)⟩⟩
    · split at h
      · rename_i h1
        exact ⟨_, _, rfl, rfl, .inr ⟨h1, h.here w (.str _)⟩⟩
      · exact False.elim h
  · exact False.elim h
/-- a list so many times -/
def repD (xs : List D) : Nat → List D
  | 0 => []
  | n + 1 => xs ++ repD xs n
def lmulM (x y : D) : M D := fun S => match lsOf S x, y with
  | some xs, .int n => if 0 ≤ n ∧ n < 1000 ∧ xs.length * n.toNat ≤ lim then .ok (.lst (repD xs n.toNat)) S else .stuck
  | _, _ => .stuck
/-- the product as a cell -/
def lmulC (x y : D) : M D := fun S => match lsOf S x, y with
  | some xs, .int n => if 0 ≤ n ∧ n < 1000 ∧ xs.length * n.toNat ≤ lim then .ok (.loc S.length) (S ++ [.lst (repD xs n.toNat)]) else .stuck
  | _, _ => .stuck
theorem Reps.rep {K : PySem.W.Frag} {m p : List Addr} {H : Hp} {vs : List V} {ds : List D} (r : Reps K m p H vs ds) : ∀ n, Reps K m p H (List.replicate n vs).flatten (repD ds n)
  | 0 => .nil
  | n + 1 => by rw [List.replicate_succ, List.flatten_cons]; exact r.append (Reps.rep r n)
theorem ok_lmul : OpOk X T W rRep lmulM := by
  intro m p S σ H Q x y d e w rx ry h
  unfold lmulM at h
  split at h
  · rename_i xs n hx
    cases ry
    split at h
    · rename_i hz
      obtain ⟨a, us, rfl, q1, q2⟩ := lsOf_ok w rx hx
      exact ⟨a, n, us, rfl, rfl, q1, by omega, by omega, by rw [q2.length]; exact Nat.le_trans hz.2.2 lim_line, fun p hp => h.lst w (q2.rep _) hp⟩
    · exact False.elim h
  · exact False.elim h
theorem ok_lmulC : OpOk X T W rRep lmulC := by
  intro m p S σ H Q x y d e w rx ry h
  unfold lmulC at h
  split at h
  · rename_i xs n hx
    cases ry
    split at h
    · rename_i hz
      obtain ⟨a, us, rfl, q1, q2⟩ := lsOf_ok w rx hx
      exact ⟨a, n, us, rfl, rfl, q1, by omega, by omega, by rw [q2.length]; exact Nat.le_trans hz.2.2 lim_line, fun p hp => h.lstC w (q2.rep _) hp⟩
    · exact False.elim h
  · exact False.elim h
theorem RE.smul (ha : RE X T W ρ a ta ca) (hb : RE X T W ρ b tb cb) : RE X T W ρ (.BinOp a .Mult b pos) (tOp (fun x y H Q => ∃ z n, x = .str z ∧ y = .int n ∧ ((n = 0 ∧ Q (.str Str.empty) H) ∨ (n = 1 ∧ Q (.str z) H))) ta tb) (bi smulM ca cb) := .bin op_smul ok_smul ha hb
theorem RE.lmul (ha : RE X T W ρ a ta ca) (hb : RE X T W ρ b tb cb) : RE X T W ρ (.BinOp a .Mult b pos) (tOp rRep ta tb) (bi lmulM ca cb) := .bin op_rep ok_lmul ha hb
theorem RE.lmulC (ha : RE X T W ρ a ta ca) (hb : RE X T W ρ b tb cb) : RE X T W ρ (.BinOp a .Mult b pos) (tOp rRep ta tb) (bi R.lmulC ca cb) := .bin op_rep ok_lmulC ha hb
/-! ### str(), int() of texts -/
def strM : List D → M D
  | [.int i] => if i.natAbs.log2 < 1920 then ret (.str (toString i)) else stk
  | _ => stk
theorem fn_str : FnR X T W (fun xs H Q => ∃ i, xs = [.int i] ∧ i.natAbs.log2 < 1920 ∧ Q (.str (toString i)) H) strM := by
  intro m p S σ H Q vs ds w r h
  unfold strM at h
  split at h
  · cases r with
    | cons r1 r2 =>
      cases r1
      cases r2
      split at h
      · rename_i hz
        exact ⟨_, rfl, hz, PostE.here (S := S) h w (.str _)⟩
      · exact False.elim h
  · exact False.elim h
def intX : List D → M D
  | [.int i] => ret (.int i)
  | [.bl k] => ret (.int (if k then 1 else 0))
  | [.str z] => match PySem.intText? z with
    | some n => if z.length ≤ 640 then ret (.int n) else stk
    | none => stk
  | _ => stk
def rIntX : List V → Hp → VK → Prop := fun xs H Q => ((∃ i, xs = [.int i] ∧ Q (.int i) H) ∨ ∃ k, xs = [.bl k] ∧ Q (.int (if k then 1 else 0)) H) ∨ ∃ a n, xs = [.str a] ∧ PySem.intText? a = some n ∧ a.length ≤ 640 ∧ Q (.int n) H
theorem call_intX : CallR X (.type "int") rIntX := call_int1.or call_int_str
theorem fn_intX : FnR X T W rIntX intX := by
  intro m p S σ H Q vs ds w r h
  have key : (∃ z, ds = [.str z]) ∨ ¬ ∃ z, ds = [.str z] := Classical.em _
  rcases key with ⟨z, rfl⟩ | nz
  · cases r with
    | cons r1 r2 =>
      cases r1
      cases r2
      unfold intX at h
      dsimp only at h
      cases hn : PySem.intText? z with
      | none => rw [hn] at h; exact False.elim h
      | some n =>
        rw [hn] at h
        dsimp only at h
        split at h
        · rename_i hz
          exact .inr ⟨_, n, rfl, hn, hz, PostE.here (S := S) h w (.int _)⟩
        · exact False.elim h
  · unfold intX at h
    split at h
    · cases r with
      | cons r1 r2 =>
        cases r1
        cases r2
        exact .inl (.inl ⟨_, rfl, PostE.here (S := S) h w (.int _)⟩)
    · cases r with
      | cons r1 r2 =>
        cases r1
        cases r2
        exact .inl (.inr ⟨_, rfl, PostE.here (S := S) h w (.int _)⟩)
    · exact absurd ⟨_, rfl⟩ nz
    · exact False.elim h
/-! ### split -/
def splitM (d : D) (ds : List D) : M D := match d, ds with
  | .str z, [.str y] => if (y.length == 0) = false ∧ z.length + 2 ≤ lim then ret (.lst ((Txt.split z y).map .str)) else stk
  | _, _ => stk
theorem reps_str {K : PySem.W.Frag} {m p : List Addr} {H : Hp} : ∀ xs : List Str, Reps K m p H (xs.map V.str) (xs.map D.str)
  | [] => .nil
  | x :: xs => .cons (.str x) (reps_str xs)
theorem ok_split : MtOk X T W (fun x xs H Q => ∃ a b, x = .str a ∧ xs = [.str b] ∧ (b.length == 0) = false ∧ a.length + 2 ≤ sizeLine ∧ rNewStrs (Txt.split a b) H Q) splitM := by
  intro m p S σ H Q x d vs ds w rx r h
  unfold splitM at h
  split at h
  · cases r with
    | cons r1 r2 =>
      cases r2
      cases rx
      cases r1
      split at h
      · rename_i hz
        exact ⟨_, _, rfl, rfl, hz.1, Nat.le_trans hz.2 lim_line, fun p hp => PostE.lst (S := S) h w (reps_str _) hp⟩
      · exact False.elim h
  · exact False.elim h
end
end R

namespace R
open PySem PySem.Spec PyProof.Rows L2
/-! ### what the top has left; the law's end -/
structure DefAt (K : PySem.W.Frag) (mg : Str → Option Value) (x qual : Str) (st : Stmt) (ps : List Str) where
  f : Addr
  fd : FuncData
  F : Fun K x qual st f fd
  b : Binds K fd ps []
  g : mg x = some (.ref f)
def DefAt.mk1 {K : PySem.W.Frag} {mg : Str → Option Value} {h : Heap} {x qual : Str} {st : Stmt} {ps : List Str} (X : K.In h) (G : h.Ns mainGlobals mg) {f : Addr} {od an : Option Addr} {sl : Array (Option Value)} {oc kV dc pm cd ct : Value}
    (a : PySem.W.nsIn K mainGlobals x = some (some (.ref f))) (l : K.lookup f = some ⟨oc, od, .func (PySem.W.fnOf x qual (defArgs st) (defBody st) (defScope st) .none kV dc pm an cd ct), sl⟩) (c : PySem.W.codeIn K cd qual = true) (k : PySem.W.keepIn K (.ref f) = true)
    (hb : ∀ (kV doc pm : Value) (an : Option Addr) (cdv ct : Value) (us : List Value), us.length = ps.length → bindArgs (PySem.W.fnOf x qual (defArgs st) (defBody st) (defScope st) .none kV doc pm an cdv ct) ⟨us, []⟩ = pure (ps.zip us)) : DefAt K mg x qual st ps :=
  ⟨f, _, fun_mk (st := st) l c k, (fun_mk (st := st) l c k).binds hb, PySem.W.mg_of X G a⟩
structure ConAt (K : PySem.W.Frag) (mg : Str → Option Value) (x : Str) (d : D) where
  v : V
  u : Value
  hm : mg x = some u
  r : RelV v u
  rep : ∀ m p H, Rep K m p H v d
def spAny (f : Nat → Sp) : Sp := fun vs H Q E => ∃ n, f n vs H Q E
section
variable {P : Program} {w : World} {K : PySem.W.Frag} {mg : Str → Option Value} {base : Heap}
theorem fn_anyN {k : Nat} {f : Addr} {fd : FuncData} {ps : List Str} {g : Nat → Sp} {CX : CXT} (h : ∀ n, FnOk P w K mg base CX k f fd ps (g n)) : FnOk P w K mg base CX k f fd ps (spAny g) :=
  ⟨fun vs H Q E ⟨n, q⟩ => (h n).len vs H Q E q, fun A outer s H args us vs Q E hr he hb hv ⟨n, q⟩ => (h n).run A outer s H args us vs Q E hr he hb hv q⟩
theorem fn_no {x qual : Str} {st : Stmt} {f : Addr} {fd : FuncData} {N ps : List Str} {k n : Nat} {T : CT} (F : Fun K x qual st f fd) (S : FnScope N ps (defScope st)) (hn : ps.length = n) : FnOk P w K mg base (L2.CX P w) (k + 1) f fd ps (spR K mg T n fun _ => stk) :=
  F.okX S (fun vs H Q E h => by rw [h.1, hn]) fun _ _ _ _ _ _ _ _ _ h => by
    obtain ⟨_, _, _, _, _, _, _, z⟩ := h
    exact False.elim z
end
def law_sp (K : PySem.W.Frag) : Sp := fun vs H Q _ => ∃ (a : Addr) (ns : List Int), vs = [.ref a] ∧ SqL K H a (ns.map V.int) ∧ ns.length ≤ 63 ∧ ∀ H', Q (.bl true) H'
theorem reps_ints {K : PySem.W.Frag} {m p : List Addr} {H : Hp} : ∀ ns : List Int, Reps K m p H (ns.map V.int) (ns.map D.int)
  | [] => .nil
  | n :: ns => .cons (.int n) (reps_ints ns)
theorem law_imp {K : PySem.W.Frag} {mg : Str → Option Value} {T : CT} {f : Nat → List D → M D} (hh : ∀ ns : List Int, ns.length ≤ 63 → ∃ n S, f n [.rol (ns.map D.int)] [] = .ok (.bl true) S) : ∀ vs H Q E, law_sp K vs H Q E → spAny (fun n => spR K mg T 1 (f n)) vs H Q E := by
  rintro vs H Q E ⟨a, ns, rfl, hS, hl, q⟩
  obtain ⟨n, S, e⟩ := hh ns hl
  refine ⟨n, rfl, [], [], [], [.rol (ns.map D.int)], ⟨rfl, List.nodup_nil, fun n a c h => by simp at h, fun a h => by simp at h⟩, .cons (.rol ?_ (reps_ints ns)) .nil, ?_⟩
  · rcases hS with h | h
    · exact .inl ⟨by simp, by simp, h⟩
    · exact .inr h
  · rw [e]
    intro v m' H' _ _ r
    cases r
    exact q H'
theorem walk_law {l : PySem.W.OpenLaw} {k : Nat} {q : Program} {loose : List Str} {XP : (Str → Option Value) → Heap → Prop} {YP : World → Heap → Prop} {d : DefRec} {K : Params → PySem.W.Frag} (hn : l.most = some 63) (hdf : d.params.defaults = []) (hr : Room k callerA)
    (hY : ∀ (w : World) (h : Heap), YP w h → (K w.params).In h)
    (F : ∀ (w : World) (mg : Str → Option Value) (fa : Addr) (h : Heap), (K w.params).In h → h.Ns mainGlobals mg → mg d.name = some (.ref fa) →
      ∃ fd : FuncData, (∀ (s : Shared) (u : Value), BindsTo s fd ⟨[u], []⟩ [("script", u)]) ∧ ∀ base : Heap, (K w.params).In base → base.Ns mainGlobals mg → FnOk l.prog w (K w.params) mg base (L2.CX l.prog w) k fa fd ["script"] (law_sp (K w.params))) :
    PySem.W.WalkO q loose XP YP l.row.toRowW d [] (fun f vs => PySem.call f vs) :=
  L2.walk_of (n := 63) (k := k) (x := "script") (CX := fun w => L2.CX l.prog w) (sp := fun w => law_sp (K w.params)) hn (by decide) hdf hr hY F (fun _ _ a ns hl _ hS => ⟨a, ns, rfl, hS, hl, fun _ => rfl⟩) fun w H s e s' z => cx_false _ _ _ _ _ _ (fun _ _ _ z => z) z
end R

namespace R
open PySem PySem.Spec PyProof.Rows L2
/-! ### what a computation comes to -/
def wp {α : Type} (c : M α) (S : Sto) (Q : α → Sto → Prop) : Prop := match c S with
  | .ok a S' => Q a S'
  | _ => False
section
variable {α β : Type} {c : M α} {S : Sto} {Q : α → Sto → Prop}
theorem wp_ex (h : wp c S Q) : ∃ a S', c S = .ok a S' ∧ Q a S' := by
  unfold wp at h
  cases e : c S with
  | ok a S' => rw [e] at h; exact ⟨a, S', rfl, h⟩
  | exc _ _ _ => rw [e] at h; exact False.elim h
  | stuck => rw [e] at h; exact False.elim h
theorem wp_of {a : α} {S' : Sto} (e : c S = .ok a S') (h : Q a S') : wp c S Q := by unfold wp; rw [e]; exact h
theorem wp_mono {Q' : α → Sto → Prop} (h : wp c S Q) (hq : ∀ a S', Q a S' → Q' a S') : wp c S Q' := by
  obtain ⟨a, S', e, q⟩ := wp_ex h
  exact wp_of e (hq a S' q)
theorem wp_ret {a : α} (h : Q a S) : wp (ret a) S Q := h
theorem wp_bnd {k : α → M β} {Q : β → Sto → Prop} (h : wp c S fun a S' => wp (k a) S' Q) : wp (bnd c k) S Q := by
  obtain ⟨a, S', e, q⟩ := wp_ex h
  unfold wp bnd at *
  rw [e]
  exact q
end
section
variable {S : Sto} {Q : D → Sto → Prop} {ca cb cc cd : M D} {ρ : REnv}
theorem wp_bi {f : D → D → M D} (h : wp ca S fun x S1 => wp cb S1 fun y S2 => wp (f x y) S2 Q) : wp (bi f ca cb) S Q := wp_bnd (wp_mono h fun _ _ h => wp_bnd h)
theorem wp_consM {cr : M (List D)} {Q : List D → Sto → Prop} (h : wp ca S fun x S1 => wp cr S1 fun xs S2 => Q (x :: xs) S2) : wp (consM ca cr) S Q := wp_bnd (wp_mono h fun _ _ h => wp_bnd h)
theorem wp_getv {i : Nat} {d : D} (e : ρ[i]? = some (some d)) (h : Q d S) : wp (getv ρ i) S Q := by unfold getv; rw [e]; exact h
def asQ (Q : Bool → Sto → Prop) : D → Sto → Prop
  | .bl b, S => Q b S
  | _, _ => False
theorem asQ_bl {Q : Bool → Sto → Prop} {b : Bool} (h : Q b S) : asQ Q (.bl b) S := h
theorem wp_tst {Q : Bool → Sto → Prop} (h : wp ca S (asQ Q)) : wp (tst ca) S Q := wp_bnd (wp_mono h fun d S' h => by cases d <;> exact h)
theorem wp_notM {c : M Bool} {Q : Bool → Sto → Prop} (h : wp c S fun b S' => Q (!b) S') : wp (notM c) S Q := wp_bnd h
theorem wp_andM {c d : M Bool} {Q : Bool → Sto → Prop} (h : wp c S fun b S' => if b = true then wp d S' Q else Q false S') : wp (andM c d) S Q := wp_bnd (wp_mono h fun b S' h => by
  cases b with
  | true => exact h
  | false => exact h)
theorem wp_orM {c d : M Bool} {Q : Bool → Sto → Prop} (h : wp c S fun b S' => if b = true then Q true S' else wp d S' Q) : wp (orM c d) S Q := wp_bnd (wp_mono h fun b S' h => by
  cases b with
  | true => exact h
  | false => exact h)
theorem wp_ifM {c : M Bool} (h : wp c S fun b S' => if b = true then wp ca S' Q else wp cb S' Q) : wp (ifM c ca cb) S Q := wp_bnd (wp_mono h fun b S' h => by
  cases b with
  | true => exact h
  | false => exact h)
theorem wp_andV (h : wp ca S (asQ fun b S' => if b = true then wp cb S' Q else Q (.bl false) S')) : wp (andV ca cb) S Q := wp_bnd (wp_mono h fun d S' h => by
  cases d with
  | bl b => cases b <;> exact h
  | _ => exact h)
theorem wp_orV (h : wp ca S (asQ fun b S' => if b = true then Q (.bl true) S' else wp cb S' Q)) : wp (orV ca cb) S Q := wp_bnd (wp_mono h fun d S' h => by
  cases d with
  | bl b => cases b <;> exact h
  | _ => exact h)
theorem wp_notV (h : wp ca S (asQ fun b S' => Q (.bl (!b)) S')) : wp (notV ca) S Q := wp_bnd (wp_mono h fun d S' h => by cases d <;> exact h)
/-! choices -/
theorem if_tt {A B : Prop} (h : A) : if true = true then A else B := h
theorem if_ff {A B : Prop} (h : B) : if false = true then A else B := h
theorem if_dp {p A B : Prop} [Decidable p] (hp : p) (h : A) : if decide p = true then A else B := by rw [decide_eq_true hp]; exact h
theorem if_dn {p A B : Prop} [Decidable p] (hp : ¬ p) (h : B) : if decide p = true then A else B := by rw [decide_eq_false hp]; exact h
theorem if_ds {p A B : Prop} [Decidable p] (h1 : p → A) (h2 : ¬ p → B) : if decide p = true then A else B := by
  by_cases hp : p
  · exact if_dp hp (h1 hp)
  · exact if_dn hp (h2 hp)
theorem if_ndp {p A B : Prop} [Decidable p] (hp : p) (h : B) : if (!decide p) = true then A else B := by rw [decide_eq_true hp]; exact h
theorem if_ndn {p A B : Prop} [Decidable p] (hp : ¬ p) (h : A) : if (!decide p) = true then A else B := by rw [decide_eq_false hp]; exact h
theorem if_nds {p A B : Prop} [Decidable p] (h1 : ¬ p → A) (h2 : p → B) : if (!decide p) = true then A else B := by
  by_cases hp : p
  · exact if_ndp hp (h2 hp)
  · exact if_ndn hp (h1 hp)
theorem if_bs {b : Bool} {A B : Prop} (h1 : b = true → A) (h2 : b = false → B) : if b = true then A else B := by
  cases b with
  | true => exact h1 rfl
  | false => exact h2 rfl
/-! operators on known kinds -/
theorem wp_addI {i j : Int} (h : Q (.int (i + j)) S) : wp (addM (.int i) (.int j)) S Q := h
theorem wp_addS {i j : Str} (hl : i.length + j.length ≤ lim) (h : Q (.str (i ++ j)) S) : wp (addM (.str i) (.str j)) S Q := by unfold wp addM; dsimp only; rw [if_pos hl]; exact h
theorem wp_addL {xs ys : List D} (hl : xs.length + ys.length ≤ lim) (h : Q (.lst (xs ++ ys)) S) : wp (addM (.lst xs) (.lst ys)) S Q := by
  exact wp_of (show addM (.lst xs) (.lst ys) S = .ok (.lst (xs ++ ys)) S by unfold addM; simp only [lsOf]; rw [if_pos hl]) h
theorem wp_addT {xs ys : List D} (hn : xs ≠ []) (hl : xs.length + ys.length ≤ lim) (h : Q (.tup (xs ++ ys)) S) : wp (addM (.tup xs) (.tup ys)) S Q := by
  exact wp_of (show addM (.tup xs) (.tup ys) S = .ok (.tup (xs ++ ys)) S by unfold addM; dsimp only; rw [if_pos ⟨hn, hl⟩]) h
theorem wp_sub {i j : Int} (h : Q (.int (i - j)) S) : wp (subM (.int i) (.int j)) S Q := h
theorem wp_mul {i j : Int} (hm : MulOk i j) (h : Q (.int (i * j)) S) : wp (mulM (.int i) (.int j)) S Q := by unfold wp mulM iiM; dsimp only; rw [if_pos hm]; exact h
theorem wp_fdiv {i j : Int} (hm : DivOk i j) (h : Q (.int (i.fdiv j)) S) : wp (fdivM (.int i) (.int j)) S Q := by unfold wp fdivM iiM; dsimp only; rw [if_pos hm]; exact h
theorem wp_fdivP {i j : Int} (h0 : 0 < j) (hz : j.natAbs.log2 < 9000) (h : Q (.int (i / j)) S) : wp (fdivM (.int i) (.int j)) S Q := wp_fdiv ⟨by omega, hz⟩ (by rw [Int.fdiv_eq_ediv_of_nonneg i (by omega)]; exact h)
theorem wp_modP {i j : Int} (h0 : 0 < j) (h : Q (.int (i % j)) S) : wp (modM (.int i) (.int j)) S Q := by
  unfold wp modM iiM; dsimp only; rw [if_pos (show ModOk i j by unfold ModOk; omega), Int.fmod_eq_emod_of_nonneg i (by omega)]; exact h
theorem wp_pow {i j : Int} (hm : PowOk i j) (h : Q (.int (i ^ j.toNat)) S) : wp (powM (.int i) (.int j)) S Q := by unfold wp powM iiM; dsimp only; rw [if_pos hm]; exact h
theorem wp_neg {i : Int} (h : Q (.int (-i)) S) : wp (negM (.int i)) S Q := h
theorem wp_lt {i j : Int} (h : Q (.bl (decide (i < j))) S) : wp (ltM (.int i) (.int j)) S Q := h
theorem wp_le {i j : Int} (h : Q (.bl (decide (i ≤ j))) S) : wp (leM (.int i) (.int j)) S Q := h
theorem wp_gt {i j : Int} (h : Q (.bl (decide (j < i))) S) : wp (gtM (.int i) (.int j)) S Q := h
theorem wp_ge {i j : Int} (h : Q (.bl (decide (j ≤ i))) S) : wp (geM (.int i) (.int j)) S Q := h
theorem wp_eqI {i j : Int} (h : Q (.bl (decide (i = j))) S) : wp (eqM (.int i) (.int j)) S Q := by
  have e : (i == j) = decide (i = j) := by rw [Bool.beq_eq_decide_eq]
  rw [← e] at h; exact h
theorem wp_neI {i j : Int} (h : Q (.bl (!decide (i = j))) S) : wp (neM (.int i) (.int j)) S Q := by
  have e : (i == j) = decide (i = j) := by rw [Bool.beq_eq_decide_eq]
  rw [← e] at h; exact h
/-- == of data whose forms are known -/
theorem wp_eqP {x y : D} {a b : PyData} {r : Bool} (hx : x.py = some a) (hy : y.py = some b) (sa : SeqAt.shaped a = true) (sb : SeqAt.shaped b = true) (hr : PyData.eqv a b = r) (h : Q (.bl r) S) : wp (eqM x y) S Q := by
  unfold wp eqM; rw [hx, hy]; dsimp only; rw [if_pos ⟨sa, sb⟩, hr]; exact h
theorem wp_neP {x y : D} {a b : PyData} {r : Bool} (hx : x.py = some a) (hy : y.py = some b) (sa : SeqAt.shaped a = true) (sb : SeqAt.shaped b = true) (hr : PyData.eqv a b = r) (h : Q (.bl (!r)) S) : wp (neM x y) S Q := by
  unfold wp neM; rw [hx, hy]; dsimp only; rw [if_pos ⟨sa, sb⟩, hr]; exact h
theorem wp_isN {x : D} (hx : x ≠ .non) (h : Q (.bl false) S) : wp (isM x .non) S Q := by cases x <;> first | exact absurd rfl hx | exact h
theorem wp_isNN (h : Q (.bl true) S) : wp (isM .non .non) S Q := h
theorem wp_isNotN {x : D} (hx : x ≠ .non) (h : Q (.bl true) S) : wp (isNotM x .non) S Q := by cases x <;> first | exact absurd rfl hx | exact h
theorem wp_isNotNN (h : Q (.bl false) S) : wp (isNotM .non .non) S Q := h
theorem wp_isB {a b : Bool} (h : Q (.bl (decide (a = b))) S) : wp (isM (.bl a) (.bl b)) S Q := h
theorem wp_isNotB {a b : Bool} (h : Q (.bl (!decide (a = b))) S) : wp (isNotM (.bl a) (.bl b)) S Q := h
theorem wp_ixT {xs : List D} {i : Int} {d : D} (e : atI xs i = some d) (h : Q d S) : wp (ixM (.tup xs) (.int i)) S Q := by
  unfold wp ixM; dsimp only; rw [e]; exact h
theorem wp_ixL {xs : List D} {i : Int} {d : D} (e : atI xs i = some d) (h : Q d S) : wp (ixM (.lst xs) (.int i)) S Q := by
  unfold wp ixM; dsimp only [sqL, lsOf]; rw [e]; exact h
theorem wp_ixR {xs : List D} {i : Int} {d : D} (e : atI xs i = some d) (h : Q d S) : wp (ixM (.rol xs) (.int i)) S Q := by
  unfold wp ixM; dsimp only [sqL]; rw [e]; exact h
theorem wp_ixC {n : Nat} {xs : List D} {i : Int} {d : D} (hn : S[n]? = some (.lst xs)) (e : atI xs i = some d) (h : Q d S) : wp (ixM (.loc n) (.int i)) S Q := by
  unfold wp ixM; dsimp only [sqL, lsOf]; rw [hn]; dsimp only; rw [e]; exact h
theorem wp_setM {Q : Unit → Sto → Prop} {n : Nat} {xs : List D} {i : Int} {d : D} {j : Nat} (hn : S[n]? = some (.lst xs)) (e : ixN xs.length i = some j) (h : Q () (S.set n (.lst (xs.set j d)))) : wp (setM (.loc n) (.int i) d) S Q := by
  unfold wp setM; dsimp only; rw [hn]; dsimp only; rw [e]; exact h
/-! displays -/
theorem wp_tupM {cr : M (List D)} (h : wp cr S fun xs S' => xs.length ≤ lim ∧ Q (.tup xs) S') : wp (tupM cr) S Q := wp_bnd (wp_mono h fun xs S' h => by unfold wp; rw [short_le h.1]; exact h.2)
theorem wp_lstM {cr : M (List D)} (h : wp cr S fun xs S' => xs.length ≤ lim ∧ Q (.lst xs) S') : wp (lstM cr) S Q := wp_bnd (wp_mono h fun xs S' h => by unfold wp; rw [short_le h.1]; exact h.2)
theorem wp_lstC {cr : M (List D)} (h : wp cr S fun xs S' => xs.length ≤ lim ∧ Q (.loc S'.length) (S' ++ [.lst xs])) : wp (lstC cr) S Q := wp_bnd (wp_mono h fun xs S' h => by unfold wp; rw [short_le h.1]; exact h.2)
/-! built-in functions -/
theorem wp_abs {i : Int} (h : Q (.int (if i < 0 then -i else i)) S) : wp (absM [.int i]) S Q := h
theorem wp_min {i j : Int} (h : Q (.int (if j < i then j else i)) S) : wp (minM [.int i, .int j]) S Q := h
theorem wp_max {i j : Int} (h : Q (.int (if j > i then j else i)) S) : wp (maxM [.int i, .int j]) S Q := h
theorem wp_intI {i : Int} (h : Q (.int i) S) : wp (intM [.int i]) S Q := h
theorem wp_intB {b : Bool} (h : Q (.int (if b then 1 else 0)) S) : wp (intM [.bl b]) S Q := h
theorem wp_lenT {xs : List D} (h : Q (.int xs.length) S) : wp (lenM [.tup xs]) S Q := h
theorem wp_lenL {xs : List D} (h : Q (.int xs.length) S) : wp (lenM [.lst xs]) S Q := h
theorem wp_lenR {xs : List D} (h : Q (.int xs.length) S) : wp (lenM [.rol xs]) S Q := h
theorem wp_lenC {n : Nat} {xs : List D} (hn : S[n]? = some (.lst xs)) (h : Q (.int xs.length) S) : wp (lenM [.loc n]) S Q := by
  unfold wp lenM; dsimp only [sqL, lsOf]; rw [hn]; exact h
theorem wp_lenS {x : Str} (hx : x.length ≤ lim) (h : Q (.int x.length) S) : wp (lenM [.str x]) S Q := by unfold wp lenM; dsimp only; rw [if_pos hx]; exact h
theorem wp_reprB {b : Bool} (h : Q (.str (if b then "True" else "False")) S) : wp (reprM [.bl b]) S Q := h
theorem wp_all {xs : List D} {bs : List Bool} (e : bools xs = some bs) (h : Q (.bl (bs.all id)) S) : wp (allM [.lst xs]) S Q := by
  unfold wp allM; dsimp only [sqL, lsOf, Option.bind_some]; rw [e]; exact h
theorem wp_any {xs : List D} {bs : List Bool} (e : bools xs = some bs) (h : Q (.bl (bs.any id)) S) : wp (anyM [.lst xs]) S Q := by
  unfold wp anyM; dsimp only [sqL, lsOf, Option.bind_some]; rw [e]; exact h
theorem wp_sum {xs : List D} {bs : List Int} (e : intL xs = some bs) (h : Q (.int bs.sum) S) : wp (sumM [.lst xs]) S Q := by
  unfold wp sumM; dsimp only [sqL, lsOf, Option.bind_some]; rw [e]; exact h
theorem wp_isi {d : D} {b t : String} (hb : b ∈ tyNames) (e : tyD S d = some t) (h : Q (.bl (subT t b)) S) : wp (isi1 [d, .ty b]) S Q := by
  unfold wp isi1; dsimp only; rw [if_pos hb]; unfold isiM; rw [e]; dsimp only [List.any_cons, List.any_nil]; rw [Bool.or_false]; exact h
end
section
variable {S : Sto} {Q : Fl → Sto → Prop} {ca : M D} {ρ : REnv} {cs : M Fl} {ks : REnv → M Fl}
/-! statements -/
theorem wp_lft {α : Type} {c : M α} {k : α → M Fl} (h : wp c S fun a S' => wp (k a) S' Q) : wp (lft ρ c k) S Q := by
  obtain ⟨a, S', e, q⟩ := wp_ex h
  unfold wp lft at *
  rw [e]
  exact q
def sqQ (k : REnv → M Fl) (Q : Fl → Sto → Prop) : Fl → Sto → Prop
  | .nx ρ, S => wp (k ρ) S Q
  | f, S => Q f S
theorem sqQ_nx {k : REnv → M Fl} (h : wp (k ρ) S Q) : sqQ k Q (.nx ρ) S := h
theorem sqQ_rt {k : REnv → M Fl} {d : D} (h : Q (.rt d) S) : sqQ k Q (.rt d) S := h
theorem sqQ_bk {k : REnv → M Fl} (h : Q (.bk ρ) S) : sqQ k Q (.bk ρ) S := h
theorem sqQ_ct {k : REnv → M Fl} (h : Q (.ct ρ) S) : sqQ k Q (.ct ρ) S := h
theorem sqQ_ex {k : REnv → M Fl} {c : Nat} {w : D} (h : Q (.ex c w ρ) S) : sqQ k Q (.ex c w ρ) S := h
theorem wp_sq (h : wp cs S (sqQ ks Q)) : wp (sq cs ks) S Q := by
  obtain ⟨f, S', e, q⟩ := wp_ex h
  unfold wp sq
  rw [e]
  cases f <;> exact q
theorem wp_drp (h : wp ca S fun _ S' => Q (.nx ρ) S') : wp (drp ρ ca) S Q := wp_lft h
theorem wp_rtM (h : wp ca S fun d S' => Q (.rt d) S') : wp (rtM ρ ca) S Q := wp_lft h
theorem wp_ifS {c : M Bool} {x y : M Fl} (h : wp c S fun b S' => if b = true then wp x S' Q else wp y S' Q) : wp (ifS ρ c x y) S Q := wp_lft (wp_mono h fun b S' h => by
  cases b with
  | true => exact h
  | false => exact h)
theorem wp_asgN {i : Nat} (h : wp ca S fun d S' => Q (.nx (ρ.set i (some d))) S') : wp (asg (gN i) ρ ca) S Q := wp_lft h
theorem wp_gX {c : M REnv} (h : wp c S fun ρ S' => Q (.nx ρ) S') : wp (gX c) S Q := by
  obtain ⟨f, S', e, q⟩ := wp_ex h
  unfold wp gX
  rw [e]
  exact q
theorem wp_asgS {co ci : REnv → M D} (h : wp ca S fun d S1 => wp (co ρ) S1 fun o S2 => wp (ci ρ) S2 fun i S3 => wp (setM o i d) S3 fun _ S4 => Q (.nx ρ) S4) : wp (asg (gS co ci) ρ ca) S Q :=
  wp_lft (wp_mono h fun d S1 h => wp_gX (wp_bnd (wp_mono h fun o S2 h => wp_bnd (wp_mono h fun i S3 h => wp_bnd h))))
theorem wp_asgG {g : D → REnv → M REnv} (h : wp ca S fun d S1 => wp (g d ρ) S1 fun ρ' S2 => Q (.nx ρ') S2) : wp (asg g ρ ca) S Q := wp_lft (wp_mono h fun d S1 h => wp_gX h)
theorem wp_par {i j : Nat} {cb : M D} (h : wp ca S fun x S1 => wp cb S1 fun y S2 => Q (.nx ((ρ.set i (some x)).set j (some y))) S2) : wp (par i j ρ (consM ca (consM cb (ret [])))) S Q :=
  wp_lft (wp_consM (wp_mono h fun x S1 h => wp_consM (wp_mono h fun y S2 h => h)))
theorem wp_gT {n : Nat} {gs : List D → REnv → M REnv} {ds : List D} {Q : REnv → Sto → Prop} (hn : ds.length = n) (h : wp (gs ds ρ) S Q) : wp (gT n gs (.tup ds) ρ) S Q := by
  unfold gT; dsimp only; rw [if_pos hn]; exact h
theorem wp_gsC {g : D → REnv → M REnv} {gs : List D → REnv → M REnv} {d : D} {ds : List D} {Q : REnv → Sto → Prop} (h : wp (g d ρ) S fun ρ' S' => wp (gs ds ρ') S' Q) : wp (gsC g gs (d :: ds) ρ) S Q := wp_bnd h
theorem wp_gsN {Q : REnv → Sto → Prop} (h : Q ρ S) : wp (gsN [] ρ) S Q := h
theorem wp_gN {i : Nat} {d : D} {Q : REnv → Sto → Prop} (h : Q (ρ.set i (some d)) S) : wp (gN i d ρ) S Q := h
theorem wp_forS {cr : M (List D)} {g : D → REnv → M REnv} (h : wp cr S fun ds S' => wp (forL g ks ds ρ) S' Q) : wp (forS ρ cr g ks) S Q := wp_lft h
def lpQ (k : REnv → M Fl) (Q : Fl → Sto → Prop) : Fl → Sto → Prop
  | .nx ρ, S => wp (k ρ) S Q
  | .ct ρ, S => wp (k ρ) S Q
  | .bk ρ, S => Q (.nx ρ) S
  | f, S => Q f S
theorem lpQ_nx {k : REnv → M Fl} (h : wp (k ρ) S Q) : lpQ k Q (.nx ρ) S := h
theorem lpQ_rt {k : REnv → M Fl} {d : D} (h : Q (.rt d) S) : lpQ k Q (.rt d) S := h
theorem wp_lpK (h : wp cs S (lpQ ks Q)) : wp (lpK cs ks) S Q := by
  obtain ⟨f, S', e, q⟩ := wp_ex h
  unfold wp lpK
  rw [e]
  cases f <;> exact q
theorem wp_forN {g : D → REnv → M REnv} (h : Q (.nx ρ) S) : wp (forL g ks [] ρ) S Q := h
theorem wp_forC {g : D → REnv → M REnv} {d : D} {ds : List D} (h : wp (g d ρ) S fun ρ1 S1 => wp (ks ρ1) S1 (lpQ (forL g ks ds) Q)) : wp (forL g ks (d :: ds) ρ) S Q := by
  obtain ⟨ρ1, S1, e, q⟩ := wp_ex h
  have q2 := wp_lpK q
  unfold wp at q2 ⊢
  unfold forL
  rw [e]
  exact q2
/-- what a turn is to reach -/
def turnQ (I : REnv → Sto → Prop) (Q : Fl → Sto → Prop) : Fl → Sto → Prop
  | .nx ρ, S => I ρ S
  | .ct ρ, S => I ρ S
  | .bk ρ, S => Q (.nx ρ) S
  | f, S => Q f S
theorem turnQ_nx {I : REnv → Sto → Prop} (h : I ρ S) : turnQ I Q (.nx ρ) S := h
theorem turnQ_rt {I : REnv → Sto → Prop} {d : D} (h : Q (.rt d) S) : turnQ I Q (.rt d) S := h
theorem turnQ_bk {I : REnv → Sto → Prop} (h : Q (.nx ρ) S) : turnQ I Q (.bk ρ) S := h
theorem turnQ_ct {I : REnv → Sto → Prop} (h : I ρ S) : turnQ I Q (.ct ρ) S := h
/-- a for by its invariant: I of the items left, the slots, the store -/
theorem wp_forI {g : D → REnv → M REnv} (I : List D → REnv → Sto → Prop) (hI : ∀ d ds ρ S, I (d :: ds) ρ S → wp (g d ρ) S fun ρ1 S1 => wp (ks ρ1) S1 (turnQ (I ds) Q))
    (hE : ∀ ρ S, I [] ρ S → Q (.nx ρ) S) : ∀ {ds : List D} {ρ : REnv} {S : Sto}, I ds ρ S → wp (forL g ks ds ρ) S Q
  | [], ρ, S, h => hE ρ S h
  | d :: ds, ρ, S, h => wp_forC (wp_mono (hI d ds ρ S h) fun ρ1 S1 h1 => wp_mono h1 fun f S2 h2 => by
      cases f with
      | nx ρ2 => exact wp_forI I hI hE (show I ds ρ2 S2 from h2)
      | ct ρ2 => exact wp_forI I hI hE (show I ds ρ2 S2 from h2)
      | bk ρ2 => exact h2
      | rt d => exact h2
      | ex c w ρ2 => exact h2)
theorem wp_whileS {cA : REnv → M Bool} {n : Nat} (h : wp (cA ρ) S fun b S' => if b = true then wp (ks ρ) S' (lpQ (whileM cA ks n) Q) else Q (.nx ρ) S') : wp (whileM cA ks (n + 1) ρ) S Q :=
  wp_lft (wp_mono h fun b S' h => by
    cases b with
    | true => exact wp_lpK h
    | false => exact h)
def finQ (Q : D → Sto → Prop) : Fl → Sto → Prop
  | .rt d, S => Q d S
  | .nx _, S => Q .non S
  | _, _ => False
theorem finQ_rt {Q : D → Sto → Prop} {d : D} (h : Q d S) : finQ Q (.rt d) S := h
theorem finQ_nx {Q : D → Sto → Prop} (h : Q .non S) : finQ Q (.nx ρ) S := h
theorem wp_finR {Q : D → Sto → Prop} (h : wp cs S (finQ Q)) : wp (finR cs) S Q := by
  obtain ⟨f, S', e, q⟩ := wp_ex h
  unfold wp finR
  rw [e]
  cases f <;> exact q
/-! comprehensions -/
theorem wp_lcM {vs : List Nat} {cr : M (List D)} {g : D → REnv → M REnv} {tt : REnv → M Bool} {el : REnv → M D} {Q : D → Sto → Prop} (h : wp cr S fun ds S1 => ds.length ≤ lim ∧ wp (compL g tt el (wipeR ρ vs) ds) S1 fun ys S2 => Q (.lst ys) S2) : wp (lcM ρ vs cr g tt el) S Q :=
  wp_bnd (wp_bnd (wp_mono h fun ds S1 h => by
    unfold wp at *
    rw [short_le h.1]
    exact h.2))
theorem wp_nox {α : Type} {c : M α} {Q : α → Sto → Prop} (h : wp c S Q) : wp (nox c) S Q := by
  obtain ⟨a, S', e, q⟩ := wp_ex h
  unfold wp nox
  rw [e]
  exact q
theorem wp_compN {g : D → REnv → M REnv} {tt : REnv → M Bool} {el : REnv → M D} {Q : List D → Sto → Prop} (h : Q [] S) : wp (compL g tt el ρ []) S Q := h
/-- without tests -/
theorem wp_compC {g : D → REnv → M REnv} {el : REnv → M D} {d : D} {ds : List D} {Q : List D → Sto → Prop} (h : wp (g d ρ) S fun ρ1 S1 => wp (el ρ1) S1 fun y S2 => wp (compL g (fun _ => yesM) el ρ ds) S2 fun ys S3 => Q (y :: ys) S3) : wp (compL g (fun _ => yesM) el ρ (d :: ds)) S Q :=
  wp_bnd (wp_nox (wp_mono h fun ρ1 S1 h => wp_bnd (wp_nox (wp_ret (show wp (bnd (nox (el ρ1)) fun y => bnd (compL g (fun _ => yesM) el ρ ds) fun ys => ret (y :: ys)) S1 Q from wp_bnd (wp_nox (wp_mono h fun y S2 h => wp_bnd h)))))))
/-- a comprehension that leaves the store, item by item -/
theorem wp_compMap {g : D → REnv → M REnv} {el : REnv → M D} (F : D → D) : ∀ {ds : List D} {Q : List D → Sto → Prop}, (∀ d ∈ ds, wp (g d ρ) S fun ρ1 S1 => wp (el ρ1) S1 fun y S2 => y = F d ∧ S2 = S) → Q (ds.map F) S → wp (compL g (fun _ => yesM) el ρ ds) S Q
  | [], Q, _, h => h
  | d :: ds, Q, hd, h => wp_compC (wp_mono (hd d List.mem_cons_self) fun ρ1 S1 h1 => wp_mono h1 fun y S2 h2 => by
    obtain ⟨e1, e2⟩ := h2
    rw [e1, e2]
    exact wp_compMap F (fun d' hd' => hd d' (List.mem_cons_of_mem _ hd')) h)
end
theorem wp_itemsT {xs : List D} {S : Sto} {Q : List D → Sto → Prop} (h : Q xs S) : wp (itemsM (.tup xs)) S Q := h
theorem wp_itemsL {xs : List D} {S : Sto} {Q : List D → Sto → Prop} (h : Q xs S) : wp (itemsM (.lst xs)) S Q := h
theorem wp_itemsR {xs : List D} {S : Sto} {Q : List D → Sto → Prop} (h : Q xs S) : wp (itemsM (.rol xs)) S Q := h
theorem wp_signs {x : Str} {S : Sto} {Q : List D → Sto → Prop} (h : Q (charsD x) S) : wp (signsM (.str x)) S Q := h
theorem wp_range1 {j : Int} {S : Sto} {Q : List D → Sto → Prop} (h0 : -(2 ^ 62) ≤ j) (h1 : j < 2 ^ 62) (h : Q (rangeD 0 j.toNat) S) : wp (range1M [.int j]) S Q := by
  unfold wp range1M; dsimp only; rw [if_pos ⟨h0, h1⟩]; exact h
theorem wp_range2 {i j : Int} {S : Sto} {Q : List D → Sto → Prop} (h0 : -(2 ^ 62) ≤ i) (h1 : i < 2 ^ 62) (h2 : -(2 ^ 62) ≤ j) (h3 : j < 2 ^ 62) (h : Q (rangeD i (j - i).toNat) S) : wp (range2M [.int i, .int j]) S Q := by
  unfold wp range2M; dsimp only; rw [if_pos ⟨h0, h1, h2, h3⟩]; exact h
theorem wp_enum {xs : List D} {S : Sto} {Q : List D → Sto → Prop} (h : Q (enumD 0 xs) S) : wp (enumM [.lst xs]) S Q := h
theorem wp_zipT {xs ys : List D} {S : Sto} {Q : List D → Sto → Prop} (h : Q (zipD xs ys) S) : wp (zipM [.tup xs, .tup ys]) S Q := h
theorem wp_zipL {xs ys : List D} {S : Sto} {Q : List D → Sto → Prop} (h : Q (zipD xs ys) S) : wp (zipM [.lst xs, .lst ys]) S Q := h
theorem rangeD_len (lo : Int) (n : Nat) : (rangeD lo n).length = n := by unfold rangeD; rw [List.length_map, List.length_range]
theorem rangeD_mem {lo : Int} {n : Nat} {d : D} (h : d ∈ rangeD lo n) : ∃ i : Nat, i < n ∧ d = .int (lo + i) := by
  unfold rangeD at h
  obtain ⟨i, hi, rfl⟩ := List.mem_map.mp h
  exact ⟨i, List.mem_range.mp hi, rfl⟩
/-- a comprehension item by item, a state kept -/
theorem wp_compI {ρ : REnv} {g : D → REnv → M REnv} {el : REnv → M D} (P : Sto → Prop) (F : D → D) {ds0 : List D} (hd : ∀ d ∈ ds0, ∀ S, P S → wp (g d ρ) S fun ρ1 S1 => wp (el ρ1) S1 fun y S2 => y = F d ∧ P S2) :
    ∀ {ds : List D} {S : Sto} {Q : List D → Sto → Prop}, (∀ d ∈ ds, d ∈ ds0) → P S → (∀ S', P S' → Q (ds.map F) S') → wp (compL g (fun _ => yesM) el ρ ds) S Q
  | [], S, Q, _, p, h => h S p
  | d :: ds, S, Q, hm, p, h => wp_compC (wp_mono (hd d (hm d List.mem_cons_self) S p) fun ρ1 S1 h1 => wp_mono h1 fun y S2 h2 => by
    obtain ⟨e1, p2⟩ := h2
    rw [e1]
    exact wp_compI P F hd (fun d' hd' => hm d' (List.mem_cons_of_mem _ hd')) p2 h)
theorem bools_map {α : Type} (f : α → Bool) : ∀ xs : List α, bools (xs.map fun x => .bl (f x)) = some (xs.map f)
  | [] => rfl
  | x :: xs => by
    show (bools (xs.map fun x => .bl (f x))).map (f x :: ·) = _
    rw [bools_map f xs]
    rfl
theorem if_wp {α : Type} {p : Bool} {a b : M α} {S : Sto} {R : α → Sto → Prop} (P : α → Sto → Prop) (h : if p = true then wp a S P else wp b S P) (hr : ∀ f S', P f S' → R f S') : if p = true then wp a S R else wp b S R := by
  cases p with
  | true => exact wp_mono (show wp a S P from h) hr
  | false => exact wp_mono (show wp b S P from h) hr
theorem wp_powE {i j : Int} {S : Sto} {Q : D → Sto → Prop} (hm : PowOk i j) (h : ∀ r, r = i ^ j.toNat → Q (.int r) S) : wp (powM (.int i) (.int j)) S Q := wp_pow hm (h _ rfl)
theorem if_nt {A B : Prop} (h : B) : if (!true) = true then A else B := h
theorem if_nf {A B : Prop} (h : A) : if (!false) = true then A else B := h
theorem lim_and {n : Nat} {A : Prop} (h : n ≤ lim) (hA : A) : n ≤ lim ∧ A := ⟨h, hA⟩
theorem wp_isi_t {S : Sto} {Q : D → Sto → Prop} {d : D} {b t : String} (hb : b ∈ tyNames) (e : tyD S d = some t) (hr : subT t b = true) (h : Q (.bl true) S) : wp (isi1 [d, .ty b]) S Q := wp_isi hb e (by rw [hr]; exact h)
theorem wp_isi_f {S : Sto} {Q : D → Sto → Prop} {d : D} {b t : String} (hb : b ∈ tyNames) (e : tyD S d = some t) (hr : subT t b = false) (h : Q (.bl false) S) : wp (isi1 [d, .ty b]) S Q := wp_isi hb e (by rw [hr]; exact h)
/-- an item of a list, at a place within -/
theorem at_all {P : D → Prop} {xs : List D} {v : Int} (hP : ∀ d ∈ xs, P d) (h0 : 0 ≤ v) (h1 : v < xs.length) : ∃ d, atI xs v = some d ∧ P d := by
  have hl : v.toNat < xs.length := by omega
  refine ⟨xs[v.toNat], ?_, hP _ (List.getElem_mem hl)⟩
  have e : (v.toNat : Int) = v := by omega
  have := atI_nat (List.getElem?_eq_getElem hl)
  rw [e] at this
  exact this
theorem wp_isiT {S : Sto} {Q : D → Sto → Prop} {d : D} {t : String} {ts : List D} {bs : List String} (hb : tyL ts = some bs) (hn : ∀ b ∈ bs, b ∈ tyNames) (e : tyD S d = some t) (h : Q (.bl (bs.any (subT t))) S) : wp (isiT [d, .tup ts]) S Q := by
  unfold wp isiT; dsimp only; rw [hb]; dsimp only; rw [if_pos hn]; unfold isiM; rw [e]; exact h
theorem wp_isiT_t {S : Sto} {Q : D → Sto → Prop} {d : D} {t : String} {ts : List D} {bs : List String} (hb : tyL ts = some bs) (hn : ∀ b ∈ bs, b ∈ tyNames) (e : tyD S d = some t) (hr : bs.any (subT t) = true) (h : Q (.bl true) S) : wp (isiT [d, .tup ts]) S Q := wp_isiT hb hn e (by rw [hr]; exact h)
theorem wp_isiT_f {S : Sto} {Q : D → Sto → Prop} {d : D} {t : String} {ts : List D} {bs : List String} (hb : tyL ts = some bs) (hn : ∀ b ∈ bs, b ∈ tyNames) (e : tyD S d = some t) (hr : bs.any (subT t) = false) (h : Q (.bl false) S) : wp (isiT [d, .tup ts]) S Q := wp_isiT hb hn e (by rw [hr]; exact h)
theorem zipD_same : ∀ xs : List D, zipD xs xs = xs.map fun x => .tup [x, x]
  | [] => rfl
  | x :: xs => by
    show D.tup [x, x] :: zipD xs xs = _
    rw [zipD_same xs]; rfl
theorem wp_eqB {S : Sto} {Q : D → Sto → Prop} {a b : Bool} (h : Q (.bl (decide (a = b))) S) : wp (eqM (.bl a) (.bl b)) S Q := wp_eqP (a := .bool a) (b := .bool b) rfl rfl (by cases a <;> decide +kernel) (by cases b <;> decide +kernel) (by cases a <;> cases b <;> decide +kernel) h
theorem wp_neB {S : Sto} {Q : D → Sto → Prop} {a b : Bool} (h : Q (.bl (!decide (a = b))) S) : wp (neM (.bl a) (.bl b)) S Q := wp_neP (a := .bool a) (b := .bool b) rfl rfl (by cases a <;> decide +kernel) (by cases b <;> decide +kernel) (by cases a <;> cases b <;> decide +kernel) h
theorem wp_eqNN {S : Sto} {Q : D → Sto → Prop} (h : Q (.bl true) S) : wp (eqM .non .non) S Q := wp_eqP (a := .none) (b := .none) rfl rfl (by decide +kernel) (by decide +kernel) (by decide +kernel) h
theorem wp_neNN {S : Sto} {Q : D → Sto → Prop} (h : Q (.bl false) S) : wp (neM .non .non) S Q := wp_neP (a := .none) (b := .none) (r := true) rfl rfl (by decide +kernel) (by decide +kernel) (by decide +kernel) h
/-- a text that may be compared -/
def StrO (x : Str) : Prop := PyData.canLay0 (.str x) = true
theorem StrO.sh {x : Str} (h : StrO x) : SeqAt.shaped (.str x) = true := Bool.and_eq_true_iff.mpr ⟨h, by simp [PyData.depth]⟩
theorem wp_eqS {S : Sto} {Q : D → Sto → Prop} {a b : Str} (ha : StrO a) (hb : StrO b) (h : Q (.bl (a == b)) S) : wp (eqM (.str a) (.str b)) S Q := wp_eqP (a := .str a) (b := .str b) rfl rfl ha.sh hb.sh (by rw [PyData.eqv]) h
theorem wp_neS {S : Sto} {Q : D → Sto → Prop} {a b : Str} (ha : StrO a) (hb : StrO b) (h : Q (.bl (!(a == b))) S) : wp (neM (.str a) (.str b)) S Q := wp_neP (a := .str a) (b := .str b) rfl rfl ha.sh hb.sh (by rw [PyData.eqv]) h
theorem wp_forX {ρ : REnv} {ca : M D} {g : D → REnv → M REnv} {ks : REnv → M Fl} {S : Sto} {Q : Fl → Sto → Prop} (h : wp ca S fun d S' => wp (forV g ks d ρ) S' Q) : wp (forX ρ ca g ks) S Q := wp_lft h
theorem wp_forVL {ρ : REnv} {g : D → REnv → M REnv} {ks : REnv → M Fl} {S : Sto} {Q : Fl → Sto → Prop} {xs : List D} (h : wp (forL g ks xs ρ) S Q) : wp (forV g ks (.lst xs) ρ) S Q := h
theorem wp_forVT {ρ : REnv} {g : D → REnv → M REnv} {ks : REnv → M Fl} {S : Sto} {Q : Fl → Sto → Prop} {xs : List D} (h : wp (forL g ks xs ρ) S Q) : wp (forV g ks (.tup xs) ρ) S Q := h
theorem wp_forCI {n : Nat} {xs : List D} {g : D → REnv → M REnv} {ks : REnv → M Fl} {Q : Fl → Sto → Prop} (I : List D → REnv → Sto → Prop) (hc : ∀ ds ρ S, I ds ρ S → S[n]? = some (.lst xs)) (hI : ∀ d ds ρ S, I (d :: ds) ρ S → wp (g d ρ) S fun ρ1 S1 => wp (ks ρ1) S1 (turnQ (I ds) Q))
    (hE : ∀ ρ S, I [] ρ S → Q (.nx ρ) S) : ∀ (k i : Nat) (ρ : REnv) (S : Sto), k + i = xs.length → I (xs.drop i) ρ S → wp (forC n g ks k i ρ) S Q
  | 0, i, ρ, S, hk, h => by
    have e := hc _ _ _ h
    have e2 : xs.drop i = [] := List.drop_eq_nil_of_le (by omega)
    rw [e2] at h
    unfold wp forC
    rw [e]
    dsimp only
    rw [if_pos (by omega)]
    exact hE _ _ h
  | k + 1, i, ρ, S, hk, h => by
    have e := hc _ _ _ h
    have hlt : i < xs.length := by omega
    have e2 : xs.drop i = xs[i] :: xs.drop (i + 1) := List.drop_eq_getElem_cons hlt
    rw [e2] at h
    obtain ⟨ρ1, S1, e3, h3⟩ := wp_ex (hI _ _ _ _ h)
    have h4 : wp (lpK (ks ρ1) (forC n g ks k (i + 1))) S1 Q := wp_lpK (wp_mono h3 fun f S2 h => by
      cases f with
      | nx ρ2 => exact wp_forCI I hc hI hE k (i + 1) ρ2 S2 (by omega) h
      | ct ρ2 => exact wp_forCI I hc hI hE k (i + 1) ρ2 S2 (by omega) h
      | bk ρ2 => exact h
      | rt d => exact h
      | ex c w ρ2 => exact h)
    unfold wp forC
    rw [e]
    dsimp only
    rw [List.getElem?_eq_getElem hlt]
    dsimp only
    rw [e3]
    exact h4
theorem wp_forVC {n : Nat} {xs : List D} {ρ : REnv} {g : D → REnv → M REnv} {ks : REnv → M Fl} {S : Sto} {Q : Fl → Sto → Prop} (I : List D → REnv → Sto → Prop) (hc : ∀ ds ρ S, I ds ρ S → S[n]? = some (.lst xs)) (hI : ∀ d ds ρ S, I (d :: ds) ρ S → wp (g d ρ) S fun ρ1 S1 => wp (ks ρ1) S1 (turnQ (I ds) Q))
    (hE : ∀ ρ S, I [] ρ S → Q (.nx ρ) S) (h : I xs ρ S) : wp (forV g ks (.loc n) ρ) S Q := by
  unfold wp forV
  dsimp only
  rw [hc _ _ _ h]
  exact wp_forCI I hc hI hE xs.length 0 ρ S rfl h
theorem wp_revL {S : Sto} {Q : D → Sto → Prop} {ca : M D} (h : wp ca S fun d S' => ∃ xs, sqL S' d = some xs ∧ Q (.lst xs.reverse) S') : wp (revLM ca) S Q := by
  obtain ⟨d, S', e, xs, e2, h⟩ := wp_ex h
  unfold wp revLM bnd
  rw [e]
  dsimp only
  rw [e2]
  exact h
theorem wp_append {S : Sto} {Q : D → Sto → Prop} {n : Nat} {xs : List D} {y : D} (hn : S[n]? = some (.lst xs)) (hl : xs.length < lim) (h : Q .non (S.set n (.lst (xs ++ [y])))) : wp (appendM (.loc n) [y]) S Q := by
  unfold wp appendM; dsimp only; rw [hn]; dsimp only; rw [if_pos hl]; exact h
theorem wp_mtC {b : String} {g : D → List D → M D} {co : M D} {cr : M (List D)} {S : Sto} {Q : D → Sto → Prop} (h : wp co S fun d S1 => tyD S1 d = some b ∧ wp cr S1 fun ds S2 => wp (g d ds) S2 Q) : wp (mtM b g co cr) S Q :=
  wp_bnd (wp_mono h fun d S1 h => wp_bnd (by
    unfold wp tyM
    rw [if_pos h.1]
    exact wp_bnd h.2))
theorem tyD_loc {S : Sto} {n : Nat} {xs : List D} (h : S[n]? = some (.lst xs)) : tyD S (.loc n) = some "list" := by
  show (match S[n]? with | some (Cell.lst _) => some "list" | some (Cell.dict _) => some "dict" | _ => none) = _
  rw [h]
theorem wp_par3 {ρ : REnv} {i j l : Nat} {ca cb cc : M D} {S : Sto} {Q : Fl → Sto → Prop} (h : wp ca S fun x S1 => wp cb S1 fun y S2 => wp cc S2 fun z S3 => Q (.nx (((ρ.set i (some x)).set j (some y)).set l (some z))) S3) : wp (par3 i j l ρ (consM ca (consM cb (consM cc (ret []))))) S Q :=
  wp_lft (wp_consM (wp_mono h fun x S1 h => wp_consM (wp_mono h fun y S2 h => wp_consM (wp_mono h fun z S3 h => h))))
theorem wp_ch2 {f g : D → D → M D} {ca cb cc : M D} {S : Sto} {Q : D → Sto → Prop} (h : wp ca S fun x S1 => wp cb S1 fun y S2 => wp (f x y) S2 (asQ fun b S3 => if b = true then wp cc S3 fun z S4 => wp (g y z) S4 Q else Q (.bl false) S3)) : wp (ch2 f g ca cb cc) S Q :=
  wp_bnd (wp_mono h fun x S1 h => wp_bnd (wp_mono h fun y S2 h => wp_bnd (wp_mono h fun d S3 h => by
    cases d with
    | bl b => cases b with
      | true => exact wp_bnd h
      | false => exact h
    | _ => exact h)))
theorem wp_inS {c : Nat} {z : Str} {S : Sto} {Q : D → Sto → Prop} (h : Q (.bl (decide (c ∈ z.cps.toList))) S) : wp (inM (.str ⟨#[c]⟩) (.str z)) S Q := h
theorem wp_ixS {z : Str} {i : Int} {c : Nat} {S : Sto} {Q : D → Sto → Prop} (hz : z.length ≤ lim) (e : atI z.cps.toList i = some c) (h : Q (.str ⟨#[c]⟩) S) : wp (ixM (.str z) (.int i)) S Q := by
  unfold wp ixM; dsimp only; rw [if_pos hz, e]; exact h
theorem wp_strI {i : Int} {S : Sto} {Q : D → Sto → Prop} (hi : i.natAbs.log2 < 1920) (h : Q (.str (Str.ofString (toString i))) S) : wp (strM [.int i]) S Q := by
  unfold wp strM; dsimp only; rw [if_pos hi]; exact h
theorem wp_intXI {i : Int} {S : Sto} {Q : D → Sto → Prop} (h : Q (.int i) S) : wp (intX [.int i]) S Q := h
theorem wp_intXB {b : Bool} {S : Sto} {Q : D → Sto → Prop} (h : Q (.int (if b then 1 else 0)) S) : wp (intX [.bl b]) S Q := h
theorem wp_intXS {z : Str} {n : Int} {S : Sto} {Q : D → Sto → Prop} (e : PySem.intText? z = some n) (hz : z.length ≤ 640) (h : Q (.int n) S) : wp (intX [.str z]) S Q := by
  unfold wp intX; dsimp only; rw [e]; dsimp only; rw [if_pos hz]; exact h
theorem wp_smul0 {z : Str} {S : Sto} {Q : D → Sto → Prop} (h : Q (.str Str.empty) S) : wp (smulM (.str z) (.int 0)) S Q := h
theorem wp_smul1 {z : Str} {S : Sto} {Q : D → Sto → Prop} (h : Q (.str z) S) : wp (smulM (.str z) (.int 1)) S Q := h
theorem wp_sliceM {ca cl ch : M D} {S : Sto} {Q : D → Sto → Prop} (h : wp ca S fun x S1 => wp cl S1 fun l S2 => ∃ lo, prtD l = some lo ∧ wp ch S2 fun u S3 => wp (cutM x l u) S3 Q) : wp (sliceM ca cl ch) S Q :=
  wp_bnd (wp_mono h fun x S1 h => wp_bnd (wp_mono h fun l S2 h => by
    obtain ⟨lo, e, h⟩ := h
    refine wp_bnd ?_
    unfold wp prM
    rw [e]
    exact wp_bnd h))
theorem wp_noP {S : Sto} {Q : D → Sto → Prop} (h : Q .non S) : wp noP S Q := h
theorem wp_somP {ca : M D} {S : Sto} {Q : D → Sto → Prop} (h : wp ca S fun d S1 => ∃ i, d = .int i ∧ Q (.int i) S1) : wp (somP ca) S Q := wp_bnd (wp_mono h fun d S1 h => by
  obtain ⟨i, rfl, h⟩ := h
  exact h)
theorem wp_cutS {z : Str} {l u : D} {lo hi : Option Int} {S : Sto} {Q : D → Sto → Prop} (el : prtD l = some lo) (eu : prtD u = some hi) (hz : z.length ≤ lim) (h : Q (.str (cutS z lo hi)) S) : wp (cutM (.str z) l u) S Q := by
  unfold wp cutM; rw [el, eu]; dsimp only; rw [if_pos hz]; exact h
theorem wp_cutT {xs : List D} {l u : D} {lo hi : Option Int} {S : Sto} {Q : D → Sto → Prop} (el : prtD l = some lo) (eu : prtD u = some hi) (hz : ¬ (HT.sIx xs.length 0 lo = 0 ∧ HT.sIx xs.length xs.length hi = xs.length)) (h : Q (.tup (cutD xs lo hi)) S) : wp (cutM (.tup xs) l u) S Q := by
  unfold wp cutM; rw [el, eu]; dsimp only; rw [if_neg hz]; exact h
theorem wp_cutL {xs : List D} {l u : D} {lo hi : Option Int} {S : Sto} {Q : D → Sto → Prop} (el : prtD l = some lo) (eu : prtD u = some hi) (h : Q (.lst (cutD xs lo hi)) S) : wp (cutM (.lst xs) l u) S Q := by
  unfold wp cutM; rw [el, eu]; exact h
theorem wp_split {z y : Str} {S : Sto} {Q : D → Sto → Prop} (hy : (y.length == 0) = false) (hz : z.length + 2 ≤ lim) (h : Q (.lst ((Txt.split z y).map .str)) S) : wp (splitM (.str z) [.str y]) S Q := by
  unfold wp splitM; dsimp only; rw [if_pos ⟨hy, hz⟩]; exact h
end R

namespace R
open PySem PySem.Spec PyProof.Rows L2
/-! ### fractions -/
def fr (q : Rat) : D := .tup [.int q.num, .int (q.den : Int)]
/-- top and bottom below 2 ^ k -/
def Sz (k : Nat) (q : Rat) : Prop := q.num.natAbs < 2 ^ k ∧ q.den < 2 ^ k
theorem Sz.mono {k l : Nat} {q : Rat} (h : Sz k q) (hl : k ≤ l) : Sz l q := ⟨Nat.lt_of_lt_of_le h.1 (Nat.pow_le_pow_right (by decide) hl), Nat.lt_of_lt_of_le h.2 (Nat.pow_le_pow_right (by decide) hl)⟩
theorem abs_nat (i : Int) : (if i < 0 then -i else i) = (i.natAbs : Int) := by split <;> omega
theorem mul_lt {i j : Int} {a b : Nat} (ha : i.natAbs < 2 ^ a) (hb : j.natAbs < 2 ^ b) : (i * j).natAbs < 2 ^ (a + b) := wide_lt ha hb
theorem add_lt {i j : Int} {a b : Nat} (ha : i.natAbs < 2 ^ a) (hb : j.natAbs < 2 ^ b) : (i + j).natAbs < 2 ^ (max a b + 1) := by
  have h1 : 2 ^ a ≤ 2 ^ (max a b) := Nat.pow_le_pow_right (by decide) (Nat.le_max_left _ _)
  have h2 : 2 ^ b ≤ 2 ^ (max a b) := Nat.pow_le_pow_right (by decide) (Nat.le_max_right _ _)
  rw [Nat.pow_succ]
  omega
theorem sub_lt' {i j : Int} {a b : Nat} (ha : i.natAbs < 2 ^ a) (hb : j.natAbs < 2 ^ b) : (i - j).natAbs < 2 ^ (max a b + 1) := by
  have h1 : 2 ^ a ≤ 2 ^ (max a b) := Nat.pow_le_pow_right (by decide) (Nat.le_max_left _ _)
  have h2 : 2 ^ b ≤ 2 ^ (max a b) := Nat.pow_le_pow_right (by decide) (Nat.le_max_right _ _)
  rw [Nat.pow_succ]
  omega
theorem pow_mono {i : Nat} {a b : Nat} (h : i < 2 ^ a) (hab : a ≤ b) : i < 2 ^ b := Nat.lt_of_lt_of_le h (Nat.pow_le_pow_right (by decide) hab)
theorem sz_divInt {t b : Int} {k l : Nat} (hb0 : b ≠ 0) (ht : t.natAbs < 2 ^ k) (hb : b.natAbs < 2 ^ l) : (Rat.divInt t b).num.natAbs < 2 ^ k ∧ (Rat.divInt t b).den < 2 ^ l := by
  constructor
  · rw [Rat.num_divInt]
    refine Nat.lt_of_le_of_lt ?_ ht
    have e : ((b.sign * t) / ((b.gcd t : Nat) : Int)).natAbs = (b.sign * t).natAbs / (b.gcd t) := by
      rw [Int.natAbs_ediv_of_dvd (Int.dvd_trans (Int.gcd_dvd_right b t) (Int.dvd_mul_left _ _)), Int.natAbs_natCast]
    rw [e, Int.natAbs_mul, Int.natAbs_sign_of_ne_zero hb0, Nat.one_mul]
    exact Nat.div_le_self _ _
  · rw [Rat.den_divInt, if_neg hb0]
    exact Nat.lt_of_le_of_lt (Nat.div_le_self _ _) hb
theorem low_num {t b : Int} (hb : b ≠ 0) : t.fdiv (if b < 0 then -((t.gcd b : Nat) : Int) else (t.gcd b : Nat)) = (Rat.divInt t b).num := by
  rw [Rat.num_divInt, Int.gcd_comm b t]
  have hg : ((t.gcd b : Nat) : Int) ∣ t := Int.gcd_dvd_left t b
  have g0 : ((t.gcd b : Nat) : Int) ≠ 0 := by
    have := Int.gcd_pos_of_ne_zero_right t hb
    omega
  split
  · rename_i h
    rw [Int.fdiv_neg g0, if_pos hg, Int.sign_eq_neg_one_of_neg h, Int.fdiv_eq_ediv_of_dvd hg, Int.neg_mul, Int.one_mul, Int.neg_ediv_of_dvd hg]
  · rename_i h
    rw [Int.sign_eq_one_of_pos (by omega), Int.one_mul, Int.fdiv_eq_ediv_of_dvd hg]
theorem low_den {t b : Int} (hb : b ≠ 0) : b.fdiv (if b < 0 then -((t.gcd b : Nat) : Int) else (t.gcd b : Nat)) = ((Rat.divInt t b).den : Int) := by
  rw [Rat.den_divInt, if_neg hb, Int.gcd_comm b t]
  have hg : ((t.gcd b : Nat) : Int) ∣ b := Int.gcd_dvd_right t b
  have g0 : ((t.gcd b : Nat) : Int) ≠ 0 := by
    have := Int.gcd_pos_of_ne_zero_right t hb
    omega
  split
  · rename_i h
    rw [Int.fdiv_neg g0, if_pos hg, Int.fdiv_eq_ediv_of_dvd hg, ← Int.neg_ediv_of_dvd hg, Int.natCast_ediv]
    congr 1
    omega
  · rename_i h
    rw [Int.fdiv_eq_ediv_of_dvd hg, Int.natCast_ediv]
    congr 1
    omega
theorem gcd_lt {t b : Int} {k : Nat} (hb0 : b ≠ 0) (hb : b.natAbs < 2 ^ k) : t.gcd b < 2 ^ k := Nat.lt_of_le_of_lt (Nat.le_of_dvd (by omega) (Nat.gcd_dvd_right _ _)) hb
theorem den0 (q : Rat) : (q.den : Int) ≠ 0 := by have := q.den_pos; omega
theorem r_add (q r : Rat) : Rat.divInt (q.num * r.den + r.num * q.den) (q.den * r.den) = q + r := by
  have h := Rat.divInt_add_divInt q.num r.num (den0 q) (den0 r)
  rw [Rat.num_divInt_den, Rat.num_divInt_den] at h
  exact h.symm
theorem r_sub (q r : Rat) : Rat.divInt (q.num * r.den - r.num * q.den) (q.den * r.den) = q - r := by
  have h := Rat.divInt_sub_divInt q.num r.num (den0 q) (den0 r)
  rw [Rat.num_divInt_den, Rat.num_divInt_den] at h
  exact h.symm
theorem r_mul (q r : Rat) : Rat.divInt (q.num * r.num) (q.den * r.den) = q * r := by
  have h := Rat.divInt_mul_divInt q.num r.num (d₁ := q.den) (d₂ := r.den)
  rw [Rat.num_divInt_den, Rat.num_divInt_den] at h
  exact h.symm
theorem r_div (q r : Rat) : Rat.divInt (q.num * r.den) (q.den * r.num) = q / r := by
  have h := Rat.divInt_mul_divInt q.num r.den (d₁ := q.den) (d₂ := r.num)
  rw [Rat.num_divInt_den, ← Rat.inv_def] at h
  rw [Rat.div_def]
  exact h.symm
theorem num0 {q : Rat} (h : q ≠ 0) : q.num ≠ 0 := fun e => h (Rat.num_eq_zero.mp e)
theorem Sz.dn {k : Nat} {q : Rat} (h : Sz k q) : ((q.den : Int)).natAbs < 2 ^ k := by rw [Int.natAbs_natCast]; exact h.2
theorem Sz.of {t b : Int} {k : Nat} (hb0 : b ≠ 0) (ht : t.natAbs < 2 ^ k) (hb : b.natAbs < 2 ^ k) : Sz k (Rat.divInt t b) := sz_divInt hb0 ht hb
theorem Sz.add {k l : Nat} {q r : Rat} (hq : Sz k q) (hr : Sz l r) : Sz (k + l + 1) (q + r) := by
  rw [← r_add]
  refine Sz.of (Int.mul_ne_zero (den0 _) (den0 _)) ?_ (pow_mono (mul_lt hq.dn hr.dn) (by omega))
  have := add_lt (mul_lt hq.1 hr.dn) (mul_lt hr.1 hq.dn)
  rw [Nat.add_comm l k, Nat.max_self] at this
  exact this
theorem Sz.sub {k l : Nat} {q r : Rat} (hq : Sz k q) (hr : Sz l r) : Sz (k + l + 1) (q - r) := by
  rw [← r_sub]
  refine Sz.of (Int.mul_ne_zero (den0 _) (den0 _)) ?_ (pow_mono (mul_lt hq.dn hr.dn) (by omega))
  have := sub_lt' (mul_lt hq.1 hr.dn) (mul_lt hr.1 hq.dn)
  rw [Nat.add_comm l k, Nat.max_self] at this
  exact this
theorem Sz.mul {k l : Nat} {q r : Rat} (hq : Sz k q) (hr : Sz l r) : Sz (k + l) (q * r) := by
  rw [← r_mul]
  exact Sz.of (Int.mul_ne_zero (den0 _) (den0 _)) (mul_lt hq.1 hr.1) (mul_lt hq.dn hr.dn)
theorem Sz.div {k l : Nat} {q r : Rat} (hq : Sz k q) (hr : Sz l r) (h0 : r ≠ 0) : Sz (k + l) (q / r) := by
  rw [← r_div]
  exact Sz.of (Int.mul_ne_zero (den0 _) (num0 h0)) (mul_lt hq.1 hr.dn) (mul_lt hq.dn hr.1)
theorem Sz.neg {k : Nat} {q : Rat} (hq : Sz k q) : Sz k (-q) := ⟨by rw [Rat.neg_num, Int.natAbs_neg]; exact hq.1, hq.2⟩
theorem r_lt (q r : Rat) : decide (q.num * r.den < r.num * q.den) = decide (q < r) := by
  rw [decide_eq_decide]; exact (Rat.lt_iff q r).symm
theorem Sz.nn {k l : Nat} {q r : Rat} (hq : Sz k q) (hr : Sz l r) (h : k + l ≤ 1000000) : MulOk q.num r.num := MulOk.of hq.1 hr.1 h
theorem Sz.nd {k l : Nat} {q r : Rat} (hq : Sz k q) (hr : Sz l r) (h : k + l ≤ 1000000) : MulOk q.num r.den := MulOk.of hq.1 hr.dn h
theorem Sz.dd {k l : Nat} {q r : Rat} (hq : Sz k q) (hr : Sz l r) (h : k + l ≤ 1000000) : MulOk q.den r.den := MulOk.of hq.dn hr.dn h
theorem Sz.dnm {k l : Nat} {q r : Rat} (hq : Sz k q) (hr : Sz l r) (h : k + l ≤ 1000000) : MulOk q.den r.num := MulOk.of hq.dn hr.1 h
theorem wp_fr0 {q : Rat} {S : Sto} {Q : D → Sto → Prop} (h : Q (.int q.num) S) : wp (ixM (fr q) (.int 0)) S Q := wp_ixT rfl h
theorem wp_fr1 {q : Rat} {S : Sto} {Q : D → Sto → Prop} (h : Q (.int q.den) S) : wp (ixM (fr q) (.int 1)) S Q := wp_ixT rfl h
/-- fractions of fractions -/
theorem fr_inj {q r : Rat} : (fr q = fr r) ↔ q = r := by
  constructor
  · intro h
    unfold fr at h
    injection h with h
    injection h with h1 h2
    injection h1 with h1
    injection h2 with h2
    injection h2 with h2
    exact Rat.ext h1 (by omega)
  · intro h; rw [h]
theorem wp_eqF {q r : Rat} {S : Sto} {Q : D → Sto → Prop} (h : Q (.bl (decide (q = r))) S) : wp (eqM (fr q) (fr r)) S Q := by
  refine wp_eqP (a := .tuple [.int q.num, .int (q.den : Int)]) (b := .tuple [.int r.num, .int (r.den : Int)]) (r := decide (q = r)) rfl rfl (by rfl) (by rfl) ?_ h
  simp only [PyData.eqv, PyData.eqvAll, Bool.and_true]
  by_cases e : q = r
  · subst e; simp
  · rw [decide_eq_false e]
    by_cases e1 : q.num = r.num
    · have : (q.den : Int) ≠ r.den := fun e2 => e (Rat.ext e1 (by omega))
      simp [e1]; omega
    · simp [e1]
theorem wp_neF {q r : Rat} {S : Sto} {Q : D → Sto → Prop} (h : Q (.bl (!decide (q = r))) S) : wp (neM (fr q) (fr r)) S Q := by
  refine wp_neP (a := .tuple [.int q.num, .int (q.den : Int)]) (b := .tuple [.int r.num, .int (r.den : Int)]) (r := decide (q = r)) rfl rfl (by rfl) (by rfl) ?_ h
  simp only [PyData.eqv, PyData.eqvAll, Bool.and_true]
  by_cases e : q = r
  · subst e; simp
  · rw [decide_eq_false e]
    by_cases e1 : q.num = r.num
    · have : (q.den : Int) ≠ r.den := fun e2 => e (Rat.ext e1 (by omega))
      simp [e1]; omega
    · simp [e1]
/-- fuel enough for all whiles over numbers of at most 8990 bits -/
def Bg (n : Nat) : Prop := 2 ^ 8990 ≤ n
theorem Bg.lt {n k : Nat} {i : Int} (hn : Bg n) (h : i.natAbs < 2 ^ k) (hk : k ≤ 8990) : i.natAbs < n := Nat.lt_of_lt_of_le (pow_mono h hk) hn
theorem Sz.n {k n : Nat} {q : Rat} (h : Sz k q) (hn : Bg n) (hk : k ≤ 8990) : (q.den : Int).natAbs < n := hn.lt h.dn hk
theorem wp_euclidG {cA : REnv → M Bool} {ks : REnv → M Fl} {Q : Fl → Sto → Prop} (mk : Int → Int → REnv)
    (hc : ∀ (x y : Int) S Q, Q (decide (0 < y)) S → wp (cA (mk x y)) S Q)
    (hk : ∀ (x y : Int) S Q, 0 < y → Q (.nx (mk y (x % y))) S → wp (ks (mk x y)) S Q) : ∀ (n x y : Nat) (S : Sto), y < n → Q (.nx (mk (Nat.gcd x y : Nat) 0)) S → wp (whileM cA ks n (mk x y)) S Q
  | 0, _, _, _, h, _ => absurd h (Nat.not_lt_zero _)
  | n + 1, x, y, S, h, q => by
    refine wp_whileS (hc _ _ _ _ ?_)
    refine if_ds (fun hy => ?_) (fun hy => ?_)
    · refine hk _ _ _ _ hy (lpQ_nx ?_)
      rw [← Int.natCast_emod]
      have hy' : 0 < y := by omega
      refine wp_euclidG mk hc hk n y (x % y) S ?_ ?_
      · have := Nat.mod_lt x hy'
        omega
      · have e : Nat.gcd y (x % y) = Nat.gcd x y := by rw [Nat.gcd_comm x y, Nat.gcd_rec y x, Nat.gcd_comm]
        rw [e]
        exact q
    · have e : y = 0 := by omega
      subst e
      rw [Nat.gcd_zero_right] at q
      exact q
theorem low_num2 {t b : Int} (hb : b ≠ 0) : t.fdiv (t.gcd b : Nat) * (1 - 2 * (if decide (b < 0) = true then 1 else 0)) = (Rat.divInt t b).num := by
  have hg : ((t.gcd b : Nat) : Int) ∣ t := Int.gcd_dvd_left t b
  have g0 : ((t.gcd b : Nat) : Int) ≠ 0 := by
    have := Int.gcd_pos_of_ne_zero_right t hb
    omega
  rw [← low_num hb]
  by_cases h : b < 0
  · rw [decide_eq_true h, if_pos rfl, if_pos h, Int.fdiv_neg g0, if_pos hg]
    omega
  · rw [decide_eq_false h, if_neg (by decide), if_neg h]
    omega
theorem low_den2 {t b : Int} (hb : b ≠ 0) : (if b < 0 then -b else b).fdiv (t.gcd b : Nat) = ((Rat.divInt t b).den : Int) := by
  have hg : ((t.gcd b : Nat) : Int) ∣ b := Int.gcd_dvd_right t b
  have g0 : ((t.gcd b : Nat) : Int) ≠ 0 := by
    have := Int.gcd_pos_of_ne_zero_right t hb
    omega
  rw [← low_den hb]
  by_cases h : b < 0
  · rw [if_pos h, if_pos h, Int.fdiv_neg g0, if_pos hg, Int.fdiv_eq_ediv_of_dvd ((Int.dvd_neg).mpr hg), Int.fdiv_eq_ediv_of_dvd hg, Int.neg_ediv_of_dvd hg]
  · rw [if_neg h, if_neg h]
theorem divOk_gcd {t b x : Int} (hb0 : b ≠ 0) (hb : b.natAbs < 2 ^ 8990) : DivOk x (t.gcd b : Nat) := by
  have g0 : 0 < t.gcd b := Int.gcd_pos_of_ne_zero_right t hb0
  have gl : (t.gcd b) < 2 ^ 8990 := gcd_lt hb0 hb
  exact ⟨by omega, by rw [Int.natAbs_natCast]; exact Nat.lt_of_lt_of_le ((Nat.log2_lt (by omega)).mpr gl) (by decide)⟩
theorem b01 {i : Int} (p : Bool) : MulOk i (if p = true then 1 else 0) := .inr (.inl (by cases p <;> decide))
theorem m01 {i : Int} (p : Bool) : MulOk i (1 - 2 * (if p = true then 1 else 0)) := .inr (.inl (by cases p <;> decide))
theorem fr_int (i : Int) : D.tup [.int i, .int 1] = fr (i : Rat) := rfl
theorem tup_fr (q : Rat) : D.tup [.int q.num, .int (q.den : Int)] = fr q := rfl
theorem Sz.int {i : Int} {k : Nat} (h : i.natAbs < 2 ^ k) (h1 : 1 < 2 ^ k) : Sz k (i : Rat) := ⟨h, h1⟩
theorem wp_gTf {ρ : REnv} {S : Sto} {gs : List D → REnv → M REnv} {q : Rat} {Q : REnv → Sto → Prop} (h : wp (gs [.int q.num, .int q.den] ρ) S Q) : wp (gT 2 gs (fr q) ρ) S Q := wp_gT rfl h
theorem lit_mul {c : Int} (hc : -(2 ^ 64) < c ∧ c < 2 ^ 64) {j : Int} : MulOk c j := .inl hc
theorem Sz.zero : Sz 1 0 := ⟨by decide, by decide⟩
theorem Sz.one : Sz 1 1 := ⟨by decide, by decide⟩
theorem fr_0 : D.tup [.int 0, .int 1] = fr 0 := rfl
theorem fr_1 : D.tup [.int 1, .int 1] = fr 1 := rfl
theorem r_num0 (q : Rat) : decide (q.num = 0) = decide (q = 0) := by rw [decide_eq_decide]; exact Rat.num_eq_zero
theorem r_numpos (q : Rat) : decide (0 < q.num) = decide (0 < q) := by
  rw [decide_eq_decide, Rat.lt_iff]
  show _ ↔ 0 * (q.den : Int) < q.num * 1
  rw [Int.zero_mul, Int.mul_one]
theorem r_numle (q : Rat) : decide (q.num ≤ 0) = decide (q ≤ 0) := by
  rw [decide_eq_decide, Rat.le_iff]
  show _ ↔ q.num * 1 ≤ 0 * (q.den : Int)
  rw [Int.zero_mul, Int.mul_one]
theorem r_numge (q : Rat) : decide (0 ≤ q.num) = decide (0 ≤ q) := by
  rw [decide_eq_decide]; exact Rat.num_nonneg
theorem wp_tupleL {S : Sto} {xs : List D} {Q : D → Sto → Prop} (h : Q (.tup xs) S) : wp (tupleM [.lst xs]) S Q := h
theorem wp_tupleT {S : Sto} {xs : List D} {Q : D → Sto → Prop} (h : Q (.tup xs) S) : wp (tupleM [.tup xs]) S Q := h
/-- a juice -/
abbrev ju (s w : Rat) : D := .tup [fr s, fr w]
theorem ju_py (s w : Rat) : (ju s w).py = some (.tuple [.tuple [.int s.num, .int (s.den : Int)], .tuple [.int w.num, .int (w.den : Int)]]) := rfl
theorem ju_eqv (a b c d : Rat) : PyData.eqv (.tuple [.tuple [.int a.num, .int (a.den : Int)], .tuple [.int b.num, .int (b.den : Int)]]) (.tuple [.tuple [.int c.num, .int (c.den : Int)], .tuple [.int d.num, .int (d.den : Int)]]) = decide (a = c ∧ b = d) := by
  have key : ∀ q r : Rat, (q.num == r.num && (q.den : Int) == r.den) = decide (q = r) := by
    intro q r
    by_cases e : q = r
    · subst e; simp
    · rw [decide_eq_false e]
      by_cases e1 : q.num = r.num
      · have : (q.den : Int) ≠ r.den := fun e2 => e (Rat.ext e1 (by omega))
        simp [e1]; omega
      · simp [e1]
  simp only [PyData.eqv, PyData.eqvAll, Bool.and_true]
  rw [key, key, Bool.decide_and]
theorem wp_eqJ {a b c d : Rat} {S : Sto} {Q : D → Sto → Prop} (h : Q (.bl (decide (a = c ∧ b = d))) S) : wp (eqM (ju a b) (ju c d)) S Q :=
  wp_eqP (ju_py a b) (ju_py c d) (by rfl) (by rfl) (ju_eqv a b c d) h
theorem wp_neJ {a b c d : Rat} {S : Sto} {Q : D → Sto → Prop} (h : Q (.bl (!decide (a = c ∧ b = d))) S) : wp (neM (ju a b) (ju c d)) S Q :=
  wp_neP (ju_py a b) (ju_py c d) (by rfl) (by rfl) (ju_eqv a b c d) h
theorem q_div_pos {a b : Rat} (ha : 0 < a) (hb : 0 < b) : 0 < a / b := by rw [Rat.lt_div_iff hb]; grind
theorem q_div_nonneg {a b : Rat} (ha : 0 ≤ a) (hb : 0 < b) : 0 ≤ a / b := by
  rw [← Rat.not_lt, Rat.div_lt_iff hb]; grind
theorem q_div_le {a b c : Rat} (hb : 0 < b) : a / b ≤ c ↔ a ≤ c * b := by
  rw [← Rat.not_lt, Rat.lt_div_iff hb, Rat.not_lt]
theorem q_le_div {a b c : Rat} (hb : 0 < b) : c ≤ a / b ↔ c * b ≤ a := by
  rw [← Rat.not_lt, Rat.div_lt_iff hb, Rat.not_lt]
theorem divInt_pos {t b : Int} (ht : 0 < t) (hb : 0 < b) : 0 < Rat.divInt t b := by
  rw [Rat.divInt_eq_div]
  exact q_div_pos (Rat.intCast_pos.mpr ht) (Rat.intCast_pos.mpr hb)
theorem divInt_le_one {t b : Int} (ht : t ≤ b) (hb : 0 < b) : Rat.divInt t b ≤ 1 := by
  rw [Rat.divInt_eq_div, q_div_le (Rat.intCast_pos.mpr hb), Rat.one_mul]
  exact Rat.intCast_le_intCast.mpr ht
theorem divInt_lt_one {t b : Int} (ht : t < b) (hb : 0 < b) : Rat.divInt t b < 1 := by
  rw [Rat.divInt_eq_div, Rat.div_lt_iff (Rat.intCast_pos.mpr hb), Rat.one_mul]
  exact Rat.intCast_lt_intCast.mpr ht
theorem fr_eqv (q r : Rat) : PyData.eqv (.tuple [.int q.num, .int (q.den : Int)]) (.tuple [.int r.num, .int (r.den : Int)]) = decide (q = r) := by
  simp only [PyData.eqv, PyData.eqvAll, Bool.and_true]
  by_cases e : q = r
  · subst e; simp
  · rw [decide_eq_false e]
    by_cases e1 : q.num = r.num
    · have : (q.den : Int) ≠ r.den := fun e2 => e (Rat.ext e1 (by omega))
      simp [e1]; omega
    · simp [e1]
theorem wp_notInT {S : Sto} {Q : D → Sto → Prop} {x : D} {xs : List D} {d : PyData} {ds : List PyData} {r : Bool} (hx : x.py = some d) (hy : D.pys xs = some ds) (sa : SeqAt.shaped d = true) (sb : SeqAt.shaped (.list ds) = true) (hr : (ds.any fun z => PyData.eqv z d) = r) (h : Q (.bl (!r)) S) : wp (notInM x (.tup xs)) S Q := by
  have e : notInM x (.tup xs) S = .ok (.bl (!r)) S := by
    unfold notInM inG
    cases x <;> (dsimp only [itP]; rw [hx, hy]; dsimp only; rw [if_pos ⟨sa, sb⟩, hr])
  exact wp_of e h
theorem wp_inT {S : Sto} {Q : D → Sto → Prop} {x : D} {xs : List D} {d : PyData} {ds : List PyData} {r : Bool} (hx : x.py = some d) (hy : D.pys xs = some ds) (sa : SeqAt.shaped d = true) (sb : SeqAt.shaped (.list ds) = true) (hr : (ds.any fun z => PyData.eqv z d) = r) (h : Q (.bl r) S) : wp (inM x (.tup xs)) S Q := by
  have e : inM x (.tup xs) S = .ok (.bl r) S := by
    unfold inM inG
    cases x <;> (dsimp only [itP]; rw [hx, hy]; dsimp only; rw [if_pos ⟨sa, sb⟩, hr])
  exact wp_of e h
theorem wp_isNI {i : Int} {S : Sto} {Q : D → Sto → Prop} (h : Q (.bl false) S) : wp (isM (.int i) .non) S Q := h
theorem wp_isNS {i : Str} {S : Sto} {Q : D → Sto → Prop} (h : Q (.bl false) S) : wp (isM (.str i) .non) S Q := h
theorem wp_isNT {i : List D} {S : Sto} {Q : D → Sto → Prop} (h : Q (.bl false) S) : wp (isM (.tup i) .non) S Q := h
theorem wp_isNL {i : List D} {S : Sto} {Q : D → Sto → Prop} (h : Q (.bl false) S) : wp (isM (.lst i) .non) S Q := h
theorem wp_isNC {i : Nat} {S : Sto} {Q : D → Sto → Prop} (h : Q (.bl false) S) : wp (isM (.loc i) .non) S Q := h
theorem wp_isNF {q : Rat} {S : Sto} {Q : D → Sto → Prop} (h : Q (.bl false) S) : wp (isM (fr q) .non) S Q := h
end R

namespace R
open PySem PySem.Spec PyProof.Rows L2 TL
/-! ### numbers as texts -/
def sT (l : List Nat) : Str := ⟨l.toArray⟩
theorem tl_sT (l : List Nat) : tl (sT l) = l := rfl
theorem sT_tl (x : Str) : sT (tl x) = x := mk_tl x
theorem sT_len (l : List Nat) : (sT l).length = l.length := by rw [len_tl, tl_sT]
theorem sT_app (a b : List Nat) : sT a ++ sT b = sT (a ++ b) := by
  have e : tl (sT a ++ sT b) = tl (sT (a ++ b)) := by rw [tl_append, tl_sT, tl_sT, tl_sT]
  rw [← sT_tl (sT a ++ sT b), e, sT_tl]
theorem sT_inj {a b : List Nat} : sT a = sT b ↔ a = b := ⟨fun h => by have := congrArg tl h; rwa [tl_sT, tl_sT] at this, fun h => by rw [h]⟩
theorem sT_beq (a b : List Nat) : (sT a == sT b) = decide (a = b) := by
  by_cases h : a = b
  · rw [h, decide_eq_true rfl]; simp
  · rw [decide_eq_false h, beq_eq_false_iff_ne]
    exact fun e => h (sT_inj.mp e)
/-- a number's signs -/
def nL (i : Int) : List Nat := (if i < 0 then [45] else []) ++ numL i.natAbs
theorem nL_nn {i : Int} (h : 0 ≤ i) : nL i = numL i.natAbs := by unfold nL; rw [if_neg (by omega)]; rfl
theorem nL_neg {i : Int} (h : i < 0) : nL i = 45 :: numL i.natAbs := by unfold nL; rw [if_pos h]; rfl
theorem str_num (i : Int) : Str.ofString (toString i) = sT (nL i) := by
  by_cases h : 0 ≤ i
  · obtain ⟨n, rfl⟩ := Int.eq_ofNat_of_zero_le h
    rw [← sT_tl (Str.ofString (toString ((n : Nat) : Int))), tl_num, nL_nn h, Int.natAbs_natCast]
  · have h' : i < 0 := by omega
    have e : toString i = "-" ++ toString ((i.natAbs : Nat) : Int) := by
      cases i with
      | ofNat n => exact absurd (Int.natCast_nonneg n) h
      | negSucc n => rfl
    rw [e, nL_neg h']
    have e2 : tl (Str.ofString ("-" ++ toString ((i.natAbs : Nat) : Int))) = 45 :: tl (Str.ofString (toString ((i.natAbs : Nat) : Int))) := by
      have k : ∀ s : String, tl (Str.ofString s) = s.toList.map Char.toNat := fun s => cpsOfBytes_string s
      rw [k, k, String.toList_append]
      rfl
    rw [← sT_tl (Str.ofString _), e2, tl_num]
/-- a fraction's text -/
def fT (q : Rat) : Str := sT (nL q.num ++ (if q.den = 1 then [] else 47 :: numL q.den))
theorem numL_pos_head {n : Nat} (h : 0 < n) : (numL n)[0]? ≠ some 48 := by
  induction n using Nat.strongRecOn with
  | _ n ih =>
    by_cases h1 : n < 10
    · rw [numL_lt h1]
      simp
      omega
    · rw [numL_step (by omega)]
      have := ih (n / 10) (by omega) (by omega)
      rw [List.getElem?_append_left (List.length_pos_iff.mpr (numL_ne _))]
      exact this
theorem numL_zero : numL 0 = [48] := numL_lt (by decide)
theorem StrO_sT {l : List Nat} (h : ∀ c ∈ l, c < 1114112) : StrO (sT l) := by
  show (Array.all l.toArray (· < 0x110000)) = true
  simp only [List.all_toArray, List.all_eq_true, decide_eq_true_eq]
  exact h
theorem numL_sm {n : Nat} : ∀ c ∈ numL n, c < 1114112 := fun c hc => by have := numL_digits n c hc; omega
theorem nL_sm {i : Int} : ∀ c ∈ nL i, c < 1114112 := fun c hc => by
  unfold nL at hc
  rcases List.mem_append.mp hc with hc | hc
  · split at hc
    · rw [List.mem_singleton.mp hc]; decide
    · cases hc
  · exact numL_sm c hc
theorem numL_len40 {n : Nat} (h : n < 10 ^ 40) : (numL n).length ≤ 40 := numL_len (by decide) h
theorem numL_pos_len (n : Nat) : 1 ≤ (numL n).length := List.length_pos_iff.mpr (numL_ne n)
theorem numL_mem {n c : Nat} (h : c ∈ numL n) : c ∈ [48, 49, 50, 51, 52, 53, 54, 55, 56, 57] := by
  have := numL_digits n c h
  simp only [List.mem_cons, List.not_mem_nil, or_false]
  omega
theorem int_numL {n : Nat} (h : n < 10 ^ 40) : PySem.intText? (sT (numL n)) = some (n : Int) := by
  have e := int_num (n := n) (Nat.le_trans (numL_len40 h) (by decide))
  rw [str_num, nL_nn (by omega), Int.natAbs_natCast] at e
  exact e
theorem cutS_sT (l : List Nat) (lo hi : Option Int) : cutS (sT l) lo hi = sT ((l.drop (HT.sIx l.length 0 lo)).take (HT.sIx l.length l.length hi - HT.sIx l.length 0 lo)) := by
  unfold cutS
  rw [sT_len]
  rfl
theorem numL_head {n : Nat} : ∃ c t, numL n = c :: t ∧ 48 ≤ c ∧ c ≤ 57 := by
  cases h : numL n with
  | nil => exact absurd h (numL_ne n)
  | cons c t =>
    have := numL_digits n c (by rw [h]; exact List.mem_cons_self)
    exact ⟨c, t, rfl, by omega, by omega⟩
end R

namespace R
open PySem PySem.Spec PyProof.Rows L2
def topS (i : Nat) : Stmt := PySem.Challenge.pw_kettlerow_k04_fractions_as_texts.main.body.getD i (.Pass ⟨0, 0, 0, 0⟩)
def tbl : CT := []
abbrev c_FIGURES : D := .str "0123456789"
abbrev c_MOST_FIGURES : D := .int 40
abbrev s_is_number : Stmt := topS 5
theorem sc_is_number : FnScope ["thing"] ["thing"] (defScope s_is_number) := ⟨rfl, rfl, rfl, by decide +kernel, rfl, by decide +kernel, by decide +kernel⟩
def m_is_number (n : Nat) (ρ : REnv) : M Fl := (rtM ρ (andV (bnd (consM (getv ρ 0) (consM (ret (.ty "int")) (ret []))) isi1) (notV (bnd (consM (getv ρ 0) (consM (ret (.ty "bool")) (ret []))) isi1))))
def f_is_number (n : Nat) (ds : List D) : M D := finR (m_is_number n (startR 1 ds))
abbrev s_plain_number : Stmt := topS 6
theorem sc_plain_number : FnScope ["word", "most", ".0", "sign"] ["word", "most"] (defScope s_plain_number) := ⟨rfl, rfl, rfl, by decide +kernel, rfl, by decide +kernel, by decide +kernel⟩
def m_plain_number (n : Nat) (ρ : REnv) : M Fl := (sq (ifS ρ (orM (notM (tst (ch2 leM leM (ret (.int 1)) (bnd (consM (getv ρ 0) (ret [])) lenM) (getv ρ 1)))) (notM (tst (bnd (consM (lcM ρ [2, 3] (bnd (getv ρ 0) signsM) (gN 3) (fun ρ => yesM) fun ρ => (bi inM (getv ρ 3) (ret c_FIGURES))) (ret [])) allM)))) (rtM ρ (ret .non)) (ret (.nx ρ))) fun ρ => (sq (ifS ρ (andM (tst (bi eqM (bi ixM (getv ρ 0) (ret (.int 0))) (ret (.str "0")))) (tst (bi neM (getv ρ 0) (ret (.str "0"))))) (rtM ρ (ret .non)) (ret (.nx ρ))) fun ρ => (rtM ρ (bnd (consM (getv ρ 0) (ret [])) intX))))
def f_plain_number (n : Nat) (ds : List D) : M D := finR (m_plain_number n (startR 4 ds))
abbrev s_common : Stmt := topS 8
theorem sc_common : FnScope ["one", "other"] ["one", "other"] (defScope s_common) := ⟨rfl, rfl, rfl, by decide +kernel, rfl, by decide +kernel, by decide +kernel⟩
def m_common (n : Nat) (ρ : REnv) : M Fl := (sq (par 0 1 ρ (consM (bnd (consM (getv ρ 0) (ret [])) absM) (consM (bnd (consM (getv ρ 1) (ret [])) absM) (ret [])))) fun ρ => (sq (whileM (fun ρ => (tst (bi gtM (getv ρ 1) (ret (.int 0))))) (fun ρ => (par 0 1 ρ (consM (getv ρ 1) (consM (bi modM (getv ρ 0) (getv ρ 1)) (ret []))))) n ρ) fun ρ => (rtM ρ (getv ρ 0))))
def f_common (n : Nat) (ds : List D) : M D := finR (m_common n (startR 2 ds))
abbrev s_is_frac : Stmt := topS 9
theorem sc_is_frac : FnScope ["thing", ".0", "part"] ["thing"] (defScope s_is_frac) := ⟨rfl, rfl, rfl, by decide +kernel, rfl, by decide +kernel, by decide +kernel⟩
def m_is_frac (n : Nat) (ρ : REnv) : M Fl := (sq (ifS ρ (orM (notM (tst (bnd (consM (getv ρ 0) (consM (ret (.ty "tuple")) (ret []))) isi1))) (orM (tst (bi neM (bnd (consM (getv ρ 0) (ret [])) lenM) (ret (.int 2)))) (notM (tst (bnd (consM (lcM ρ [1, 2] (bnd (getv ρ 0) itemsM) (gN 2) (fun ρ => yesM) fun ρ => (bnd (consM (getv ρ 2) (ret [])) (f_is_number n))) (ret [])) allM))))) (rtM ρ (ret (.bl false))) (ret (.nx ρ))) fun ρ => (rtM ρ (andV (bi gtM (bi ixM (getv ρ 0) (ret (.int 1))) (ret (.int 0))) (bi eqM (bnd (consM (bi ixM (getv ρ 0) (ret (.int 0))) (consM (bi ixM (getv ρ 0) (ret (.int 1))) (ret []))) (f_common n)) (ret (.int 1))))))
def f_is_frac (n : Nat) (ds : List D) : M D := finR (m_is_frac n (startR 3 ds))
abbrev s_frac_text : Stmt := topS 12
theorem sc_frac_text : FnScope ["one", "top", "bottom"] ["one"] (defScope s_frac_text) := ⟨rfl, rfl, rfl, by decide +kernel, rfl, by decide +kernel, by decide +kernel⟩
def m_frac_text (n : Nat) (ρ : REnv) : M Fl := (sq (asg (gT 2 (gsC (gN 1) (gsC (gN 2) gsN))) ρ (getv ρ 0)) fun ρ => (rtM ρ (bi addM (bnd (consM (getv ρ 1) (ret [])) strM) (ifM (tst (bi eqM (getv ρ 2) (ret (.int 1)))) (ret (.str "")) (bi addM (ret (.str "/")) (bnd (consM (getv ρ 2) (ret [])) strM))))))
def f_frac_text (n : Nat) (ds : List D) : M D := finR (m_frac_text n (startR 3 ds))
abbrev s_signed_number : Stmt := topS 13
theorem sc_signed_number : FnScope ["word", "number"] ["word"] (defScope s_signed_number) := ⟨rfl, rfl, rfl, by decide +kernel, rfl, by decide +kernel, by decide +kernel⟩
def m_signed_number (n : Nat) (ρ : REnv) : M Fl := (sq (ifS ρ (tst (bi neM (sliceM (getv ρ 0) noP (somP (ret (.int 1)))) (ret (.str "-")))) (rtM ρ (bnd (consM (getv ρ 0) (consM (ret c_MOST_FIGURES) (ret []))) (f_plain_number n))) (ret (.nx ρ))) fun ρ => (sq (asg (gN 1) ρ (bnd (consM (sliceM (getv ρ 0) (somP (ret (.int 1))) noP) (consM (ret c_MOST_FIGURES) (ret []))) (f_plain_number n))) fun ρ => (rtM ρ (ifM (orM (tst (bi isM (getv ρ 1) (ret .non))) (tst (bi eqM (getv ρ 1) (ret (.int 0))))) (ret .non) (bnd (getv ρ 1) negM)))))
def f_signed_number (n : Nat) (ds : List D) : M D := finR (m_signed_number n (startR 2 ds))
abbrev s_written_frac : Stmt := topS 14
theorem sc_written_frac : FnScope ["text", "words", "top", "bottom"] ["text"] (defScope s_written_frac) := ⟨rfl, rfl, rfl, by decide +kernel, rfl, by decide +kernel, by decide +kernel⟩
def m_written_frac (n : Nat) (ρ : REnv) : M Fl := (sq (asg (gN 1) ρ (mtM "str" splitM (getv ρ 0) (consM (ret (.str "/")) (ret [])))) fun ρ => (sq (asg (gN 2) ρ (bnd (consM (bi ixM (getv ρ 1) (ret (.int 0))) (ret [])) (f_signed_number n))) fun ρ => (sq (ifS ρ (tst (bi eqM (bnd (consM (getv ρ 1) (ret [])) lenM) (ret (.int 1)))) (rtM ρ (ifM (tst (bi isM (getv ρ 2) (ret .non))) (ret .non) (tupM (consM (getv ρ 2) (consM (ret (.int 1)) (ret [])))))) (ret (.nx ρ))) fun ρ => (sq (ifS ρ (tst (bi gtM (bnd (consM (getv ρ 1) (ret [])) lenM) (ret (.int 2)))) (rtM ρ (ret .non)) (ret (.nx ρ))) fun ρ => (sq (asg (gN 3) ρ (bnd (consM (bi ixM (getv ρ 1) (ret (.int 1))) (consM (ret c_MOST_FIGURES) (ret []))) (f_plain_number n))) fun ρ => (sq (ifS ρ (orM (tst (bi isM (getv ρ 2) (ret .non))) (orM (tst (bi isM (getv ρ 3) (ret .non))) (orM (tst (bi eqM (getv ρ 3) (ret (.int 1)))) (notM (tst (bnd (consM (tupM (consM (getv ρ 2) (consM (getv ρ 3) (ret [])))) (ret [])) (f_is_frac n))))))) (rtM ρ (ret .non)) (ret (.nx ρ))) fun ρ => (rtM ρ (tupM (consM (getv ρ 2) (consM (getv ρ 3) (ret [])))))))))))
def f_written_frac (n : Nat) (ds : List D) : M D := finR (m_written_frac n (startR 4 ds))
abbrev s_frac_in : Stmt := topS 15
theorem sc_frac_in : FnScope ["text", "found"] ["text"] (defScope s_frac_in) := ⟨rfl, rfl, rfl, by decide +kernel, rfl, by decide +kernel, by decide +kernel⟩
def m_frac_in (n : Nat) (ρ : REnv) : M Fl := (sq (asg (gN 1) ρ (bnd (consM (getv ρ 0) (ret [])) (f_written_frac n))) fun ρ => (sq (ifS ρ (tst (bi isM (getv ρ 1) (ret .non))) (stk) (ret (.nx ρ))) fun ρ => (rtM ρ (getv ρ 1))))
def f_frac_in (n : Nat) (ds : List D) : M D := finR (m_frac_in n (startR 2 ds))
abbrev s__law_cell_at : Stmt := topS 17
theorem sc__law_cell_at : FnScope ["script", "k"] ["script", "k"] (defScope s__law_cell_at) := ⟨rfl, rfl, rfl, by decide +kernel, rfl, by decide +kernel, by decide +kernel⟩
def m__law_cell_at (n : Nat) (ρ : REnv) : M Fl := (sq (ifS ρ (tst (bi ltM (getv ρ 1) (bnd (consM (getv ρ 0) (ret [])) lenM))) (rtM ρ (bi ixM (getv ρ 0) (getv ρ 1))) (ret (.nx ρ))) fun ρ => (rtM ρ (ret (.int 0))))
def f__law_cell_at (n : Nat) (ds : List D) : M D := finR (m__law_cell_at n (startR 2 ds))
abbrev s__law_box : Stmt := topS 18
theorem sc__law_box : FnScope ["script", "k", "cell"] ["script", "k"] (defScope s__law_box) := ⟨rfl, rfl, rfl, by decide +kernel, rfl, by decide +kernel, by decide +kernel⟩
def m__law_box (n : Nat) (ρ : REnv) : M Fl := (sq (asg (gN 2) ρ (bnd (consM (getv ρ 0) (consM (getv ρ 1) (ret []))) (f__law_cell_at n))) fun ρ => (rtM ρ (lstC (consM (bi mulM (bnd (consM (getv ρ 2) (ret [])) absM) (bnd (consM (bi geM (bnd (consM (getv ρ 2) (ret [])) absM) (bi powM (ret (.int 10)) (ret (.int 18)))) (ret [])) intX)) (consM (bi addM (bi addM (bi modM (getv ρ 2) (ret (.int 2305843009213693951))) (bi mulM (ret (.int 39373)) (getv ρ 1))) (ret (.int 17))) (consM (ret (.int 0)) (ret [])))))))
def f__law_box (n : Nat) (ds : List D) : M D := finR (m__law_box n (startR 3 ds))
abbrev s__law_take : Stmt := topS 19
theorem sc__law_take : FnScope ["box", "many", "found", "once", "twice"] ["box", "many"] (defScope s__law_take) := ⟨rfl, rfl, rfl, by decide +kernel, rfl, by decide +kernel, by decide +kernel⟩
def m__law_take (n : Nat) (ρ : REnv) : M Fl := (sq (ifS ρ (tst (bi gtM (bi ixM (getv ρ 0) (ret (.int 0))) (ret (.int 0)))) (sq (asg (gN 2) ρ (bi modM (bi ixM (getv ρ 0) (ret (.int 0))) (getv ρ 1))) fun ρ => (sq (asg (gS (fun ρ => (getv ρ 0)) fun ρ => (ret (.int 0))) ρ (bi fdivM (bi ixM (getv ρ 0) (ret (.int 0))) (getv ρ 1))) fun ρ => (rtM ρ (getv ρ 2)))) (ret (.nx ρ))) fun ρ => (sq (asg (gS (fun ρ => (getv ρ 0)) fun ρ => (ret (.int 2))) ρ (bi addM (bi ixM (getv ρ 0) (ret (.int 2))) (ret (.int 1)))) fun ρ => (sq (asg (gN 3) ρ (bi modM (bi mulM (bi addM (bi ixM (getv ρ 0) (ret (.int 1))) (bi mulM (ret (.int 48271)) (bi ixM (getv ρ 0) (ret (.int 2))))) (bi addM (ret (.int 39373)) (bi ixM (getv ρ 0) (ret (.int 2))))) (ret (.int 2147483647)))) fun ρ => (sq (asg (gN 4) ρ (bi modM (bi mulM (bi addM (getv ρ 3) (bi ixM (getv ρ 0) (ret (.int 2)))) (bi addM (bi modM (getv ρ 3) (ret (.int 40009))) (ret (.int 7)))) (ret (.int 2147483629)))) fun ρ => (rtM ρ (bi modM (bi fdivM (bi modM (bi addM (bi mulM (getv ρ 4) (ret (.int 48271))) (getv ρ 3)) (ret (.int 2147483587))) (ret (.int 64))) (getv ρ 1)))))))
def f__law_take (n : Nat) (ds : List D) : M D := finR (m__law_take n (startR 5 ds))
abbrev s__law_low : Stmt := topS 20
theorem sc__law_low : FnScope ["top", "bottom", "one", "other"] ["top", "bottom"] (defScope s__law_low) := ⟨rfl, rfl, rfl, by decide +kernel, rfl, by decide +kernel, by decide +kernel⟩
def m__law_low (n : Nat) (ρ : REnv) : M Fl := (sq (par 2 3 ρ (consM (bnd (consM (getv ρ 0) (ret [])) absM) (consM (bnd (consM (getv ρ 1) (ret [])) absM) (ret [])))) fun ρ => (sq (whileM (fun ρ => (tst (bi gtM (getv ρ 3) (ret (.int 0))))) (fun ρ => (par 2 3 ρ (consM (getv ρ 3) (consM (bi modM (getv ρ 2) (getv ρ 3)) (ret []))))) n ρ) fun ρ => (rtM ρ (tupM (consM (bi mulM (bi fdivM (getv ρ 0) (getv ρ 2)) (bi subM (ret (.int 1)) (bi mulM (ret (.int 2)) (bnd (consM (bi ltM (getv ρ 1) (ret (.int 0))) (ret [])) intX)))) (consM (bi fdivM (bnd (consM (getv ρ 1) (ret [])) absM) (getv ρ 2)) (ret [])))))))
def f__law_low (n : Nat) (ds : List D) : M D := finR (m__law_low n (startR 4 ds))
abbrev s__law_frac : Stmt := topS 21
theorem sc__law_frac : FnScope ["box", "below", "way", "sign", "most"] ["box", "below"] (defScope s__law_frac) := ⟨rfl, rfl, rfl, by decide +kernel, rfl, by decide +kernel, by decide +kernel⟩
def m__law_frac (n : Nat) (ρ : REnv) : M Fl := (sq (par 2 3 ρ (consM (bnd (consM (getv ρ 0) (consM (ret (.int 5)) (ret []))) (f__law_take n)) (consM (bi subM (ret (.int 1)) (bi mulM (bi mulM (ret (.int 2)) (bnd (consM (getv ρ 0) (consM (ret (.int 2)) (ret []))) (f__law_take n))) (bnd (consM (getv ρ 1) (ret [])) intX))) (ret [])))) fun ρ => (sq (ifS ρ (tst (bi eqM (getv ρ 2) (ret (.int 0)))) (rtM ρ (tupM (consM (bi mulM (bnd (consM (getv ρ 0) (consM (ret (.int 3)) (ret []))) (f__law_take n)) (getv ρ 3)) (consM (ret (.int 1)) (ret []))))) (ret (.nx ρ))) fun ρ => (sq (asg (gN 4) ρ (bi ixM (lstM (consM (ret (.int 12)) (consM (ret (.int 1000)) (consM (bi powM (ret (.int 10)) (ret (.int 20))) (consM (bi subM (bi powM (ret (.int 10)) (ret (.int 40))) (ret (.int 100))) (ret [])))))) (bi subM (getv ρ 2) (ret (.int 1))))) fun ρ => (rtM ρ (bnd (consM (bi mulM (bi addM (bnd (consM (getv ρ 0) (consM (getv ρ 4) (ret []))) (f__law_take n)) (bnd (consM (getv ρ 0) (consM (ret (.int 2)) (ret []))) (f__law_take n))) (getv ρ 3)) (consM (bi addM (ret (.int 1)) (bnd (consM (getv ρ 0) (consM (getv ρ 4) (ret []))) (f__law_take n))) (ret []))) (f__law_low n))))))
def f__law_frac (n : Nat) (ds : List D) : M D := finR (m__law_frac n (startR 5 ds))
abbrev s__law_same : Stmt := topS 22
theorem sc__law_same : FnScope ["found", "due", ".0", "one", "other"] ["found", "due"] (defScope s__law_same) := ⟨rfl, rfl, rfl, by decide +kernel, rfl, by decide +kernel, by decide +kernel⟩
def m__law_same (n : Nat) (self : List D → M D) (ρ : REnv) : M Fl := (sq (ifS ρ (tst (bnd (consM (getv ρ 1) (consM (tupM (consM (ret (.ty "list")) (consM (ret (.ty "tuple")) (ret [])))) (ret []))) isiT)) (sq (ifS ρ (orM (tst (bi neM (bnd (consM (getv ρ 0) (consM (ret (.ty "list")) (ret []))) isi1) (bnd (consM (getv ρ 1) (consM (ret (.ty "list")) (ret []))) isi1))) (tst (bi neM (bnd (consM (getv ρ 0) (consM (ret (.ty "tuple")) (ret []))) isi1) (bnd (consM (getv ρ 1) (consM (ret (.ty "tuple")) (ret []))) isi1)))) (rtM ρ (ret (.bl false))) (ret (.nx ρ))) fun ρ => (rtM ρ (andV (bi eqM (bnd (consM (getv ρ 0) (ret [])) lenM) (bnd (consM (getv ρ 1) (ret [])) lenM)) (bnd (consM (lcM ρ [2, 3, 4] (bnd (consM (getv ρ 0) (consM (getv ρ 1) (ret []))) zipM) (gT 2 (gsC (gN 3) (gsC (gN 4) gsN))) (fun ρ => yesM) fun ρ => (bnd (consM (getv ρ 3) (consM (getv ρ 4) (ret []))) self)) (ret [])) allM)))) (ret (.nx ρ))) fun ρ => (sq (ifS ρ (orM (tst (bi neM (bnd (consM (getv ρ 0) (consM (ret (.ty "bool")) (ret []))) isi1) (bnd (consM (getv ρ 1) (consM (ret (.ty "bool")) (ret []))) isi1))) (tst (bi neM (bnd (consM (getv ρ 0) (consM (ret (.ty "int")) (ret []))) isi1) (bnd (consM (getv ρ 1) (consM (ret (.ty "int")) (ret []))) isi1)))) (rtM ρ (ret (.bl false))) (ret (.nx ρ))) fun ρ => (rtM ρ (bi eqM (getv ρ 0) (getv ρ 1)))))
def f__law_same (n : Nat) : Nat → List D → M D
  | 0 => fun _ => stk
  | k + 1 => fun ds => finR (m__law_same n (f__law_same n k) (startR 5 ds))
abbrev s__law_figures : Stmt := topS 23
theorem sc__law_figures : FnScope ["number", "found", "left", "turn"] ["number"] (defScope s__law_figures) := ⟨rfl, rfl, rfl, by decide +kernel, rfl, by decide +kernel, by decide +kernel⟩
def m__law_figures (n : Nat) (ρ : REnv) : M Fl := (sq (par 1 2 ρ (consM (ret (.str "")) (consM (bnd (consM (getv ρ 0) (ret [])) absM) (ret [])))) fun ρ => (sq (forS ρ (bnd (consM (ret (.int 41)) (ret [])) range1M) (gN 3) fun ρ => (ifS ρ (orM (tst (bi gtM (getv ρ 2) (ret (.int 0)))) (tst (bi eqM (getv ρ 3) (ret (.int 0))))) (par 1 2 ρ (consM (bi addM (bi ixM (ret (.str "0123456789")) (bi modM (getv ρ 2) (ret (.int 10)))) (getv ρ 1)) (consM (bi fdivM (getv ρ 2) (ret (.int 10))) (ret [])))) (ret (.nx ρ)))) fun ρ => (rtM ρ (bi addM (bi smulM (ret (.str "-")) (bnd (consM (bi ltM (getv ρ 0) (ret (.int 0))) (ret [])) intX)) (getv ρ 1)))))
def f__law_figures (n : Nat) (ds : List D) : M D := finR (m__law_figures n (startR 4 ds))
abbrev s__law_right : Stmt := topS 24
theorem sc__law_right : FnScope ["box", "turn", "one", "due", "greatest"] ["box"] (defScope s__law_right) := ⟨rfl, rfl, rfl, by decide +kernel, rfl, by decide +kernel, by decide +kernel⟩
def m__law_right (n : Nat) (ρ : REnv) : M Fl := (sq (forS ρ (bnd (consM (ret (.int 10)) (ret [])) range1M) (gN 1) fun ρ => (sq (asg (gN 2) ρ (bnd (consM (getv ρ 0) (consM (ret (.bl true)) (ret []))) (f__law_frac n))) fun ρ => (sq (ifS ρ (tst (bi eqM (bnd (consM (getv ρ 0) (consM (ret (.int 4)) (ret []))) (f__law_take n)) (ret (.int 0)))) (asg (gN 2) ρ (bnd (consM (bi ixM (getv ρ 2) (ret (.int 0))) (consM (bi ixM (lstM (consM (ret (.int 1)) (consM (bi subM (bi powM (ret (.int 10)) (ret (.int 40))) (ret (.int 1))) (consM (bi powM (ret (.int 10)) (ret (.int 39))) (ret []))))) (bnd (consM (getv ρ 0) (consM (ret (.int 3)) (ret []))) (f__law_take n))) (ret []))) (f__law_low n))) (ret (.nx ρ))) fun ρ => (sq (asg (gN 3) ρ (bi addM (bnd (consM (bi ixM (getv ρ 2) (ret (.int 0))) (ret [])) (f__law_figures n)) (ifM (tst (bi eqM (bi ixM (getv ρ 2) (ret (.int 1))) (ret (.int 1)))) (ret (.str "")) (bi addM (ret (.str "/")) (bnd (consM (bi ixM (getv ρ 2) (ret (.int 1))) (ret [])) (f__law_figures n)))))) fun ρ => (ifS ρ (orM (notM (tst (bnd (consM (bnd (consM (getv ρ 2) (ret [])) (f_frac_text n)) (consM (getv ρ 3) (ret []))) (f__law_same n 12)))) (notM (tst (bnd (consM (bnd (consM (getv ρ 3) (ret [])) (f_frac_in n)) (consM (getv ρ 2) (ret []))) (f__law_same n 12))))) (rtM ρ (ret (.bl false))) (ret (.nx ρ))))))) fun ρ => (sq (asg (gN 4) ρ (tupM (consM (bi subM (ret (.int 1)) (bi powM (ret (.int 10)) (ret (.int 40)))) (consM (bi subM (bi powM (ret (.int 10)) (ret (.int 40))) (ret (.int 2))) (ret []))))) fun ρ => (rtM ρ (bnd (consM (lstM (consM (bnd (consM (bnd (consM (getv ρ 4) (ret [])) (f_frac_text n)) (ret [])) (f_frac_in n)) (consM (bnd (consM (tupM (consM (ret (.int 0)) (consM (ret (.int 1)) (ret [])))) (ret [])) (f_frac_text n)) (ret [])))) (consM (lstM (consM (getv ρ 4) (consM (ret (.str "0")) (ret [])))) (ret []))) (f__law_same n 12)))))
def f__law_right (n : Nat) (ds : List D) : M D := finR (m__law_right n (startR 5 ds))
abbrev s_law : Stmt := topS 25
theorem sc_law : FnScope ["script", ".0", "k"] ["script"] (defScope s_law) := ⟨rfl, rfl, rfl, by decide +kernel, rfl, by decide +kernel, by decide +kernel⟩
def m_law (n : Nat) (ρ : REnv) : M Fl := (rtM ρ (bnd (consM (lcM ρ [1, 2] (bnd (consM (bi addM (ret (.int 1)) (bnd (consM (ret (.int 6)) (consM (bnd (consM (getv ρ 0) (ret [])) lenM) (ret []))) minM)) (ret [])) range1M) (gN 2) (fun ρ => yesM) fun ρ => (bnd (consM (bnd (consM (getv ρ 0) (consM (getv ρ 2) (ret []))) (f__law_box n)) (ret [])) (f__law_right n))) (ret [])) allM))
def f_law (n : Nat) (ds : List D) : M D := finR (m_law n (startR 3 ds))
structure Tx (K : PySem.W.Frag) (mg : Str → Option Value) where
  is_number : DefAt K mg "is_number" "is_number" s_is_number ["thing"]
  plain_number : DefAt K mg "plain_number" "plain_number" s_plain_number ["word", "most"]
  common : DefAt K mg "common" "common" s_common ["one", "other"]
  is_frac : DefAt K mg "is_frac" "is_frac" s_is_frac ["thing"]
  frac_text : DefAt K mg "frac_text" "frac_text" s_frac_text ["one"]
  signed_number : DefAt K mg "signed_number" "signed_number" s_signed_number ["word"]
  written_frac : DefAt K mg "written_frac" "written_frac" s_written_frac ["text"]
  frac_in : DefAt K mg "frac_in" "frac_in" s_frac_in ["text"]
  _law_cell_at : DefAt K mg "_law_cell_at" "_law_cell_at" s__law_cell_at ["script", "k"]
  _law_box : DefAt K mg "_law_box" "_law_box" s__law_box ["script", "k"]
  _law_take : DefAt K mg "_law_take" "_law_take" s__law_take ["box", "many"]
  _law_low : DefAt K mg "_law_low" "_law_low" s__law_low ["top", "bottom"]
  _law_frac : DefAt K mg "_law_frac" "_law_frac" s__law_frac ["box", "below"]
  _law_same : DefAt K mg "_law_same" "_law_same" s__law_same ["found", "due"]
  _law_figures : DefAt K mg "_law_figures" "_law_figures" s__law_figures ["number"]
  _law_right : DefAt K mg "_law_right" "_law_right" s__law_right ["box"]
  law : DefAt K mg "law" "law" s_law ["script"]
  z_abs : mg "abs" = none
  z_all : mg "all" = none
  z_bool : mg "bool" = none
  z_int : mg "int" = none
  z_isinstance : mg "isinstance" = none
  z_len : mg "len" = none
  z_list : mg "list" = none
  z_min : mg "min" = none
  z_range : mg "range" = none
  z_str : mg "str" = none
  z_tuple : mg "tuple" = none
  z_zip : mg "zip" = none
  c_FIGURES : ConAt K mg "FIGURES" c_FIGURES
  c_MOST_FIGURES : ConAt K mg "MOST_FIGURES" c_MOST_FIGURES
section
variable {P : Program} {w : World} {K : PySem.W.Frag} {mg : Str → Option Value} {base : Heap}
theorem ok_is_number (G : Tx K mg) (n : Nat) : FnOk P w K mg base (L2.CX P w) 1 G.is_number.f G.is_number.fd ["thing"] (spR K mg tbl 1 (f_is_number n)) :=
  fn_ok (c := m_is_number n) G.is_number.F sc_is_number 1 1 rfl rfl fun cdv A outer s H E hr hx hp tk => ⟨_, fun ρ => (.last (.ret (.and (.callB (r := rIsi K) fn_isi (call_isi) rfl G.z_isinstance bt_isinstance (.cons (.var (pv 0)) (.cons (.const (pe_bltn (v := .ty "int") rfl G.z_int bt_int rfl) fun _ _ _ => .ty _) .nil))) (.one (.not (.callB (r := rIsi K) fn_isi (call_isi) rfl G.z_isinstance bt_isinstance (.cons (.var (pv 0)) (.cons (.const (pe_bltn (v := .ty "bool") rfl G.z_bool bt_bool rfl) fun _ _ _ => .ty _) .nil))))))))⟩
theorem ok_plain_number (G : Tx K mg) (n : Nat) : FnOk P w K mg base (L2.CX P w) 1 G.plain_number.f G.plain_number.fd ["word", "most"] (spR K mg tbl 2 (f_plain_number n)) :=
  fn_ok (c := m_plain_number n) G.plain_number.F sc_plain_number 2 4 rfl rfl fun cdv A outer s H E hr hx hp tk => ⟨_, fun ρ => (.cons (.ifs (RW.rt (RW.or (RT.not (RT.ch2 op_le ok_le op_le ok_le .int (.callB (r := rLenA K) fn_len (call_len) rfl G.z_len bt_len (.cons (.var (pv 0)) .nil)) (.var (pv 1)))) (RW.or1 (RT.not (RT.val (.callB (r := rAll K) fn_all (cr_all rfl) rfl G.z_all bt_all (.cons (.lc (own := [(".0", 2), ("sign", 3)]) rfl sc_plain_number.nd (.str (.var (pv 0))) (blkOk_by (N := ["word", "most", ".0", "sign"]) (sc := defScope s_plain_number) (by decide +kernel)) (fun _ _ _ _ _ => (.name (pg_name (i := 3) sc_plain_number.nd rfl (by first | exact .inl rfl | exact .inr rfl)))) (fun _ _ _ _ _ ρ => .nil) (fun _ _ _ _ _ ρ => (RE.cmp (r := rIn3 K fun b => b) (op_in3 (room65 hr)) ok_in (.var (pv 3)) (.const (pe_glob rfl G.c_FIGURES.hm G.c_FIGURES.r) G.c_FIGURES.rep) rfl)) (by decide) s) .nil))))))) (.last (.ret .non)) .nil) fun ρ => (.cons (.ifs (RW.rt (RW.and (RT.cmp (r := rEqD K) (op_eqD hr.units) ok_eq (.ix K (.var (pv 0)) .int (fun _ _ => rfl)) .str (nomark _)) (RW.and1 (RT.cmp (r := rNeD K) (op_neD hr.units) ok_ne (.var (pv 0)) .str (nomark _))))) (.last (.ret .non)) .nil) fun ρ => (.last (.ret (.callTy fn_intX (call_intX) rfl G.z_int bt_int (.cons (.var (pv 0)) .nil))))))⟩
theorem ok_common (G : Tx K mg) (n : Nat) : FnOk P w K mg base (L2.CX P w) 1 G.common.f G.common.fd ["one", "other"] (spR K mg tbl 2 (f_common n)) :=
  fn_ok (c := m_common n) G.common.F sc_common 2 2 rfl rfl fun cdv A outer s H E hr hx hp tk => ⟨_, fun ρ => (.cons (.par (i := 0) (j := 1) rfl sc_common.nd rfl rfl (by decide) rfl rfl (.cons (.callB fn_abs (call_abs) rfl G.z_abs bt_abs (.cons (.var (pv 0)) .nil)) (.cons (.callB fn_abs (call_abs) rfl G.z_abs bt_abs (.cons (.var (pv 1)) .nil)) .nil)) rfl) fun ρ => (.cons (.while_ hp (fun ρ => (RT.cmp op_gt ok_gt (.var (pv 1)) .int (nomark _))) fun ρ => (.last (.par (i := 0) (j := 1) rfl sc_common.nd rfl rfl (by decide) rfl rfl (.cons (.var (pv 1)) (.cons (.mod (.var (pv 0)) (.var (pv 1))) .nil)) rfl))) fun ρ => (.last (.ret (.var (pv 0))))))⟩
theorem ok_is_frac (G : Tx K mg) (n : Nat) : FnOk P w K mg base (L2.CX P w) 2 G.is_frac.f G.is_frac.fd ["thing"] (spR K mg tbl 1 (f_is_frac n)) :=
  fn_ok (c := m_is_frac n) G.is_frac.F sc_is_frac 1 3 rfl rfl fun cdv A outer s H E hr hx hp tk => ⟨_, fun ρ => (.cons (.ifs (RW.rt (RW.or (RT.not (RT.val (.callB (r := rIsi K) fn_isi (call_isi) rfl G.z_isinstance bt_isinstance (.cons (.var (pv 0)) (.cons (.const (pe_bltn (v := .ty "tuple") rfl G.z_tuple bt_tuple rfl) fun _ _ _ => .ty _) .nil))))) (RW.or (RT.cmp (r := rNeD K) (op_neD hr.units) ok_ne (.callB (r := rLenA K) fn_len (call_len) rfl G.z_len bt_len (.cons (.var (pv 0)) .nil)) .int (nomark _)) (RW.or1 (RT.not (RT.val (.callB (r := rAll K) fn_all (cr_all rfl) rfl G.z_all bt_all (.cons (.lc (own := [(".0", 1), ("part", 2)]) rfl sc_is_frac.nd (.seq K (.var (pv 0))) (blkOk_by (N := ["thing", ".0", "part"]) (sc := defScope s_is_frac) (by decide +kernel)) (fun _ _ _ _ _ => (.name (pg_name (i := 2) sc_is_frac.nd rfl (by first | exact .inl rfl | exact .inr rfl)))) (fun _ _ _ _ _ ρ => .nil) (fun _ _ _ _ _ ρ => (.call (ok_is_number G n) (hr.mono (by decide)) rfl G.is_number.g G.is_number.F.kp G.is_number.b (passBlk cx_false) (.cons (.var (pv 2)) .nil) (hlen := (consM_len nilM_len)))) (by decide) s) .nil)))))))) (.last (.ret .bl)) .nil) fun ρ => (.last (.ret (.and (RE.cmp op_gt ok_gt (.ix K (.var (pv 0)) .int (fun _ _ => rfl)) .int (nomark _)) (.one (RE.cmp (r := rEqD K) (op_eqD hr.units) ok_eq (.call (ok_common G n) (hr.mono (by decide)) rfl G.common.g G.common.F.kp G.common.b hx (.cons (.ix K (.var (pv 0)) .int (fun _ _ => rfl)) (.cons (.ix K (.var (pv 0)) .int (fun _ _ => rfl)) .nil)) (hlen := (consM_len (consM_len nilM_len)))) .int (nomark _)))))))⟩
theorem ok_frac_text (G : Tx K mg) (n : Nat) : FnOk P w K mg base (L2.CX P w) 1 G.frac_text.f G.frac_text.fd ["one"] (spR K mg tbl 1 (f_frac_text n)) :=
  fn_ok (c := m_frac_text n) G.frac_text.F sc_frac_text 1 3 rfl rfl fun cdv A outer s H E hr hx hp tk => ⟨_, fun ρ => (.cons (.asg (.var (pv 0)) (.tup K rfl (.cons (.name (pg_name (i := 1) sc_frac_text.nd rfl (by first | exact .inl rfl | exact .inr rfl))) (.cons (.name (pg_name (i := 2) sc_frac_text.nd rfl (by first | exact .inl rfl | exact .inr rfl))) .nil)))) fun ρ => (.last (.ret (.add K (.callTy fn_str (call_str_int) rfl G.z_str bt_str (.cons (.var (pv 1)) .nil)) (.ifx (RT.cmp (r := rEqD K) (op_eqD hr.units) ok_eq (.var (pv 2)) .int (nomark _)) .str (.add K .str (.callTy fn_str (call_str_int) rfl G.z_str bt_str (.cons (.var (pv 2)) .nil))))))))⟩
theorem ok_signed_number (G : Tx K mg) (n : Nat) : FnOk P w K mg base (L2.CX P w) 2 G.signed_number.f G.signed_number.fd ["word"] (spR K mg tbl 1 (f_signed_number n)) :=
  fn_ok (c := m_signed_number n) G.signed_number.F sc_signed_number 1 2 rfl rfl fun cdv A outer s H E hr hx hp tk => ⟨_, fun ρ => (.cons (.ifs (RT.cmp (r := rNeD K) (op_neD hr.units) ok_ne (.slice (.var (pv 0)) .none (.some .int)) .str (nomark _)) (.last (.ret (.call (ok_plain_number G n) (hr.mono (by decide)) rfl G.plain_number.g G.plain_number.F.kp G.plain_number.b hx (.cons (.var (pv 0)) (.cons (.const (pe_glob rfl G.c_MOST_FIGURES.hm G.c_MOST_FIGURES.r) G.c_MOST_FIGURES.rep) .nil)) (hlen := (consM_len (consM_len nilM_len)))))) .nil) fun ρ => (.cons (.set (i := 1) sc_signed_number.nd rfl (by first | exact .inl rfl | exact .inr rfl) (.call (ok_plain_number G n) (hr.mono (by decide)) rfl G.plain_number.g G.plain_number.F.kp G.plain_number.b hx (.cons (.slice (.var (pv 0)) (.some .int) .none) (.cons (.const (pe_glob rfl G.c_MOST_FIGURES.hm G.c_MOST_FIGURES.r) G.c_MOST_FIGURES.rep) .nil)) (hlen := (consM_len (consM_len nilM_len))))) fun ρ => (.last (.ret (.ifx (RW.rt (RW.or (RT.cmp op_isA ok_is (.var (pv 1)) .non (nomark _)) (RW.or1 (RT.cmp (r := rEqD K) (op_eqD hr.units) ok_eq (.var (pv 1)) .int (nomark _))))) .non (.neg (.var (pv 1))))))))⟩
theorem ok_written_frac (G : Tx K mg) (n : Nat) : FnOk P w K mg base (L2.CX P w) 3 G.written_frac.f G.written_frac.fd ["text"] (spR K mg tbl 1 (f_written_frac n)) :=
  fn_ok (c := m_written_frac n) G.written_frac.F sc_written_frac 1 4 rfl rfl fun cdv A outer s H E hr hx hp tk => ⟨_, fun ρ => (.cons (.set (i := 1) sc_written_frac.nd rfl (by first | exact .inl rfl | exact .inr rfl) (.mt PySem.F.plainAttrs_str PySem.F.slot_str_split PySem.F.type_str_split mt_split ok_split (.inr rfl) (.var (pv 0)) (.cons .str .nil))) fun ρ => (.cons (.set (i := 2) sc_written_frac.nd rfl (by first | exact .inl rfl | exact .inr rfl) (.call (ok_signed_number G n) (hr.mono (by decide)) rfl G.signed_number.g G.signed_number.F.kp G.signed_number.b hx (.cons (.ix K (.var (pv 1)) .int (fun _ _ => rfl)) .nil) (hlen := (consM_len nilM_len)))) fun ρ => (.cons (.ifs (RT.cmp (r := rEqD K) (op_eqD hr.units) ok_eq (.callB (r := rLenA K) fn_len (call_len) rfl G.z_len bt_len (.cons (.var (pv 1)) .nil)) .int (nomark _)) (.last (.ret (.ifx (RT.cmp op_isA ok_is (.var (pv 2)) .non (nomark _)) .non (.tup (.cons (.var (pv 2)) (.cons .int .nil)))))) .nil) fun ρ => (.cons (.ifs (RT.cmp op_gt ok_gt (.callB (r := rLenA K) fn_len (call_len) rfl G.z_len bt_len (.cons (.var (pv 1)) .nil)) .int (nomark _)) (.last (.ret .non)) .nil) fun ρ => (.cons (.set (i := 3) sc_written_frac.nd rfl (by first | exact .inl rfl | exact .inr rfl) (.call (ok_plain_number G n) (hr.mono (by decide)) rfl G.plain_number.g G.plain_number.F.kp G.plain_number.b hx (.cons (.ix K (.var (pv 1)) .int (fun _ _ => rfl)) (.cons (.const (pe_glob rfl G.c_MOST_FIGURES.hm G.c_MOST_FIGURES.r) G.c_MOST_FIGURES.rep) .nil)) (hlen := (consM_len (consM_len nilM_len))))) fun ρ => (.cons (.ifs (RW.rt (RW.or (RT.cmp op_isA ok_is (.var (pv 2)) .non (nomark _)) (RW.or (RT.cmp op_isA ok_is (.var (pv 3)) .non (nomark _)) (RW.or (RT.cmp (r := rEqD K) (op_eqD hr.units) ok_eq (.var (pv 3)) .int (nomark _)) (RW.or1 (RT.not (RT.val (.call (ok_is_frac G n) (hr.mono (by decide)) rfl G.is_frac.g G.is_frac.F.kp G.is_frac.b hx (.cons (.tup (.cons (.var (pv 2)) (.cons (.var (pv 3)) .nil))) .nil) (hlen := (consM_len nilM_len)))))))))) (.last (.ret .non)) .nil) fun ρ => (.last (.ret (.tup (.cons (.var (pv 2)) (.cons (.var (pv 3)) .nil)))))))))))⟩
theorem ok_frac_in (G : Tx K mg) (n : Nat) : FnOk P w K mg base (L2.CX P w) 4 G.frac_in.f G.frac_in.fd ["text"] (spR K mg tbl 1 (f_frac_in n)) :=
  fn_ok (c := m_frac_in n) G.frac_in.F sc_frac_in 1 2 rfl rfl fun cdv A outer s H E hr hx hp tk => ⟨_, fun ρ => (.cons (.set (i := 1) sc_frac_in.nd rfl (by first | exact .inl rfl | exact .inr rfl) (.call (ok_written_frac G n) (hr.mono (by decide)) rfl G.written_frac.g G.written_frac.F.kp G.written_frac.b hx (.cons (.var (pv 0)) .nil) (hlen := (consM_len nilM_len)))) fun ρ => (.cons (.ifs (RT.cmp op_isA ok_is (.var (pv 1)) .non (nomark _)) (.last .dead) .nil) fun ρ => (.last (.ret (.var (pv 1))))))⟩
theorem ok__law_cell_at (G : Tx K mg) (n : Nat) : FnOk P w K mg base (L2.CX P w) 1 G._law_cell_at.f G._law_cell_at.fd ["script", "k"] (spR K mg tbl 2 (f__law_cell_at n)) :=
  fn_ok (c := m__law_cell_at n) G._law_cell_at.F sc__law_cell_at 2 2 rfl rfl fun cdv A outer s H E hr hx hp tk => ⟨_, fun ρ => (.cons (.ifs (RT.cmp op_lt ok_lt (.var (pv 1)) (.callB (r := rLenA K) fn_len (call_len) rfl G.z_len bt_len (.cons (.var (pv 0)) .nil)) (nomark _)) (.last (.ret (.ix K (.var (pv 0)) (.var (pv 1)) (fun _ _ => rfl)))) .nil) fun ρ => (.last (.ret .int)))⟩
theorem ok__law_box (G : Tx K mg) (n : Nat) : FnOk P w K mg base (L2.CX P w) 2 G._law_box.f G._law_box.fd ["script", "k"] (spR K mg tbl 2 (f__law_box n)) :=
  fn_ok (c := m__law_box n) G._law_box.F sc__law_box 2 3 rfl rfl fun cdv A outer s H E hr hx hp tk => ⟨_, fun ρ => (.cons (.set (i := 2) sc__law_box.nd rfl (by first | exact .inl rfl | exact .inr rfl) (.call (ok__law_cell_at G n) (hr.mono (by decide)) rfl G._law_cell_at.g G._law_cell_at.F.kp G._law_cell_at.b hx (.cons (.var (pv 0)) (.cons (.var (pv 1)) .nil)) (hlen := (consM_len (consM_len nilM_len))))) fun ρ => (.last (.ret (.lstC (.cons (.mul (.callB fn_abs (call_abs) rfl G.z_abs bt_abs (.cons (.var (pv 2)) .nil)) (.callTy fn_intX (call_intX) rfl G.z_int bt_int (.cons (RE.cmp op_ge ok_ge (.callB fn_abs (call_abs) rfl G.z_abs bt_abs (.cons (.var (pv 2)) .nil)) (.pow .int .int) (nomark _)) .nil))) (.cons (.add K (.add K (.mod (.var (pv 2)) .int) (.mul .int (.var (pv 1)))) .int) (.cons .int .nil)))))))⟩
theorem ok__law_take (G : Tx K mg) (n : Nat) : FnOk P w K mg base (L2.CX P w) 1 G._law_take.f G._law_take.fd ["box", "many"] (spR K mg tbl 2 (f__law_take n)) :=
  fn_ok (c := m__law_take n) G._law_take.F sc__law_take 2 5 rfl rfl fun cdv A outer s H E hr hx hp tk => ⟨_, fun ρ => (.cons (.ifs (RT.cmp op_gt ok_gt (.ix K (.var (pv 0)) .int (fun _ _ => rfl)) .int (nomark _)) (.cons (.set (i := 2) sc__law_take.nd rfl (by first | exact .inl rfl | exact .inr rfl) (.mod (.ix K (.var (pv 0)) .int (fun _ _ => rfl)) (.var (pv 1)))) fun ρ => (.cons (.asg (.fdiv (.ix K (.var (pv 0)) .int (fun _ _ => rfl)) (.var (pv 1))) (.sub (W := fun c d _ H => E c d H) (fun ρ => (.var (pv 0))) fun ρ => .int)) fun ρ => (.last (.ret (.var (pv 2)))))) .nil) fun ρ => (.cons (.asg (.add K (.ix K (.var (pv 0)) .int (fun _ _ => rfl)) .int) (.sub (W := fun c d _ H => E c d H) (fun ρ => (.var (pv 0))) fun ρ => .int)) fun ρ => (.cons (.set (i := 3) sc__law_take.nd rfl (by first | exact .inl rfl | exact .inr rfl) (.mod (.mul (.add K (.ix K (.var (pv 0)) .int (fun _ _ => rfl)) (.mul .int (.ix K (.var (pv 0)) .int (fun _ _ => rfl)))) (.add K .int (.ix K (.var (pv 0)) .int (fun _ _ => rfl)))) .int)) fun ρ => (.cons (.set (i := 4) sc__law_take.nd rfl (by first | exact .inl rfl | exact .inr rfl) (.mod (.mul (.add K (.var (pv 3)) (.ix K (.var (pv 0)) .int (fun _ _ => rfl))) (.add K (.mod (.var (pv 3)) .int) .int)) .int)) fun ρ => (.last (.ret (.mod (.fdiv (.mod (.add K (.mul (.var (pv 4)) .int) (.var (pv 3))) .int) .int) (.var (pv 1)))))))))⟩
theorem ok__law_low (G : Tx K mg) (n : Nat) : FnOk P w K mg base (L2.CX P w) 1 G._law_low.f G._law_low.fd ["top", "bottom"] (spR K mg tbl 2 (f__law_low n)) :=
  fn_ok (c := m__law_low n) G._law_low.F sc__law_low 2 4 rfl rfl fun cdv A outer s H E hr hx hp tk => ⟨_, fun ρ => (.cons (.par (i := 2) (j := 3) rfl sc__law_low.nd rfl rfl (by decide) rfl rfl (.cons (.callB fn_abs (call_abs) rfl G.z_abs bt_abs (.cons (.var (pv 0)) .nil)) (.cons (.callB fn_abs (call_abs) rfl G.z_abs bt_abs (.cons (.var (pv 1)) .nil)) .nil)) rfl) fun ρ => (.cons (.while_ hp (fun ρ => (RT.cmp op_gt ok_gt (.var (pv 3)) .int (nomark _))) fun ρ => (.last (.par (i := 2) (j := 3) rfl sc__law_low.nd rfl rfl (by decide) rfl rfl (.cons (.var (pv 3)) (.cons (.mod (.var (pv 2)) (.var (pv 3))) .nil)) rfl))) fun ρ => (.last (.ret (.tup (.cons (.mul (.fdiv (.var (pv 0)) (.var (pv 2))) (.sub .int (.mul .int (.callTy fn_intX (call_intX) rfl G.z_int bt_int (.cons (RE.cmp op_lt ok_lt (.var (pv 1)) .int (nomark _)) .nil))))) (.cons (.fdiv (.callB fn_abs (call_abs) rfl G.z_abs bt_abs (.cons (.var (pv 1)) .nil)) (.var (pv 2))) .nil)))))))⟩
theorem ok__law_frac (G : Tx K mg) (n : Nat) : FnOk P w K mg base (L2.CX P w) 2 G._law_frac.f G._law_frac.fd ["box", "below"] (spR K mg tbl 2 (f__law_frac n)) :=
  fn_ok (c := m__law_frac n) G._law_frac.F sc__law_frac 2 5 rfl rfl fun cdv A outer s H E hr hx hp tk => ⟨_, fun ρ => (.cons (.par (i := 2) (j := 3) rfl sc__law_frac.nd rfl rfl (by decide) rfl rfl (.cons (.call (ok__law_take G n) (hr.mono (by decide)) rfl G._law_take.g G._law_take.F.kp G._law_take.b hx (.cons (.var (pv 0)) (.cons .int .nil)) (hlen := (consM_len (consM_len nilM_len)))) (.cons (.sub .int (.mul (.mul .int (.call (ok__law_take G n) (hr.mono (by decide)) rfl G._law_take.g G._law_take.F.kp G._law_take.b hx (.cons (.var (pv 0)) (.cons .int .nil)) (hlen := (consM_len (consM_len nilM_len))))) (.callTy fn_intX (call_intX) rfl G.z_int bt_int (.cons (.var (pv 1)) .nil)))) .nil)) rfl) fun ρ => (.cons (.ifs (RT.cmp (r := rEqD K) (op_eqD hr.units) ok_eq (.var (pv 2)) .int (nomark _)) (.last (.ret (.tup (.cons (.mul (.call (ok__law_take G n) (hr.mono (by decide)) rfl G._law_take.g G._law_take.F.kp G._law_take.b hx (.cons (.var (pv 0)) (.cons .int .nil)) (hlen := (consM_len (consM_len nilM_len)))) (.var (pv 3))) (.cons .int .nil))))) .nil) fun ρ => (.cons (.set (i := 4) sc__law_frac.nd rfl (by first | exact .inl rfl | exact .inr rfl) (.ix K (.lst (.cons .int (.cons .int (.cons (.pow .int .int) (.cons (.sub (.pow .int .int) .int) .nil))))) (.sub (.var (pv 2)) .int) (fun _ _ => rfl))) fun ρ => (.last (.ret (.call (ok__law_low G n) (hr.mono (by decide)) rfl G._law_low.g G._law_low.F.kp G._law_low.b hx (.cons (.mul (.add K (.call (ok__law_take G n) (hr.mono (by decide)) rfl G._law_take.g G._law_take.F.kp G._law_take.b hx (.cons (.var (pv 0)) (.cons (.var (pv 4)) .nil)) (hlen := (consM_len (consM_len nilM_len)))) (.call (ok__law_take G n) (hr.mono (by decide)) rfl G._law_take.g G._law_take.F.kp G._law_take.b hx (.cons (.var (pv 0)) (.cons .int .nil)) (hlen := (consM_len (consM_len nilM_len))))) (.var (pv 3))) (.cons (.add K .int (.call (ok__law_take G n) (hr.mono (by decide)) rfl G._law_take.g G._law_take.F.kp G._law_take.b hx (.cons (.var (pv 0)) (.cons (.var (pv 4)) .nil)) (hlen := (consM_len (consM_len nilM_len))))) .nil)) (hlen := (consM_len (consM_len nilM_len)))))))))⟩
theorem ok__law_same (G : Tx K mg) (n : Nat) : ∀ k : Nat, FnOk P w K mg base (L2.CX P w) (1 + k) G._law_same.f G._law_same.fd ["found", "due"] (spR K mg tbl 2 (f__law_same n k))
  | 0 => fn_no G._law_same.F sc__law_same rfl
  | k + 1 => by
    have ih := ok__law_same G n k
    refine fn_ok (k := 1 + k) (c := fun ρ => m__law_same n (f__law_same n k) ρ) G._law_same.F sc__law_same 2 5 rfl rfl fun cdv A outer s H E hr hx hp tk => ?_
    have hu := hr.units
    exact ⟨_, fun ρ => (.cons (.ifs (RT.val (.callB (r := rIsiA K) fn_isiT call_isiA rfl G.z_isinstance bt_isinstance (.cons (.var (pv 1)) (.cons (.tup (.cons (.const (pe_bltn (v := .ty "list") rfl G.z_list bt_list rfl) fun _ _ _ => .ty _) (.cons (.const (pe_bltn (v := .ty "tuple") rfl G.z_tuple bt_tuple rfl) fun _ _ _ => .ty _) .nil))) .nil)))) (.cons (.ifs (RW.rt (RW.or (RT.cmp (r := rNeD K) (op_neD hr.units) ok_ne (.callB (r := rIsi K) fn_isi (call_isi) rfl G.z_isinstance bt_isinstance (.cons (.var (pv 0)) (.cons (.const (pe_bltn (v := .ty "list") rfl G.z_list bt_list rfl) fun _ _ _ => .ty _) .nil))) (.callB (r := rIsi K) fn_isi (call_isi) rfl G.z_isinstance bt_isinstance (.cons (.var (pv 1)) (.cons (.const (pe_bltn (v := .ty "list") rfl G.z_list bt_list rfl) fun _ _ _ => .ty _) .nil))) (nomark _)) (RW.or1 (RT.cmp (r := rNeD K) (op_neD hr.units) ok_ne (.callB (r := rIsi K) fn_isi (call_isi) rfl G.z_isinstance bt_isinstance (.cons (.var (pv 0)) (.cons (.const (pe_bltn (v := .ty "tuple") rfl G.z_tuple bt_tuple rfl) fun _ _ _ => .ty _) .nil))) (.callB (r := rIsi K) fn_isi (call_isi) rfl G.z_isinstance bt_isinstance (.cons (.var (pv 1)) (.cons (.const (pe_bltn (v := .ty "tuple") rfl G.z_tuple bt_tuple rfl) fun _ _ _ => .ty _) .nil))) (nomark _))))) (.last (.ret .bl)) .nil) fun ρ => (.last (.ret (.and (RE.cmp (r := rEqD K) (op_eqD hr.units) ok_eq (.callB (r := rLenA K) fn_len (call_len) rfl G.z_len bt_len (.cons (.var (pv 0)) .nil)) (.callB (r := rLenA K) fn_len (call_len) rfl G.z_len bt_len (.cons (.var (pv 1)) .nil)) (nomark _)) (.one (.callB (r := rAll K) fn_all (cr_all rfl) rfl G.z_all bt_all (.cons (.lc (own := [(".0", 2), ("one", 3), ("other", 4)]) rfl sc__law_same.nd (.zip K rfl G.z_zip (.cons (.var (pv 0)) (.cons (.var (pv 1)) .nil))) (blkOk_by (N := ["found", "due", ".0", "one", "other"]) (sc := defScope s__law_same) (by decide +kernel)) (fun _ _ _ _ _ => (.tup K rfl (.cons (.name (pg_name (i := 3) sc__law_same.nd rfl (by first | exact .inl rfl | exact .inr rfl))) (.cons (.name (pg_name (i := 4) sc__law_same.nd rfl (by first | exact .inl rfl | exact .inr rfl))) .nil)))) (fun _ _ _ _ _ ρ => .nil) (fun _ _ _ _ _ ρ => (.call ih hr rfl G._law_same.g G._law_same.F.kp G._law_same.b (passBlk cx_false) (.cons (.var (pv 3)) (.cons (.var (pv 4)) .nil)) (hlen := (consM_len (consM_len nilM_len))))) (by decide) s) .nil))))))) .nil) fun ρ => (.cons (.ifs (RW.rt (RW.or (RT.cmp (r := rNeD K) (op_neD hr.units) ok_ne (.callB (r := rIsi K) fn_isi (call_isi) rfl G.z_isinstance bt_isinstance (.cons (.var (pv 0)) (.cons (.const (pe_bltn (v := .ty "bool") rfl G.z_bool bt_bool rfl) fun _ _ _ => .ty _) .nil))) (.callB (r := rIsi K) fn_isi (call_isi) rfl G.z_isinstance bt_isinstance (.cons (.var (pv 1)) (.cons (.const (pe_bltn (v := .ty "bool") rfl G.z_bool bt_bool rfl) fun _ _ _ => .ty _) .nil))) (nomark _)) (RW.or1 (RT.cmp (r := rNeD K) (op_neD hr.units) ok_ne (.callB (r := rIsi K) fn_isi (call_isi) rfl G.z_isinstance bt_isinstance (.cons (.var (pv 0)) (.cons (.const (pe_bltn (v := .ty "int") rfl G.z_int bt_int rfl) fun _ _ _ => .ty _) .nil))) (.callB (r := rIsi K) fn_isi (call_isi) rfl G.z_isinstance bt_isinstance (.cons (.var (pv 1)) (.cons (.const (pe_bltn (v := .ty "int") rfl G.z_int bt_int rfl) fun _ _ _ => .ty _) .nil))) (nomark _))))) (.last (.ret .bl)) .nil) fun ρ => (.last (.ret (RE.cmp (r := rEqD K) (op_eqD hr.units) ok_eq (.var (pv 0)) (.var (pv 1)) (nomark _))))))⟩
theorem ok__law_figures (G : Tx K mg) (n : Nat) : FnOk P w K mg base (L2.CX P w) 1 G._law_figures.f G._law_figures.fd ["number"] (spR K mg tbl 1 (f__law_figures n)) :=
  fn_ok (c := m__law_figures n) G._law_figures.F sc__law_figures 1 4 rfl rfl fun cdv A outer s H E hr hx hp tk => ⟨_, fun ρ => (.cons (.par (i := 1) (j := 2) rfl sc__law_figures.nd rfl rfl (by decide) rfl rfl (.cons .str (.cons (.callB fn_abs (call_abs) rfl G.z_abs bt_abs (.cons (.var (pv 0)) .nil)) .nil)) rfl) fun ρ => (.cons (.for_ hp rfl (.range1 rfl G.z_range (.cons .int .nil)) (.name (pg_name (i := 3) sc__law_figures.nd rfl (by first | exact .inl rfl | exact .inr rfl))) fun ρ => (.last (.ifs (RW.rt (RW.or (RT.cmp op_gt ok_gt (.var (pv 2)) .int (nomark _)) (RW.or1 (RT.cmp (r := rEqD K) (op_eqD hr.units) ok_eq (.var (pv 3)) .int (nomark _))))) (.last (.par (i := 1) (j := 2) rfl sc__law_figures.nd rfl rfl (by decide) rfl rfl (.cons (.add K (.ix K .str (.mod (.var (pv 2)) .int) (fun _ _ => rfl)) (.var (pv 1))) (.cons (.fdiv (.var (pv 2)) .int) .nil)) rfl)) .nil))) fun ρ => (.last (.ret (.add K (.smul .str (.callTy fn_intX (call_intX) rfl G.z_int bt_int (.cons (RE.cmp op_lt ok_lt (.var (pv 0)) .int (nomark _)) .nil))) (.var (pv 1)))))))⟩
theorem ok__law_right (G : Tx K mg) (n : Nat) : FnOk P w K mg base (L2.CX P w) 14 G._law_right.f G._law_right.fd ["box"] (spR K mg tbl 1 (f__law_right n)) :=
  fn_ok (c := m__law_right n) G._law_right.F sc__law_right 1 5 rfl rfl fun cdv A outer s H E hr hx hp tk => ⟨_, fun ρ => (.cons (.for_ hp rfl (.range1 rfl G.z_range (.cons .int .nil)) (.name (pg_name (i := 1) sc__law_right.nd rfl (by first | exact .inl rfl | exact .inr rfl))) fun ρ => (.cons (.set (i := 2) sc__law_right.nd rfl (by first | exact .inl rfl | exact .inr rfl) (.call (ok__law_frac G n) (hr.mono (by decide)) rfl G._law_frac.g G._law_frac.F.kp G._law_frac.b hx (.cons (.var (pv 0)) (.cons .bl .nil)) (hlen := (consM_len (consM_len nilM_len))))) fun ρ => (.cons (.ifs (RT.cmp (r := rEqD K) (op_eqD hr.units) ok_eq (.call (ok__law_take G n) (hr.mono (by decide)) rfl G._law_take.g G._law_take.F.kp G._law_take.b hx (.cons (.var (pv 0)) (.cons .int .nil)) (hlen := (consM_len (consM_len nilM_len)))) .int (nomark _)) (.last (.set (i := 2) sc__law_right.nd rfl (by first | exact .inl rfl | exact .inr rfl) (.call (ok__law_low G n) (hr.mono (by decide)) rfl G._law_low.g G._law_low.F.kp G._law_low.b hx (.cons (.ix K (.var (pv 2)) .int (fun _ _ => rfl)) (.cons (.ix K (.lst (.cons .int (.cons (.sub (.pow .int .int) .int) (.cons (.pow .int .int) .nil)))) (.call (ok__law_take G n) (hr.mono (by decide)) rfl G._law_take.g G._law_take.F.kp G._law_take.b hx (.cons (.var (pv 0)) (.cons .int .nil)) (hlen := (consM_len (consM_len nilM_len)))) (fun _ _ => rfl)) .nil)) (hlen := (consM_len (consM_len nilM_len)))))) .nil) fun ρ => (.cons (.set (i := 3) sc__law_right.nd rfl (by first | exact .inl rfl | exact .inr rfl) (.add K (.call (ok__law_figures G n) (hr.mono (by decide)) rfl G._law_figures.g G._law_figures.F.kp G._law_figures.b hx (.cons (.ix K (.var (pv 2)) .int (fun _ _ => rfl)) .nil) (hlen := (consM_len nilM_len))) (.ifx (RT.cmp (r := rEqD K) (op_eqD hr.units) ok_eq (.ix K (.var (pv 2)) .int (fun _ _ => rfl)) .int (nomark _)) .str (.add K .str (.call (ok__law_figures G n) (hr.mono (by decide)) rfl G._law_figures.g G._law_figures.F.kp G._law_figures.b hx (.cons (.ix K (.var (pv 2)) .int (fun _ _ => rfl)) .nil) (hlen := (consM_len nilM_len))))))) fun ρ => (.last (.ifs (RW.rt (RW.or (RT.not (RT.val (.call (ok__law_same G n 12) (hr.mono (by decide)) rfl G._law_same.g G._law_same.F.kp G._law_same.b hx (.cons (.call (ok_frac_text G n) (hr.mono (by decide)) rfl G.frac_text.g G.frac_text.F.kp G.frac_text.b hx (.cons (.var (pv 2)) .nil) (hlen := (consM_len nilM_len))) (.cons (.var (pv 3)) .nil)) (hlen := (consM_len (consM_len nilM_len)))))) (RW.or1 (RT.not (RT.val (.call (ok__law_same G n 12) (hr.mono (by decide)) rfl G._law_same.g G._law_same.F.kp G._law_same.b hx (.cons (.call (ok_frac_in G n) (hr.mono (by decide)) rfl G.frac_in.g G.frac_in.F.kp G.frac_in.b hx (.cons (.var (pv 3)) .nil) (hlen := (consM_len nilM_len))) (.cons (.var (pv 2)) .nil)) (hlen := (consM_len (consM_len nilM_len))))))))) (.last (.ret .bl)) .nil)))))) fun ρ => (.cons (.set (i := 4) sc__law_right.nd rfl (by first | exact .inl rfl | exact .inr rfl) (.tup (.cons (.sub .int (.pow .int .int)) (.cons (.sub (.pow .int .int) .int) .nil)))) fun ρ => (.last (.ret (.call (ok__law_same G n 12) (hr.mono (by decide)) rfl G._law_same.g G._law_same.F.kp G._law_same.b hx (.cons (.lst (.cons (.call (ok_frac_in G n) (hr.mono (by decide)) rfl G.frac_in.g G.frac_in.F.kp G.frac_in.b hx (.cons (.call (ok_frac_text G n) (hr.mono (by decide)) rfl G.frac_text.g G.frac_text.F.kp G.frac_text.b hx (.cons (.var (pv 4)) .nil) (hlen := (consM_len nilM_len))) .nil) (hlen := (consM_len nilM_len))) (.cons (.call (ok_frac_text G n) (hr.mono (by decide)) rfl G.frac_text.g G.frac_text.F.kp G.frac_text.b hx (.cons (.tup (.cons .int (.cons .int .nil))) .nil) (hlen := (consM_len nilM_len))) .nil))) (.cons (.lst (.cons (.var (pv 4)) (.cons .str .nil))) .nil)) (hlen := (consM_len (consM_len nilM_len))))))))⟩
theorem ok_law (G : Tx K mg) (n : Nat) : FnOk P w K mg base (L2.CX P w) 15 G.law.f G.law.fd ["script"] (spR K mg tbl 1 (f_law n)) :=
  fn_ok (c := m_law n) G.law.F sc_law 1 3 rfl rfl fun cdv A outer s H E hr hx hp tk => ⟨_, fun ρ => (.last (.ret (.callB (r := rAll K) fn_all (cr_all rfl) rfl G.z_all bt_all (.cons (.lc (own := [(".0", 1), ("k", 2)]) rfl sc_law.nd (.range1 rfl G.z_range (.cons (.add K .int (.callB fn_min (call_min2 rfl) rfl G.z_min bt_min (.cons .int (.cons (.callB (r := rLenA K) fn_len (call_len) rfl G.z_len bt_len (.cons (.var (pv 0)) .nil)) .nil)))) .nil)) (blkOk_by (N := ["script", ".0", "k"]) (sc := defScope s_law) (by decide +kernel)) (fun _ _ _ _ _ => (.name (pg_name (i := 2) sc_law.nd rfl (by first | exact .inl rfl | exact .inr rfl)))) (fun _ _ _ _ _ ρ => .nil) (fun _ _ _ _ _ ρ => (.call (ok__law_right G n) (hr.mono (by decide)) rfl G._law_right.g G._law_right.F.kp G._law_right.b (passBlk cx_false) (.cons (.call (ok__law_box G n) (hr.mono (by decide)) rfl G._law_box.g G._law_box.F.kp G._law_box.b (passBlk cx_false) (.cons (.var (pv 0)) (.cons (.var (pv 2)) .nil)) (hlen := (consM_len (consM_len nilM_len)))) .nil) (hlen := (consM_len nilM_len)))) (by decide) s) .nil))))⟩
end
theorem all_mk {l : PySem.W.OpenLaw} {w : World} {K : PySem.W.Frag} {h : Heap} {mg : Str → Option Value} {fa : Addr} (hh : ∀ ns : List Int, ns.length ≤ 63 → ∃ n S, f_law n [.rol (ns.map D.int)] [] = .ok (.bl true) S) (X : K.In h) (Gg : h.Ns mainGlobals mg) (hfa : mg "law" = some (.ref fa))
    {f0 : Addr} {od0 an0 : Option Addr} {sl0 : Array (Option Value)} {oc0 kV0 dc0 pm0 cd0 ct0 : Value}
    {f1 : Addr} {od1 an1 : Option Addr} {sl1 : Array (Option Value)} {oc1 kV1 dc1 pm1 cd1 ct1 : Value}
    {f2 : Addr} {od2 an2 : Option Addr} {sl2 : Array (Option Value)} {oc2 kV2 dc2 pm2 cd2 ct2 : Value}
    {f3 : Addr} {od3 an3 : Option Addr} {sl3 : Array (Option Value)} {oc3 kV3 dc3 pm3 cd3 ct3 : Value}
    {f4 : Addr} {od4 an4 : Option Addr} {sl4 : Array (Option Value)} {oc4 kV4 dc4 pm4 cd4 ct4 : Value}
    {f5 : Addr} {od5 an5 : Option Addr} {sl5 : Array (Option Value)} {oc5 kV5 dc5 pm5 cd5 ct5 : Value}
    {f6 : Addr} {od6 an6 : Option Addr} {sl6 : Array (Option Value)} {oc6 kV6 dc6 pm6 cd6 ct6 : Value}
    {f7 : Addr} {od7 an7 : Option Addr} {sl7 : Array (Option Value)} {oc7 kV7 dc7 pm7 cd7 ct7 : Value}
    {f8 : Addr} {od8 an8 : Option Addr} {sl8 : Array (Option Value)} {oc8 kV8 dc8 pm8 cd8 ct8 : Value}
    {f9 : Addr} {od9 an9 : Option Addr} {sl9 : Array (Option Value)} {oc9 kV9 dc9 pm9 cd9 ct9 : Value}
    {f10 : Addr} {od10 an10 : Option Addr} {sl10 : Array (Option Value)} {oc10 kV10 dc10 pm10 cd10 ct10 : Value}
    {f11 : Addr} {od11 an11 : Option Addr} {sl11 : Array (Option Value)} {oc11 kV11 dc11 pm11 cd11 ct11 : Value}
    {f12 : Addr} {od12 an12 : Option Addr} {sl12 : Array (Option Value)} {oc12 kV12 dc12 pm12 cd12 ct12 : Value}
    {f13 : Addr} {od13 an13 : Option Addr} {sl13 : Array (Option Value)} {oc13 kV13 dc13 pm13 cd13 ct13 : Value}
    {f14 : Addr} {od14 an14 : Option Addr} {sl14 : Array (Option Value)} {oc14 kV14 dc14 pm14 cd14 ct14 : Value}
    {f15 : Addr} {od15 an15 : Option Addr} {sl15 : Array (Option Value)} {oc15 kV15 dc15 pm15 cd15 ct15 : Value}
    {f16 : Addr} {od16 an16 : Option Addr} {sl16 : Array (Option Value)} {oc16 kV16 dc16 pm16 cd16 ct16 : Value}
    {t_FIGURES_0 : Tok}
    {t_MOST_FIGURES_0 : Tok}
    (a0 : PySem.W.nsIn K mainGlobals "is_number" = some (some (.ref f0))) (l0 : K.lookup f0 = some ⟨oc0, od0, .func (PySem.W.fnOf "is_number" "is_number" (defArgs s_is_number) (defBody s_is_number) (defScope s_is_number) .none kV0 dc0 pm0 an0 cd0 ct0), sl0⟩) (c0 : PySem.W.codeIn K cd0 "is_number" = true) (k0 : PySem.W.keepIn K (.ref f0) = true)
    (a1 : PySem.W.nsIn K mainGlobals "plain_number" = some (some (.ref f1))) (l1 : K.lookup f1 = some ⟨oc1, od1, .func (PySem.W.fnOf "plain_number" "plain_number" (defArgs s_plain_number) (defBody s_plain_number) (defScope s_plain_number) .none kV1 dc1 pm1 an1 cd1 ct1), sl1⟩) (c1 : PySem.W.codeIn K cd1 "plain_number" = true) (k1 : PySem.W.keepIn K (.ref f1) = true)
    (a2 : PySem.W.nsIn K mainGlobals "common" = some (some (.ref f2))) (l2 : K.lookup f2 = some ⟨oc2, od2, .func (PySem.W.fnOf "common" "common" (defArgs s_common) (defBody s_common) (defScope s_common) .none kV2 dc2 pm2 an2 cd2 ct2), sl2⟩) (c2 : PySem.W.codeIn K cd2 "common" = true) (k2 : PySem.W.keepIn K (.ref f2) = true)
    (a3 : PySem.W.nsIn K mainGlobals "is_frac" = some (some (.ref f3))) (l3 : K.lookup f3 = some ⟨oc3, od3, .func (PySem.W.fnOf "is_frac" "is_frac" (defArgs s_is_frac) (defBody s_is_frac) (defScope s_is_frac) .none kV3 dc3 pm3 an3 cd3 ct3), sl3⟩) (c3 : PySem.W.codeIn K cd3 "is_frac" = true) (k3 : PySem.W.keepIn K (.ref f3) = true)
    (a4 : PySem.W.nsIn K mainGlobals "frac_text" = some (some (.ref f4))) (l4 : K.lookup f4 = some ⟨oc4, od4, .func (PySem.W.fnOf "frac_text" "frac_text" (defArgs s_frac_text) (defBody s_frac_text) (defScope s_frac_text) .none kV4 dc4 pm4 an4 cd4 ct4), sl4⟩) (c4 : PySem.W.codeIn K cd4 "frac_text" = true) (k4 : PySem.W.keepIn K (.ref f4) = true)
    (a5 : PySem.W.nsIn K mainGlobals "signed_number" = some (some (.ref f5))) (l5 : K.lookup f5 = some ⟨oc5, od5, .func (PySem.W.fnOf "signed_number" "signed_number" (defArgs s_signed_number) (defBody s_signed_number) (defScope s_signed_number) .none kV5 dc5 pm5 an5 cd5 ct5), sl5⟩) (c5 : PySem.W.codeIn K cd5 "signed_number" = true) (k5 : PySem.W.keepIn K (.ref f5) = true)
    (a6 : PySem.W.nsIn K mainGlobals "written_frac" = some (some (.ref f6))) (l6 : K.lookup f6 = some ⟨oc6, od6, .func (PySem.W.fnOf "written_frac" "written_frac" (defArgs s_written_frac) (defBody s_written_frac) (defScope s_written_frac) .none kV6 dc6 pm6 an6 cd6 ct6), sl6⟩) (c6 : PySem.W.codeIn K cd6 "written_frac" = true) (k6 : PySem.W.keepIn K (.ref f6) = true)
    (a7 : PySem.W.nsIn K mainGlobals "frac_in" = some (some (.ref f7))) (l7 : K.lookup f7 = some ⟨oc7, od7, .func (PySem.W.fnOf "frac_in" "frac_in" (defArgs s_frac_in) (defBody s_frac_in) (defScope s_frac_in) .none kV7 dc7 pm7 an7 cd7 ct7), sl7⟩) (c7 : PySem.W.codeIn K cd7 "frac_in" = true) (k7 : PySem.W.keepIn K (.ref f7) = true)
    (a8 : PySem.W.nsIn K mainGlobals "_law_cell_at" = some (some (.ref f8))) (l8 : K.lookup f8 = some ⟨oc8, od8, .func (PySem.W.fnOf "_law_cell_at" "_law_cell_at" (defArgs s__law_cell_at) (defBody s__law_cell_at) (defScope s__law_cell_at) .none kV8 dc8 pm8 an8 cd8 ct8), sl8⟩) (c8 : PySem.W.codeIn K cd8 "_law_cell_at" = true) (k8 : PySem.W.keepIn K (.ref f8) = true)
    (a9 : PySem.W.nsIn K mainGlobals "_law_box" = some (some (.ref f9))) (l9 : K.lookup f9 = some ⟨oc9, od9, .func (PySem.W.fnOf "_law_box" "_law_box" (defArgs s__law_box) (defBody s__law_box) (defScope s__law_box) .none kV9 dc9 pm9 an9 cd9 ct9), sl9⟩) (c9 : PySem.W.codeIn K cd9 "_law_box" = true) (k9 : PySem.W.keepIn K (.ref f9) = true)
    (a10 : PySem.W.nsIn K mainGlobals "_law_take" = some (some (.ref f10))) (l10 : K.lookup f10 = some ⟨oc10, od10, .func (PySem.W.fnOf "_law_take" "_law_take" (defArgs s__law_take) (defBody s__law_take) (defScope s__law_take) .none kV10 dc10 pm10 an10 cd10 ct10), sl10⟩) (c10 : PySem.W.codeIn K cd10 "_law_take" = true) (k10 : PySem.W.keepIn K (.ref f10) = true)
    (a11 : PySem.W.nsIn K mainGlobals "_law_low" = some (some (.ref f11))) (l11 : K.lookup f11 = some ⟨oc11, od11, .func (PySem.W.fnOf "_law_low" "_law_low" (defArgs s__law_low) (defBody s__law_low) (defScope s__law_low) .none kV11 dc11 pm11 an11 cd11 ct11), sl11⟩) (c11 : PySem.W.codeIn K cd11 "_law_low" = true) (k11 : PySem.W.keepIn K (.ref f11) = true)
    (a12 : PySem.W.nsIn K mainGlobals "_law_frac" = some (some (.ref f12))) (l12 : K.lookup f12 = some ⟨oc12, od12, .func (PySem.W.fnOf "_law_frac" "_law_frac" (defArgs s__law_frac) (defBody s__law_frac) (defScope s__law_frac) .none kV12 dc12 pm12 an12 cd12 ct12), sl12⟩) (c12 : PySem.W.codeIn K cd12 "_law_frac" = true) (k12 : PySem.W.keepIn K (.ref f12) = true)
    (a13 : PySem.W.nsIn K mainGlobals "_law_same" = some (some (.ref f13))) (l13 : K.lookup f13 = some ⟨oc13, od13, .func (PySem.W.fnOf "_law_same" "_law_same" (defArgs s__law_same) (defBody s__law_same) (defScope s__law_same) .none kV13 dc13 pm13 an13 cd13 ct13), sl13⟩) (c13 : PySem.W.codeIn K cd13 "_law_same" = true) (k13 : PySem.W.keepIn K (.ref f13) = true)
    (a14 : PySem.W.nsIn K mainGlobals "_law_figures" = some (some (.ref f14))) (l14 : K.lookup f14 = some ⟨oc14, od14, .func (PySem.W.fnOf "_law_figures" "_law_figures" (defArgs s__law_figures) (defBody s__law_figures) (defScope s__law_figures) .none kV14 dc14 pm14 an14 cd14 ct14), sl14⟩) (c14 : PySem.W.codeIn K cd14 "_law_figures" = true) (k14 : PySem.W.keepIn K (.ref f14) = true)
    (a15 : PySem.W.nsIn K mainGlobals "_law_right" = some (some (.ref f15))) (l15 : K.lookup f15 = some ⟨oc15, od15, .func (PySem.W.fnOf "_law_right" "_law_right" (defArgs s__law_right) (defBody s__law_right) (defScope s__law_right) .none kV15 dc15 pm15 an15 cd15 ct15), sl15⟩) (c15 : PySem.W.codeIn K cd15 "_law_right" = true) (k15 : PySem.W.keepIn K (.ref f15) = true)
    (a16 : PySem.W.nsIn K mainGlobals "law" = some (some (.ref f16))) (l16 : K.lookup f16 = some ⟨oc16, od16, .func (PySem.W.fnOf "law" "law" (defArgs s_law) (defBody s_law) (defScope s_law) .none kV16 dc16 pm16 an16 cd16 ct16), sl16⟩) (c16 : PySem.W.codeIn K cd16 "law" = true) (k16 : PySem.W.keepIn K (.ref f16) = true)
    (z_abs : PySem.W.nsIn K mainGlobals "abs" = some none)
    (z_all : PySem.W.nsIn K mainGlobals "all" = some none)
    (z_bool : PySem.W.nsIn K mainGlobals "bool" = some none)
    (z_int : PySem.W.nsIn K mainGlobals "int" = some none)
    (z_isinstance : PySem.W.nsIn K mainGlobals "isinstance" = some none)
    (z_len : PySem.W.nsIn K mainGlobals "len" = some none)
    (z_list : PySem.W.nsIn K mainGlobals "list" = some none)
    (z_min : PySem.W.nsIn K mainGlobals "min" = some none)
    (z_range : PySem.W.nsIn K mainGlobals "range" = some none)
    (z_str : PySem.W.nsIn K mainGlobals "str" = some none)
    (z_tuple : PySem.W.nsIn K mainGlobals "tuple" = some none)
    (z_zip : PySem.W.nsIn K mainGlobals "zip" = some none)
    (q_FIGURES : PySem.W.nsIn K mainGlobals "FIGURES" = some (some (.str "0123456789" t_FIGURES_0)))
    (q_MOST_FIGURES : PySem.W.nsIn K mainGlobals "MOST_FIGURES" = some (some (.int 40 t_MOST_FIGURES_0))) :
    ∃ fd : FuncData, (∀ (s : Shared) (v : Value), BindsTo s fd ⟨[v], []⟩ [("script", v)]) ∧ ∀ base : Heap, K.In base → base.Ns mainGlobals mg → FnOk l.prog w K mg base (L2.CX l.prog w) 15 fa fd ["script"] (law_sp K) := by
  have e := hfa.symm.trans (PySem.W.mg_of X Gg a16)
  cases e
  let G : Tx K mg := { is_number := DefAt.mk1 X Gg a0 l0 c0 k0 (fun _ _ _ _ _ _ us hl => match us, hl with | [_], _ => rfl), plain_number := DefAt.mk1 X Gg a1 l1 c1 k1 (fun _ _ _ _ _ _ us hl => match us, hl with | [_, _], _ => rfl), common := DefAt.mk1 X Gg a2 l2 c2 k2 (fun _ _ _ _ _ _ us hl => match us, hl with | [_, _], _ => rfl), is_frac := DefAt.mk1 X Gg a3 l3 c3 k3 (fun _ _ _ _ _ _ us hl => match us, hl with | [_], _ => rfl), frac_text := DefAt.mk1 X Gg a4 l4 c4 k4 (fun _ _ _ _ _ _ us hl => match us, hl with | [_], _ => rfl), signed_number := DefAt.mk1 X Gg a5 l5 c5 k5 (fun _ _ _ _ _ _ us hl => match us, hl with | [_], _ => rfl), written_frac := DefAt.mk1 X Gg a6 l6 c6 k6 (fun _ _ _ _ _ _ us hl => match us, hl with | [_], _ => rfl), frac_in := DefAt.mk1 X Gg a7 l7 c7 k7 (fun _ _ _ _ _ _ us hl => match us, hl with | [_], _ => rfl), _law_cell_at := DefAt.mk1 X Gg a8 l8 c8 k8 (fun _ _ _ _ _ _ us hl => match us, hl with | [_, _], _ => rfl), _law_box := DefAt.mk1 X Gg a9 l9 c9 k9 (fun _ _ _ _ _ _ us hl => match us, hl with | [_, _], _ => rfl), _law_take := DefAt.mk1 X Gg a10 l10 c10 k10 (fun _ _ _ _ _ _ us hl => match us, hl with | [_, _], _ => rfl), _law_low := DefAt.mk1 X Gg a11 l11 c11 k11 (fun _ _ _ _ _ _ us hl => match us, hl with | [_, _], _ => rfl), _law_frac := DefAt.mk1 X Gg a12 l12 c12 k12 (fun _ _ _ _ _ _ us hl => match us, hl with | [_, _], _ => rfl), _law_same := DefAt.mk1 X Gg a13 l13 c13 k13 (fun _ _ _ _ _ _ us hl => match us, hl with | [_, _], _ => rfl), _law_figures := DefAt.mk1 X Gg a14 l14 c14 k14 (fun _ _ _ _ _ _ us hl => match us, hl with | [_], _ => rfl), _law_right := DefAt.mk1 X Gg a15 l15 c15 k15 (fun _ _ _ _ _ _ us hl => match us, hl with | [_], _ => rfl), law := DefAt.mk1 X Gg a16 l16 c16 k16 (fun _ _ _ _ _ _ us hl => match us, hl with | [_], _ => rfl), z_abs := PySem.W.mg_none_of X Gg z_abs, z_all := PySem.W.mg_none_of X Gg z_all, z_bool := PySem.W.mg_none_of X Gg z_bool, z_int := PySem.W.mg_none_of X Gg z_int, z_isinstance := PySem.W.mg_none_of X Gg z_isinstance, z_len := PySem.W.mg_none_of X Gg z_len, z_list := PySem.W.mg_none_of X Gg z_list, z_min := PySem.W.mg_none_of X Gg z_min, z_range := PySem.W.mg_none_of X Gg z_range, z_str := PySem.W.mg_none_of X Gg z_str, z_tuple := PySem.W.mg_none_of X Gg z_tuple, z_zip := PySem.W.mg_none_of X Gg z_zip, c_FIGURES := ⟨.str "0123456789", _, PySem.W.mg_of X Gg q_FIGURES, ⟨_, rfl⟩, fun _ _ _ => .str _⟩, c_MOST_FIGURES := ⟨.int 40, _, PySem.W.mg_of X Gg q_MOST_FIGURES, ⟨_, rfl⟩, fun _ _ _ => .int _⟩ }
  refine ⟨PySem.W.fnOf "law" "law" (defArgs s_law) (defBody s_law) (defScope s_law) .none kV16 dc16 pm16 an16 cd16 ct16, fun s v => .of_eq rfl, fun base _ _ => ?_⟩
  exact (fn_anyN fun n => ok_law (P := l.prog) (w := w) (base := base) G n).imp (law_imp hh)
end R

set_option maxHeartbeats 4000000
namespace R
open PySem PySem.Spec PyProof.Rows L2 TL
local macro_rules | `(tactic| walk_at "szk") => `(tactic| first | assumption | decide | omega)
local macro_rules | `(tactic| walk_at "sz") => `(tactic| first
  | assumption
  | exact Sz.zero
  | exact Sz.one
  | exact Sz.add (by walk_at "sz") (by walk_at "sz")
  | exact Sz.sub (by walk_at "sz") (by walk_at "sz")
  | exact Sz.mul (by walk_at "sz") (by walk_at "sz")
  | exact Sz.neg (by walk_at "sz")
  | exact Sz.div (by walk_at "sz") (by walk_at "sz") (by assumption))
/-! ### draws -/
/-- a box of draws at the place b, at most c draws told -/
structure BoxAt (S : Sto) (b : Nat) (c : Nat) : Prop where
  ex : ∃ x y z : Int, S[b]? = some (.lst [.int x, .int y, .int z]) ∧ 0 ≤ x ∧ 0 ≤ y ∧ y < 2 ^ 62 + 2 ^ 60 ∧ 0 ≤ z ∧ z ≤ c
theorem BoxAt.mono {S : Sto} {b c d : Nat} (h : BoxAt S b c) (hc : c ≤ d) : BoxAt S b d := by
  obtain ⟨x, y, z, e, h1, h2, h3, h4, h5⟩ := h
  exact ⟨x, y, z, e, h1, h2, h3, h4, by omega⟩
theorem div_small {j : Int} (h0 : 0 < j) {k : Nat} (hb : j.natAbs < 2 ^ k) (hk : k ≤ 9000) : j.natAbs.log2 < 9000 := by
  have : j.natAbs ≠ 0 := by omega
  exact Nat.lt_of_lt_of_le ((Nat.log2_lt this).mpr hb) hk
theorem wp_take {n b c : Nat} {S : Sto} {many : Int} {Q : D → Sto → Prop} (hb : BoxAt S b c) (hc : c ≤ 2 ^ 40) (h0 : 0 < many) (hm : many.natAbs < 2 ^ 9000)
    (h : ∀ (v : Int) (cell : Cell), 0 ≤ v → v < many → BoxAt (S.set b cell) b (c + 1) → Q (.int v) (S.set b cell)) : wp (f__law_take n [.loc b, .int many]) S Q := by
  obtain ⟨x, y, z, hS, hx, hy, hy2, hz, hzc⟩ := hb
  have hlt : b < S.length := (List.getElem?_eq_some_iff.mp hS).1
  have hdz : many.natAbs.log2 < 9000 := by
    have : many.natAbs ≠ 0 := by omega
    exact (Nat.log2_lt this).mpr hm
  have nb : ∀ c' : Cell, (S.set b c')[b]? = some c' := fun c' => List.getElem?_set_self hlt
  have hc40 : c ≤ 1099511627776 := hc
  have hy3 : y < 5764607523034234880 := hy2
  show wp (finR (m__law_take n [some (.loc b), some (.int many), none, none, none])) S Q
  unfold m__law_take
  (with_reducible refine wp_finR ?_; with_reducible refine wp_sq ?_; with_reducible refine wp_ifS ?_; with_reducible refine wp_tst ?_; with_reducible refine wp_bi ?_; with_reducible refine wp_bi ?_; with_reducible refine wp_getv (by with_unfolding_all rfl) ?_; with_reducible refine wp_ret ?_)
  refine wp_ixC hS (by rfl) ?_
  (with_reducible refine wp_ret ?_; with_reducible refine wp_gt ?_; with_reducible refine asQ_bl ?_)
  refine if_ds (fun h1 => ?_) (fun h1 => ?_)
  · (with_reducible refine wp_sq ?_; with_reducible refine wp_asgN ?_; with_reducible refine wp_bi ?_; with_reducible refine wp_bi ?_; with_reducible refine wp_getv (by with_unfolding_all rfl) ?_; with_reducible refine wp_ret ?_)
    refine wp_ixC hS (by rfl) ?_
    (with_reducible refine wp_getv (by with_unfolding_all rfl) ?_; with_reducible refine wp_modP (by first | decide | assumption) ?_; with_reducible refine sqQ_nx ?_; with_reducible refine wp_sq ?_; with_reducible refine wp_asgS ?_; with_reducible refine wp_bi ?_; with_reducible refine wp_bi ?_; with_reducible refine wp_getv (by with_unfolding_all rfl) ?_; with_reducible refine wp_ret ?_)
    try refine wp_modP h0 ?_
    skip
    refine wp_ixC hS (by rfl) ?_
    with_reducible refine wp_getv (by with_unfolding_all rfl) ?_
    try refine wp_fdivP h0 hdz ?_
    (with_reducible refine wp_getv (by with_unfolding_all rfl) ?_; with_reducible refine wp_ret ?_)
    refine wp_setM hS (j := 0) (by rfl) ?_
    (with_reducible refine sqQ_nx ?_; with_reducible refine wp_rtM ?_; with_reducible refine wp_getv (by with_unfolding_all rfl) ?_; with_reducible refine sqQ_rt ?_; with_reducible refine finQ_rt ?_)
    refine h _ _ (Int.emod_nonneg _ (by omega)) (Int.emod_lt_of_pos _ h0) ⟨x / many, y, z, nb _, Int.ediv_nonneg hx (by omega), hy, hy2, hz, by omega⟩
  · (with_reducible refine wp_ret ?_; with_reducible refine sqQ_nx ?_; with_reducible refine wp_sq ?_; with_reducible refine wp_asgS ?_; with_reducible refine wp_bi ?_; with_reducible refine wp_bi ?_; with_reducible refine wp_getv (by with_unfolding_all rfl) ?_; with_reducible refine wp_ret ?_)
    refine wp_ixC hS (by rfl) ?_
    (with_reducible refine wp_ret ?_; with_reducible refine wp_addI ?_; with_reducible refine wp_getv (by with_unfolding_all rfl) ?_; with_reducible refine wp_ret ?_)
    refine wp_setM hS (j := 2) (by rfl) ?_
    (with_reducible refine sqQ_nx ?_; with_reducible refine wp_sq ?_; with_reducible refine wp_asgN ?_; with_reducible refine wp_bi ?_; with_reducible refine wp_bi ?_; with_reducible refine wp_bi ?_; with_reducible refine wp_bi ?_; with_reducible refine wp_getv (by with_unfolding_all rfl) ?_; with_reducible refine wp_ret ?_)
    have hS1 := nb (.lst [.int x, .int y, .int (z + 1)])
    refine wp_ixC hS1 (by rfl) ?_
    (with_reducible refine wp_bi ?_; with_reducible refine wp_ret ?_; with_reducible refine wp_bi ?_; with_reducible refine wp_getv (by with_unfolding_all rfl) ?_; with_reducible refine wp_ret ?_)
    refine wp_ixC hS1 (by rfl) ?_
    (with_reducible refine wp_mul (lit_mul (by decide)) ?_; with_reducible refine wp_addI ?_; with_reducible refine wp_bi ?_; with_reducible refine wp_ret ?_; with_reducible refine wp_bi ?_; with_reducible refine wp_getv (by with_unfolding_all rfl) ?_; with_reducible refine wp_ret ?_)
    try refine wp_mul (.inl (by decide)) ?_
    skip
    refine wp_ixC hS1 (by rfl) ?_
    with_reducible refine wp_addI ?_
    try refine wp_mul (MulOk.of (a := 70) (b := 70) (by omega) (by omega) (by decide)) ?_
    (with_reducible refine wp_ret ?_; with_reducible refine wp_modP (by first | decide | assumption) ?_; with_reducible refine sqQ_nx ?_; with_reducible refine wp_sq ?_; with_reducible refine wp_asgN ?_; with_reducible refine wp_bi ?_; with_reducible refine wp_bi ?_; with_reducible refine wp_bi ?_; with_reducible refine wp_getv (by with_unfolding_all rfl) ?_; with_reducible refine wp_bi ?_; with_reducible refine wp_getv (by with_unfolding_all rfl) ?_; with_reducible refine wp_ret ?_)
    try refine wp_modP (by decide) ?_
    skip
    refine wp_ixC hS1 (by rfl) ?_
    (with_reducible refine wp_addI ?_; with_reducible refine wp_bi ?_; with_reducible refine wp_bi ?_; with_reducible refine wp_getv (by with_unfolding_all rfl) ?_; with_reducible refine wp_ret ?_; with_reducible refine wp_modP (by first | decide | assumption) ?_; with_reducible refine wp_ret ?_; with_reducible refine wp_addI ?_)
    try refine wp_modP (by decide) ?_
    skip
    generalize hA : (y + 48271 * (z + 1)) * (39373 + (z + 1)) % 2147483647 = once
    have a1 : 0 ≤ once := by rw [← hA]; exact Int.emod_nonneg _ (by decide)
    have a2 : once < 2147483647 := by rw [← hA]; exact Int.emod_lt_of_pos _ (by decide)
    have b1 : 0 ≤ once % 40009 := Int.emod_nonneg _ (by decide)
    have b2 : once % 40009 < 40009 := Int.emod_lt_of_pos _ (by decide)
    try refine wp_mul (MulOk.of (a := 70) (b := 70) (by omega) (by omega) (by decide)) ?_
    (with_reducible refine wp_ret ?_; with_reducible refine wp_modP (by first | decide | assumption) ?_; with_reducible refine sqQ_nx ?_; with_reducible refine wp_rtM ?_; with_reducible refine wp_bi ?_; with_reducible refine wp_bi ?_; with_reducible refine wp_bi ?_; with_reducible refine wp_bi ?_; with_reducible refine wp_bi ?_; with_reducible refine wp_getv (by with_unfolding_all rfl) ?_; with_reducible refine wp_ret ?_)
    try refine wp_modP (by decide) ?_
    skip
    generalize hB : (once + (z + 1)) * (once % 40009 + 7) % 2147483629 = twice
    have c1 : 0 ≤ twice := by rw [← hB]; exact Int.emod_nonneg _ (by decide)
    have c2 : twice < 2147483629 := by rw [← hB]; exact Int.emod_lt_of_pos _ (by decide)
    try refine wp_mul (MulOk.of (a := 70) (b := 70) (by omega) (by decide) (by decide)) ?_
    (with_reducible refine wp_getv (by with_unfolding_all rfl) ?_; with_reducible refine wp_addI ?_; with_reducible refine wp_ret ?_; with_reducible refine wp_modP (by first | decide | assumption) ?_; with_reducible refine wp_ret ?_; with_reducible refine wp_fdivP (by decide) (by decide) ?_; with_reducible refine wp_getv (by with_unfolding_all rfl) ?_; with_reducible refine wp_modP (by first | decide | assumption) ?_; with_reducible refine finQ_rt ?_)
    try refine wp_modP (by decide) ?_
    skip
    try refine wp_fdivP (by decide) (by decide) ?_
    skip
    try refine wp_modP h0 ?_
    skip
    exact h _ _ (Int.emod_nonneg _ (by omega)) (Int.emod_lt_of_pos _ h0) ⟨x, y, z + 1, hS1, hx, hy, hy2, by omega, by omega⟩
theorem wp_cell {n : Nat} {S : Sto} {ns : List Int} {k : Nat} {Q : D → Sto → Prop} (hl : ns.length ≤ 63) (h : ∀ v, Q (.int v) S) : wp (f__law_cell_at n [.rol (ns.map D.int), .int k]) S Q := by
  show wp (finR (m__law_cell_at n [some (.rol (ns.map D.int)), some (.int k)])) S Q
  unfold m__law_cell_at
  (with_reducible refine wp_finR ?_; with_reducible refine wp_sq ?_; with_reducible refine wp_ifS ?_; with_reducible refine wp_tst ?_; with_reducible refine wp_bi ?_; with_reducible refine wp_getv (by with_unfolding_all rfl) ?_; with_reducible refine wp_bnd ?_; with_reducible refine wp_consM ?_; with_reducible refine wp_getv (by with_unfolding_all rfl) ?_; with_reducible refine wp_ret ?_; with_reducible refine wp_lenR ?_; with_reducible refine wp_lt ?_; with_reducible refine asQ_bl ?_)
  refine if_ds (fun h1 => ?_) (fun h1 => ?_)
  · (with_reducible refine wp_rtM ?_; with_reducible refine wp_bi ?_; with_reducible refine wp_getv (by with_unfolding_all rfl) ?_; with_reducible refine wp_getv (by with_unfolding_all rfl) ?_)
    rw [List.length_map] at h1
    have hk : k < ns.length := by omega
    refine wp_ixR (d := .int ns[k]) (atI_nat (by rw [List.getElem?_map, List.getElem?_eq_getElem hk]; rfl)) ?_
    exact h _
  · (with_reducible refine wp_ret ?_; with_reducible refine sqQ_nx ?_; with_reducible refine wp_rtM ?_; with_reducible refine wp_ret ?_; with_reducible refine finQ_rt ?_)
    exact h _
theorem wp_box {n : Nat} {S : Sto} {ns : List Int} {k : Nat} {Q : D → Sto → Prop} (hl : ns.length ≤ 63) (hk : k ≤ 1000) (h : ∀ c, BoxAt (S ++ [c]) S.length 0 → Q (.loc S.length) (S ++ [c])) : wp (f__law_box n [.rol (ns.map D.int), .int k]) S Q := by
  show wp (finR (m__law_box n [some (.rol (ns.map D.int)), some (.int k), none])) S Q
  unfold m__law_box
  (with_reducible refine wp_finR ?_; with_reducible refine wp_sq ?_; with_reducible refine wp_asgN ?_; with_reducible refine wp_bnd ?_; with_reducible refine wp_consM ?_; with_reducible refine wp_getv (by with_unfolding_all rfl) ?_; with_reducible refine wp_consM ?_; with_reducible refine wp_getv (by with_unfolding_all rfl) ?_; with_reducible refine wp_ret ?_)
  refine wp_cell hl fun v => ?_
  (with_reducible refine sqQ_nx ?_; with_reducible refine wp_rtM ?_; with_reducible refine wp_lstC ?_; with_reducible refine wp_consM ?_; with_reducible refine wp_bi ?_; with_reducible refine wp_bnd ?_; with_reducible refine wp_consM ?_; with_reducible refine wp_getv (by with_unfolding_all rfl) ?_; with_reducible refine wp_ret ?_; with_reducible refine wp_abs ?_; with_reducible refine wp_bnd ?_; with_reducible refine wp_consM ?_; with_reducible refine wp_bi ?_; with_reducible refine wp_bnd ?_; with_reducible refine wp_consM ?_; with_reducible refine wp_getv (by with_unfolding_all rfl) ?_; with_reducible refine wp_ret ?_; with_reducible refine wp_abs ?_; with_reducible refine wp_bi ?_; with_reducible refine wp_ret ?_; with_reducible refine wp_ret ?_; (with_reducible refine wp_powE (by decide) ?_; intro r hr; (simp only [Int.reduceToNat, Int.reducePow] at hr); subst hr); with_reducible refine wp_ge ?_; with_reducible refine wp_ret ?_; with_reducible refine wp_intXB ?_; with_reducible refine wp_mul (b01 _) ?_; with_reducible refine wp_consM ?_; with_reducible refine wp_bi ?_; with_reducible refine wp_bi ?_; with_reducible refine wp_bi ?_; with_reducible refine wp_getv (by with_unfolding_all rfl) ?_; with_reducible refine wp_ret ?_; with_reducible refine wp_modP (by first | decide | assumption) ?_; with_reducible refine wp_bi ?_; with_reducible refine wp_ret ?_; with_reducible refine wp_getv (by with_unfolding_all rfl) ?_; with_reducible refine wp_mul (lit_mul (by decide)) ?_; with_reducible refine wp_addI ?_; with_reducible refine wp_ret ?_; with_reducible refine wp_addI ?_; with_reducible refine wp_consM ?_; with_reducible refine wp_ret ?_; with_reducible refine wp_ret ?_; with_reducible refine lim_and (by with_unfolding_all exact of_decide_eq_true (Eq.refl true)) ?_; with_reducible refine finQ_rt ?_)
  try refine wp_mul (b01 _) ?_
  skip
  try refine wp_modP (by decide) ?_
  skip
  try refine wp_mul (.inl (by decide)) ?_
  skip
  have a1 : 0 ≤ v % 2305843009213693951 := Int.emod_nonneg _ (by decide)
  have a2 : v % 2305843009213693951 < 2305843009213693951 := Int.emod_lt_of_pos _ (by decide)
  refine h _ ⟨_, _, _, List.getElem?_concat_length, ?_, by omega, by omega, by omega, by omega⟩
  exact Int.mul_nonneg (by split <;> omega) (by split <;> omega)
/-! what things are -/
def tk : D → Prop
  | .loc _ | .ty _ | .ob _ => False
  | _ => True
def isNum : D → Bool
  | .int _ => true
  | _ => false
def isFr : D → Bool
  | .tup [.int t, .int b] => decide (0 < b) && decide (t.gcd b = 1)
  | _ => false
/-- a thing of which is_frac may be asked -/
def Kn (n : Nat) : D → Prop
  | .tup xs => (∀ x ∈ xs, tk x) ∧ ∀ t b, xs = [.int t, .int b] → b.natAbs < n
  | d => tk d
theorem wp_is_number {n : Nat} {d : D} {S : Sto} {Q : D → Sto → Prop} (hd : tk d) (h : Q (.bl (isNum d)) S) : wp (f_is_number n [d]) S Q := by
  show wp (finR (m_is_number n [some d])) S Q
  unfold m_is_number
  cases d with
  | loc _ => exact hd.elim
  | ty _ => exact hd.elim
  | ob _ => exact hd.elim
  | bl _ => (with_reducible refine wp_finR ?_; with_reducible refine wp_rtM ?_; with_reducible refine wp_andV ?_; with_reducible refine wp_bnd ?_; with_reducible refine wp_consM ?_; with_reducible refine wp_getv (by with_unfolding_all rfl) ?_; with_reducible refine wp_consM ?_; with_reducible refine wp_ret ?_; with_reducible refine wp_ret ?_; with_reducible refine wp_isi_t (by decide) (by with_unfolding_all rfl) (by decide) ?_; with_reducible refine asQ_bl ?_; with_reducible refine if_tt ?_; with_reducible refine wp_notV ?_; with_reducible refine wp_bnd ?_; with_reducible refine wp_consM ?_; with_reducible refine wp_getv (by with_unfolding_all rfl) ?_; with_reducible refine wp_consM ?_; with_reducible refine wp_ret ?_; with_reducible refine wp_ret ?_; with_reducible refine wp_isi_t (by decide) (by with_unfolding_all rfl) (by decide) ?_; with_reducible refine asQ_bl ?_; with_reducible refine finQ_rt ?_); exact h
  | _ => (first | (with_reducible refine wp_finR ?_; with_reducible refine wp_rtM ?_; with_reducible refine wp_andV ?_; with_reducible refine wp_bnd ?_; with_reducible refine wp_consM ?_; with_reducible refine wp_getv (by with_unfolding_all rfl) ?_; with_reducible refine wp_consM ?_; with_reducible refine wp_ret ?_; with_reducible refine wp_ret ?_; with_reducible refine wp_isi_t (by decide) (by with_unfolding_all rfl) (by decide) ?_; with_reducible refine asQ_bl ?_; with_reducible refine if_tt ?_; with_reducible refine wp_notV ?_; with_reducible refine wp_bnd ?_; with_reducible refine wp_consM ?_; with_reducible refine wp_getv (by with_unfolding_all rfl) ?_; with_reducible refine wp_consM ?_; with_reducible refine wp_ret ?_; with_reducible refine wp_ret ?_; with_reducible refine wp_isi_f (by decide) (by with_unfolding_all rfl) (by decide) ?_; with_reducible refine asQ_bl ?_; with_reducible refine finQ_rt ?_) | (with_reducible refine wp_finR ?_; with_reducible refine wp_rtM ?_; with_reducible refine wp_andV ?_; with_reducible refine wp_bnd ?_; with_reducible refine wp_consM ?_; with_reducible refine wp_getv (by with_unfolding_all rfl) ?_; with_reducible refine wp_consM ?_; with_reducible refine wp_ret ?_; with_reducible refine wp_ret ?_; with_reducible refine wp_isi_f (by decide) (by with_unfolding_all rfl) (by decide) ?_; with_reducible refine asQ_bl ?_; with_reducible refine if_ff ?_; with_reducible refine finQ_rt ?_)); exact h
/-! the program's own -/
theorem wp_euclid {cA : REnv → M Bool} {ks : REnv → M Fl} {Q : Fl → Sto → Prop}
    (hc : ∀ (x y : Int) S Q, Q (decide (0 < y)) S → wp (cA [some (.int x), some (.int y)]) S Q)
    (hk : ∀ (x y : Int) S Q, 0 < y → Q (.nx [some (.int y), some (.int (x % y))]) S → wp (ks [some (.int x), some (.int y)]) S Q) : ∀ (n x y : Nat) (S : Sto), y < n → Q (.nx [some (.int (Nat.gcd x y : Nat)), some (.int 0)]) S → wp (whileM cA ks n [some (.int x), some (.int y)]) S Q
  | 0, _, _, _, h, _ => absurd h (Nat.not_lt_zero _)
  | n + 1, x, y, S, h, q => by
    refine wp_whileS (hc _ _ _ _ ?_)
    refine if_ds (fun hy => ?_) (fun hy => ?_)
    · refine hk _ _ _ _ hy (lpQ_nx ?_)
      rw [← Int.natCast_emod]
      have hy' : 0 < y := by omega
      refine wp_euclid hc hk n y (x % y) S ?_ ?_
      · have := Nat.mod_lt x hy'
        omega
      · have e : Nat.gcd y (x % y) = Nat.gcd x y := by rw [Nat.gcd_comm x y, Nat.gcd_rec y x, Nat.gcd_comm]
        rw [e]
        exact q
    · have e : y = 0 := by omega
      subst e
      rw [Nat.gcd_zero_right] at q
      exact q
theorem wp_common {n : Nat} {t b : Int} {S : Sto} {Q : D → Sto → Prop} (hn : b.natAbs < n) (h : Q (.int (t.gcd b : Nat)) S) : wp (f_common n [.int t, .int b]) S Q := by
  show wp (finR (m_common n [some (.int t), some (.int b)])) S Q
  unfold m_common
  (with_reducible refine wp_finR ?_; with_reducible refine wp_sq ?_; with_reducible refine wp_par ?_; with_reducible refine wp_bnd ?_; with_reducible refine wp_consM ?_; with_reducible refine wp_getv (by with_unfolding_all rfl) ?_; with_reducible refine wp_ret ?_; with_reducible refine wp_abs ?_; with_reducible refine wp_bnd ?_; with_reducible refine wp_consM ?_; with_reducible refine wp_getv (by with_unfolding_all rfl) ?_; with_reducible refine wp_ret ?_; with_reducible refine wp_abs ?_; with_reducible refine sqQ_nx ?_; with_reducible refine wp_sq ?_)
  rw [abs_nat, abs_nat]
  show wp (whileM _ _ n [some (.int (t.natAbs : Int)), some (.int (b.natAbs : Int))]) S _
  refine wp_euclid (fun x y S Q h => ?_) (fun x y S Q h0 h => ?_) n _ _ S hn ?_
  · (with_reducible refine wp_tst ?_; with_reducible refine wp_bi ?_; with_reducible refine wp_getv (by with_unfolding_all rfl) ?_; with_reducible refine wp_ret ?_; with_reducible refine wp_gt ?_; with_reducible refine asQ_bl ?_)
    exact h
  · (with_reducible refine wp_par ?_; with_reducible refine wp_getv (by with_unfolding_all rfl) ?_; with_reducible refine wp_bi ?_; with_reducible refine wp_getv (by with_unfolding_all rfl) ?_; with_reducible refine wp_getv (by with_unfolding_all rfl) ?_; with_reducible refine wp_modP (by first | decide | assumption) ?_)
    try refine wp_modP h0 ?_
    skip
    exact h
  · (with_reducible refine sqQ_nx ?_; with_reducible refine wp_rtM ?_; with_reducible refine wp_getv (by with_unfolding_all rfl) ?_; with_reducible refine finQ_rt ?_)
    exact h
theorem wp_is_frac {n : Nat} {d : D} {S : Sto} {Q : D → Sto → Prop} (hd : Kn n d) (h : Q (.bl (isFr d)) S) : wp (f_is_frac n [d]) S Q := by
  show wp (finR (m_is_frac n [some d, none, none])) S Q
  unfold m_is_frac
  cases d with
  | loc _ => exact hd.elim
  | ty _ => exact hd.elim
  | ob _ => exact hd.elim
  | tup xs =>
    obtain ⟨h1, h2⟩ := hd
    (with_reducible refine wp_finR ?_; with_reducible refine wp_sq ?_; with_reducible refine wp_ifS ?_; with_reducible refine wp_orM ?_; with_reducible refine wp_notM ?_; with_reducible refine wp_tst ?_; with_reducible refine wp_bnd ?_; with_reducible refine wp_consM ?_; with_reducible refine wp_getv (by with_unfolding_all rfl) ?_; with_reducible refine wp_consM ?_; with_reducible refine wp_ret ?_; with_reducible refine wp_ret ?_; with_reducible refine wp_isi_t (by decide) (by with_unfolding_all rfl) (by decide) ?_; with_reducible refine asQ_bl ?_; with_reducible refine if_nt ?_; with_reducible refine wp_orM ?_; with_reducible refine wp_tst ?_; with_reducible refine wp_bi ?_; with_reducible refine wp_bnd ?_; with_reducible refine wp_consM ?_; with_reducible refine wp_getv (by with_unfolding_all rfl) ?_; with_reducible refine wp_ret ?_; with_reducible refine wp_lenT ?_; with_reducible refine wp_ret ?_; with_reducible refine wp_neI ?_; with_reducible refine asQ_bl ?_)
    have two : (xs.length : Int) = 2 → ∃ a b, xs = [a, b] := fun e => by
      match xs, e with
      | [a, b], _ => exact ⟨a, b, rfl⟩
      | [], e => simp at e
      | [_], e => simp at e
      | _ :: _ :: _ :: _, e => simp at e; omega
    refine if_nds (fun hne => ?_) (fun he => ?_)
    · (with_reducible refine if_tt ?_; with_reducible refine wp_rtM ?_; with_reducible refine wp_ret ?_; with_reducible refine sqQ_rt ?_; with_reducible refine finQ_rt ?_)
      have e : isFr (.tup xs) = false := by
        unfold isFr
        split
        · rename_i hh
          cases hh
          exact absurd rfl hne
        · rfl
      rw [e] at h
      exact h
    · obtain ⟨a, b, rfl⟩ := two he
      (with_reducible refine wp_notM ?_; with_reducible refine wp_tst ?_; with_reducible refine wp_bnd ?_; with_reducible refine wp_consM ?_; with_reducible refine wp_lcM ?_; with_reducible refine wp_bnd ?_; with_reducible refine wp_getv (by with_unfolding_all rfl) ?_; with_reducible refine wp_itemsT ?_; with_reducible refine lim_and (by with_unfolding_all exact of_decide_eq_true (Eq.refl true)) ?_)
      refine wp_compMap (fun x => .bl (isNum x)) (fun x hx => ?_) ?_
      · refine wp_gN ?_
        (with_reducible refine wp_bnd ?_; with_reducible refine wp_consM ?_; with_reducible refine wp_getv (by with_unfolding_all rfl) ?_; with_reducible refine wp_ret ?_)
        exact wp_is_number (h1 x hx) ⟨rfl, rfl⟩
      · with_reducible refine wp_ret ?_
        refine wp_all (bs := [isNum a, isNum b]) (by rfl) ?_
        with_reducible refine asQ_bl ?_
        cases a with
        | int t =>
          cases b with
          | int b =>
            refine if_nt ?_
            (with_reducible refine wp_ret ?_; with_reducible refine sqQ_nx ?_; with_reducible refine wp_rtM ?_; with_reducible refine wp_andV ?_; with_reducible refine wp_bi ?_; with_reducible refine wp_bi ?_; with_reducible refine wp_getv (by with_unfolding_all rfl) ?_; with_reducible refine wp_ret ?_; with_reducible refine wp_ixT (by with_unfolding_all rfl) ?_; with_reducible refine wp_ret ?_; with_reducible refine wp_gt ?_; with_reducible refine asQ_bl ?_)
            skip
            try refine wp_ixT (d := .int b) (by rfl) ?_
            skip
            refine if_ds (fun hb => ?_) (fun hb => ?_)
            · (with_reducible refine wp_bi ?_; with_reducible refine wp_bnd ?_; with_reducible refine wp_consM ?_; with_reducible refine wp_bi ?_; with_reducible refine wp_getv (by with_unfolding_all rfl) ?_; with_reducible refine wp_ret ?_; with_reducible refine wp_ixT (by with_unfolding_all rfl) ?_; with_reducible refine wp_consM ?_; with_reducible refine wp_bi ?_; with_reducible refine wp_getv (by with_unfolding_all rfl) ?_; with_reducible refine wp_ret ?_; with_reducible refine wp_ixT (by with_unfolding_all rfl) ?_; with_reducible refine wp_ret ?_)
              try refine wp_ixT (d := .int t) (by rfl) ?_
              skip
              try refine wp_ixT (d := .int b) (by rfl) ?_
              skip
              refine wp_common (h2 _ _ rfl) ?_
              (with_reducible refine wp_ret ?_; with_reducible refine wp_eqI ?_; with_reducible refine finQ_rt ?_)
              have e : isFr (.tup [.int t, .int b]) = decide (((t.gcd b : Nat) : Int) = 1) := by
                show (decide (0 < b) && decide (t.gcd b = 1)) = _
                rw [decide_eq_true hb, Bool.true_and]
                by_cases hg : t.gcd b = 1
                · rw [hg]; rfl
                · rw [decide_eq_false hg, decide_eq_false (by omega)]
              rw [e] at h
              exact h
            · with_reducible refine finQ_rt ?_
              have e : isFr (.tup [.int t, .int b]) = false := by
                show (decide (0 < b) && decide (t.gcd b = 1)) = _
                rw [decide_eq_false hb, Bool.false_and]
              rw [e] at h
              exact h
          | _ =>
            refine if_nf ?_
            (with_reducible refine wp_rtM ?_; with_reducible refine wp_ret ?_; with_reducible refine sqQ_rt ?_; with_reducible refine finQ_rt ?_)
            exact h
        | _ =>
          refine if_nf ?_
          (with_reducible refine wp_rtM ?_; with_reducible refine wp_ret ?_; with_reducible refine sqQ_rt ?_; with_reducible refine finQ_rt ?_)
          exact h
  | _ => (with_reducible refine wp_finR ?_; with_reducible refine wp_sq ?_; with_reducible refine wp_ifS ?_; with_reducible refine wp_orM ?_; with_reducible refine wp_notM ?_; with_reducible refine wp_tst ?_; with_reducible refine wp_bnd ?_; with_reducible refine wp_consM ?_; with_reducible refine wp_getv (by with_unfolding_all rfl) ?_; with_reducible refine wp_consM ?_; with_reducible refine wp_ret ?_; with_reducible refine wp_ret ?_; with_reducible refine wp_isi_f (by decide) (by with_unfolding_all rfl) (by decide) ?_; with_reducible refine asQ_bl ?_; with_reducible refine if_nf ?_; with_reducible refine if_tt ?_; with_reducible refine wp_rtM ?_; with_reducible refine wp_ret ?_; with_reducible refine sqQ_rt ?_; with_reducible refine finQ_rt ?_); exact h
/-! lowest terms by the law's own reckoning -/
theorem wp_low {n k : Nat} {t b : Int} {S : Sto} {Q : D → Sto → Prop} (hb0 : b ≠ 0) (hb : b.natAbs < 2 ^ k) (hk : k ≤ 8990) (hn : Bg n) (h : Q (fr (Rat.divInt t b)) S) : wp (f__law_low n [.int t, .int b]) S Q := by
  show wp (finR (m__law_low n [some (.int t), some (.int b), none, none])) S Q
  unfold m__law_low
  have hb' := pow_mono hb hk
  (with_reducible refine wp_finR ?_; with_reducible refine wp_sq ?_; with_reducible refine wp_par ?_; with_reducible refine wp_bnd ?_; with_reducible refine wp_consM ?_; with_reducible refine wp_getv (by with_unfolding_all rfl) ?_; with_reducible refine wp_ret ?_; with_reducible refine wp_abs ?_; with_reducible refine wp_bnd ?_; with_reducible refine wp_consM ?_; with_reducible refine wp_getv (by with_unfolding_all rfl) ?_; with_reducible refine wp_ret ?_; with_reducible refine wp_abs ?_; with_reducible refine sqQ_nx ?_; with_reducible refine wp_sq ?_)
  rw [abs_nat t, abs_nat b]
  show wp (whileM _ _ n [some (.int t), some (.int b), some (.int (t.natAbs : Int)), some (.int (b.natAbs : Int))]) S _
  refine wp_euclidG (fun x y => [some (.int t), some (.int b), some (.int x), some (.int y)]) (fun x y S Q h => ?_) (fun x y S Q h0 h => ?_) n _ _ S (hn.lt hb hk) ?_
  · (with_reducible refine wp_tst ?_; with_reducible refine wp_bi ?_; with_reducible refine wp_getv (by with_unfolding_all rfl) ?_; with_reducible refine wp_ret ?_; with_reducible refine wp_gt ?_; with_reducible refine asQ_bl ?_)
    exact h
  · (with_reducible refine wp_par ?_; with_reducible refine wp_getv (by with_unfolding_all rfl) ?_; with_reducible refine wp_bi ?_; with_reducible refine wp_getv (by with_unfolding_all rfl) ?_; with_reducible refine wp_getv (by with_unfolding_all rfl) ?_; with_reducible refine wp_modP (by first | decide | assumption) ?_)
    try with_reducible refine wp_modP h0 ?_
    skip
    exact h
  · (with_reducible refine sqQ_nx ?_; with_reducible refine wp_rtM ?_; with_reducible refine wp_tupM ?_; with_reducible refine wp_consM ?_; with_reducible refine wp_bi ?_; with_reducible refine wp_bi ?_; with_reducible refine wp_getv (by with_unfolding_all rfl) ?_; with_reducible refine wp_getv (by with_unfolding_all rfl) ?_)
    try with_reducible refine wp_fdiv (divOk_gcd hb0 hb') ?_
    (with_reducible refine wp_bi ?_; with_reducible refine wp_ret ?_; with_reducible refine wp_bi ?_; with_reducible refine wp_ret ?_; with_reducible refine wp_bnd ?_; with_reducible refine wp_consM ?_; with_reducible refine wp_bi ?_; with_reducible refine wp_getv (by with_unfolding_all rfl) ?_; with_reducible refine wp_ret ?_; with_reducible refine wp_lt ?_; with_reducible refine wp_ret ?_; with_reducible refine wp_intXB ?_; with_reducible refine wp_mul (lit_mul (by decide)) ?_; with_reducible refine wp_sub ?_; with_reducible refine wp_mul (m01 _) ?_; with_reducible refine wp_consM ?_; with_reducible refine wp_bi ?_; with_reducible refine wp_bnd ?_; with_reducible refine wp_consM ?_; with_reducible refine wp_getv (by with_unfolding_all rfl) ?_; with_reducible refine wp_ret ?_; with_reducible refine wp_abs ?_; with_reducible refine wp_getv (by with_unfolding_all rfl) ?_)
    try with_reducible refine wp_mul (b01 _) ?_
    skip
    try with_reducible refine wp_mul (m01 _) ?_
    skip
    try with_reducible refine wp_fdiv (divOk_gcd hb0 hb') ?_
    (with_reducible refine wp_ret ?_; with_reducible refine lim_and (by with_unfolding_all exact of_decide_eq_true (Eq.refl true)) ?_; with_reducible refine finQ_rt ?_)
    have e1 := low_num2 (t := t) hb0
    have e2 := low_den2 (t := t) hb0
    show Q (D.tup [.int (t.fdiv (t.gcd b : Nat) * (1 - 2 * (if decide (b < 0) = true then 1 else 0))), .int ((if b < 0 then -b else b).fdiv (t.gcd b : Nat))]) S
    rw [e1, e2]
    exact h
theorem wp_lowA {n k l : Nat} {q r : Rat} {S : Sto} {Q : D → Sto → Prop} (hq : Sz k q) (hr : Sz l r) (hk : k + l ≤ 8990) (hn : Bg n) (h : Q (fr (q + r)) S) : wp (f__law_low n [.int (q.num * r.den + r.num * q.den), .int (q.den * r.den)]) S Q :=
  wp_low (Int.mul_ne_zero (den0 _) (den0 _)) (mul_lt hq.dn hr.dn) hk hn (by rw [r_add]; exact h)
theorem wp_lowS {n k l : Nat} {q r : Rat} {S : Sto} {Q : D → Sto → Prop} (hq : Sz k q) (hr : Sz l r) (hk : k + l ≤ 8990) (hn : Bg n) (h : Q (fr (q - r)) S) : wp (f__law_low n [.int (q.num * r.den - r.num * q.den), .int (q.den * r.den)]) S Q :=
  wp_low (Int.mul_ne_zero (den0 _) (den0 _)) (mul_lt hq.dn hr.dn) hk hn (by rw [r_sub]; exact h)
theorem wp_lowM {n k l : Nat} {q r : Rat} {S : Sto} {Q : D → Sto → Prop} (hq : Sz k q) (hr : Sz l r) (hk : k + l ≤ 8990) (hn : Bg n) (h : Q (fr (q * r)) S) : wp (f__law_low n [.int (q.num * r.num), .int (q.den * r.den)]) S Q :=
  wp_low (Int.mul_ne_zero (den0 _) (den0 _)) (mul_lt hq.dn hr.dn) hk hn (by rw [r_mul]; exact h)
theorem wp_lowD {n k l : Nat} {q r : Rat} {S : Sto} {Q : D → Sto → Prop} (hq : Sz k q) (hr : Sz l r) (h0 : r ≠ 0) (hk : k + l ≤ 8990) (hn : Bg n) (h : Q (fr (q / r)) S) : wp (f__law_low n [.int (q.num * r.den), .int (q.den * r.num)]) S Q :=
  wp_low (Int.mul_ne_zero (den0 _) (num0 h0)) (mul_lt hq.dn hr.1) hk hn (by rw [r_div]; exact h)
/-! ### alike, kind by kind -/
/-- plain data to the depth k -/
def Pl : Nat → D → Prop
  | 0, _ => False
  | k + 1, .tup xs => xs.length ≤ lim ∧ ∀ x ∈ xs, Pl k x
  | k + 1, .lst xs => xs.length ≤ lim ∧ ∀ x ∈ xs, Pl k x
  | _ + 1, .int _ => True
  | _ + 1, .bl _ => True
  | _ + 1, .str x => StrO x
  | _ + 1, .non => True
  | _ + 1, _ => False
theorem wp_same {n : Nat} : ∀ (k : Nat) {d : D} {S : Sto} {Q : D → Sto → Prop}, Pl k d → Q (.bl true) S → wp (f__law_same n k [d, d]) S Q
  | 0, _, _, _, hd, _ => hd.elim
  | k + 1, d, S, Q, hd, h => by
    show wp (finR (m__law_same n (f__law_same n k) [some d, some d, none, none, none])) S Q
    unfold m__law_same
    have seq : ∀ (x : D) (xs : List D), (∀ x ∈ xs, Pl k x) → ∀ (ρ : REnv) (R : D → Sto → Prop), ρ.length = 5 → R (.bl true) S → wp (compL (gT 2 (gsC (gN 3) (gsC (gN 4) gsN))) (fun _ => yesM) (fun ρ => bnd (consM (getv ρ 3) (consM (getv ρ 4) (ret []))) (f__law_same n k)) (wipeR ρ [2, 3, 4]) (zipD xs xs)) S fun ys S2 => wp (allM [.lst ys]) S2 R := by
      intro x xs hx ρ R hl hr
      rw [zipD_same]
      refine wp_compMap (fun _ => .bl true) (fun d hd => ?_) ?_
      · obtain ⟨y, hy, rfl⟩ := List.mem_map.mp hd
        have l3 : 3 < (wipeR ρ [2, 3, 4]).length := by simp [wipeR, hl]
        have l4 : 4 < (wipeR ρ [2, 3, 4]).length := by simp [wipeR, hl]
        (with_reducible refine wp_gT (by with_unfolding_all rfl) ?_; with_reducible refine wp_gsC ?_; with_reducible refine wp_gN ?_; with_reducible refine wp_gsC ?_; with_reducible refine wp_gN ?_; with_reducible refine wp_gsN ?_; with_reducible refine wp_bnd ?_; with_reducible refine wp_consM ?_)
        refine wp_getv (d := y) (by simp [List.getElem?_set, l3]) ?_
        with_reducible refine wp_consM ?_
        refine wp_getv (d := y) (by simp [List.getElem?_set, l4]) ?_
        with_reducible refine wp_ret ?_
        exact wp_same k (hx y hy) ⟨rfl, rfl⟩
      · refine wp_all (bools_map (fun _ => true) _) ?_
        have e : (((xs.map fun x => D.tup [x, x]).map fun _ => true).all id) = true := by simp
        rw [e]
        exact hr
    cases d with
    | loc _ => exact hd.elim
    | ty _ => exact hd.elim
    | ob _ => exact hd.elim
    | rol _ => exact hd.elim
    | int i =>
      (with_reducible refine wp_finR ?_; with_reducible refine wp_sq ?_; with_reducible refine wp_ifS ?_; with_reducible refine wp_tst ?_; with_reducible refine wp_bnd ?_; with_reducible refine wp_consM ?_; with_reducible refine wp_getv (by with_unfolding_all rfl) ?_; with_reducible refine wp_consM ?_; with_reducible refine wp_tupM ?_; with_reducible refine wp_consM ?_; with_reducible refine wp_ret ?_; with_reducible refine wp_consM ?_; with_reducible refine wp_ret ?_; with_reducible refine wp_ret ?_; with_reducible refine lim_and (by with_unfolding_all exact of_decide_eq_true (Eq.refl true)) ?_; with_reducible refine wp_ret ?_; with_reducible refine wp_isiT_f (by with_unfolding_all rfl) (by decide) (by with_unfolding_all rfl) (by decide) ?_; with_reducible refine asQ_bl ?_; with_reducible refine if_ff ?_; with_reducible refine wp_ret ?_; with_reducible refine sqQ_nx ?_; with_reducible refine wp_sq ?_; with_reducible refine wp_ifS ?_; with_reducible refine wp_orM ?_; with_reducible refine wp_tst ?_; with_reducible refine wp_bi ?_; with_reducible refine wp_bnd ?_; with_reducible refine wp_consM ?_; with_reducible refine wp_getv (by with_unfolding_all rfl) ?_; with_reducible refine wp_consM ?_; with_reducible refine wp_ret ?_; with_reducible refine wp_ret ?_; with_reducible refine wp_isi_f (by decide) (by with_unfolding_all rfl) (by decide) ?_; with_reducible refine wp_bnd ?_; with_reducible refine wp_consM ?_; with_reducible refine wp_getv (by with_unfolding_all rfl) ?_; with_reducible refine wp_consM ?_; with_reducible refine wp_ret ?_; with_reducible refine wp_ret ?_; with_reducible refine wp_isi_f (by decide) (by with_unfolding_all rfl) (by decide) ?_; with_reducible refine wp_neB ?_; with_reducible refine asQ_bl ?_; with_reducible refine if_ndp rfl ?_; with_reducible refine wp_tst ?_; with_reducible refine wp_bi ?_; with_reducible refine wp_bnd ?_; with_reducible refine wp_consM ?_; with_reducible refine wp_getv (by with_unfolding_all rfl) ?_; with_reducible refine wp_consM ?_; with_reducible refine wp_ret ?_; with_reducible refine wp_ret ?_; with_reducible refine wp_isi_t (by decide) (by with_unfolding_all rfl) (by decide) ?_; with_reducible refine wp_bnd ?_; with_reducible refine wp_consM ?_; with_reducible refine wp_getv (by with_unfolding_all rfl) ?_; with_reducible refine wp_consM ?_; with_reducible refine wp_ret ?_; with_reducible refine wp_ret ?_; with_reducible refine wp_isi_t (by decide) (by with_unfolding_all rfl) (by decide) ?_; with_reducible refine wp_neB ?_; with_reducible refine asQ_bl ?_; with_reducible refine if_ndp rfl ?_; with_reducible refine wp_ret ?_; with_reducible refine sqQ_nx ?_; with_reducible refine wp_rtM ?_; with_reducible refine wp_bi ?_; with_reducible refine wp_getv (by with_unfolding_all rfl) ?_; with_reducible refine wp_getv (by with_unfolding_all rfl) ?_; with_reducible refine wp_eqI ?_; with_reducible refine finQ_rt ?_)
      rw [decide_eq_true rfl]
      exact h
    | non =>
      (with_reducible refine wp_finR ?_; with_reducible refine wp_sq ?_; with_reducible refine wp_ifS ?_; with_reducible refine wp_tst ?_; with_reducible refine wp_bnd ?_; with_reducible refine wp_consM ?_; with_reducible refine wp_getv (by with_unfolding_all rfl) ?_; with_reducible refine wp_consM ?_; with_reducible refine wp_tupM ?_; with_reducible refine wp_consM ?_; with_reducible refine wp_ret ?_; with_reducible refine wp_consM ?_; with_reducible refine wp_ret ?_; with_reducible refine wp_ret ?_; with_reducible refine lim_and (by with_unfolding_all exact of_decide_eq_true (Eq.refl true)) ?_; with_reducible refine wp_ret ?_; with_reducible refine wp_isiT_f (by with_unfolding_all rfl) (by decide) (by with_unfolding_all rfl) (by decide) ?_; with_reducible refine asQ_bl ?_; with_reducible refine if_ff ?_; with_reducible refine wp_ret ?_; with_reducible refine sqQ_nx ?_; with_reducible refine wp_sq ?_; with_reducible refine wp_ifS ?_; with_reducible refine wp_orM ?_; with_reducible refine wp_tst ?_; with_reducible refine wp_bi ?_; with_reducible refine wp_bnd ?_; with_reducible refine wp_consM ?_; with_reducible refine wp_getv (by with_unfolding_all rfl) ?_; with_reducible refine wp_consM ?_; with_reducible refine wp_ret ?_; with_reducible refine wp_ret ?_; with_reducible refine wp_isi_f (by decide) (by with_unfolding_all rfl) (by decide) ?_; with_reducible refine wp_bnd ?_; with_reducible refine wp_consM ?_; with_reducible refine wp_getv (by with_unfolding_all rfl) ?_; with_reducible refine wp_consM ?_; with_reducible refine wp_ret ?_; with_reducible refine wp_ret ?_; with_reducible refine wp_isi_f (by decide) (by with_unfolding_all rfl) (by decide) ?_; with_reducible refine wp_neB ?_; with_reducible refine asQ_bl ?_; with_reducible refine if_ndp rfl ?_; with_reducible refine wp_tst ?_; with_reducible refine wp_bi ?_; with_reducible refine wp_bnd ?_; with_reducible refine wp_consM ?_; with_reducible refine wp_getv (by with_unfolding_all rfl) ?_; with_reducible refine wp_consM ?_; with_reducible refine wp_ret ?_; with_reducible refine wp_ret ?_; with_reducible refine wp_isi_f (by decide) (by with_unfolding_all rfl) (by decide) ?_; with_reducible refine wp_bnd ?_; with_reducible refine wp_consM ?_; with_reducible refine wp_getv (by with_unfolding_all rfl) ?_; with_reducible refine wp_consM ?_; with_reducible refine wp_ret ?_; with_reducible refine wp_ret ?_; with_reducible refine wp_isi_f (by decide) (by with_unfolding_all rfl) (by decide) ?_; with_reducible refine wp_neB ?_; with_reducible refine asQ_bl ?_; with_reducible refine if_ndp rfl ?_; with_reducible refine wp_ret ?_; with_reducible refine sqQ_nx ?_; with_reducible refine wp_rtM ?_; with_reducible refine wp_bi ?_; with_reducible refine wp_getv (by with_unfolding_all rfl) ?_; with_reducible refine wp_getv (by with_unfolding_all rfl) ?_; with_reducible refine wp_eqNN ?_; with_reducible refine finQ_rt ?_)
      exact h
    | bl b =>
      (with_reducible refine wp_finR ?_; with_reducible refine wp_sq ?_; with_reducible refine wp_ifS ?_; with_reducible refine wp_tst ?_; with_reducible refine wp_bnd ?_; with_reducible refine wp_consM ?_; with_reducible refine wp_getv (by with_unfolding_all rfl) ?_; with_reducible refine wp_consM ?_; with_reducible refine wp_tupM ?_; with_reducible refine wp_consM ?_; with_reducible refine wp_ret ?_; with_reducible refine wp_consM ?_; with_reducible refine wp_ret ?_; with_reducible refine wp_ret ?_; with_reducible refine lim_and (by with_unfolding_all exact of_decide_eq_true (Eq.refl true)) ?_; with_reducible refine wp_ret ?_; with_reducible refine wp_isiT_f (by with_unfolding_all rfl) (by decide) (by with_unfolding_all rfl) (by decide) ?_; with_reducible refine asQ_bl ?_; with_reducible refine if_ff ?_; with_reducible refine wp_ret ?_; with_reducible refine sqQ_nx ?_; with_reducible refine wp_sq ?_; with_reducible refine wp_ifS ?_; with_reducible refine wp_orM ?_; with_reducible refine wp_tst ?_; with_reducible refine wp_bi ?_; with_reducible refine wp_bnd ?_; with_reducible refine wp_consM ?_; with_reducible refine wp_getv (by with_unfolding_all rfl) ?_; with_reducible refine wp_consM ?_; with_reducible refine wp_ret ?_; with_reducible refine wp_ret ?_; with_reducible refine wp_isi_t (by decide) (by with_unfolding_all rfl) (by decide) ?_; with_reducible refine wp_bnd ?_; with_reducible refine wp_consM ?_; with_reducible refine wp_getv (by with_unfolding_all rfl) ?_; with_reducible refine wp_consM ?_; with_reducible refine wp_ret ?_; with_reducible refine wp_ret ?_; with_reducible refine wp_isi_t (by decide) (by with_unfolding_all rfl) (by decide) ?_; with_reducible refine wp_neB ?_; with_reducible refine asQ_bl ?_; with_reducible refine if_ndp rfl ?_; with_reducible refine wp_tst ?_; with_reducible refine wp_bi ?_; with_reducible refine wp_bnd ?_; with_reducible refine wp_consM ?_; with_reducible refine wp_getv (by with_unfolding_all rfl) ?_; with_reducible refine wp_consM ?_; with_reducible refine wp_ret ?_; with_reducible refine wp_ret ?_; with_reducible refine wp_isi_t (by decide) (by with_unfolding_all rfl) (by decide) ?_; with_reducible refine wp_bnd ?_; with_reducible refine wp_consM ?_; with_reducible refine wp_getv (by with_unfolding_all rfl) ?_; with_reducible refine wp_consM ?_; with_reducible refine wp_ret ?_; with_reducible refine wp_ret ?_; with_reducible refine wp_isi_t (by decide) (by with_unfolding_all rfl) (by decide) ?_; with_reducible refine wp_neB ?_; with_reducible refine asQ_bl ?_; with_reducible refine if_ndp rfl ?_; with_reducible refine wp_ret ?_; with_reducible refine sqQ_nx ?_; with_reducible refine wp_rtM ?_; with_reducible refine wp_bi ?_; with_reducible refine wp_getv (by with_unfolding_all rfl) ?_; with_reducible refine wp_getv (by with_unfolding_all rfl) ?_; with_reducible refine wp_eqB ?_; with_reducible refine finQ_rt ?_)
      rw [decide_eq_true rfl]
      exact h
    | str x =>
      (with_reducible refine wp_finR ?_; with_reducible refine wp_sq ?_; with_reducible refine wp_ifS ?_; with_reducible refine wp_tst ?_; with_reducible refine wp_bnd ?_; with_reducible refine wp_consM ?_; with_reducible refine wp_getv (by with_unfolding_all rfl) ?_; with_reducible refine wp_consM ?_; with_reducible refine wp_tupM ?_; with_reducible refine wp_consM ?_; with_reducible refine wp_ret ?_; with_reducible refine wp_consM ?_; with_reducible refine wp_ret ?_; with_reducible refine wp_ret ?_; with_reducible refine lim_and (by with_unfolding_all exact of_decide_eq_true (Eq.refl true)) ?_; with_reducible refine wp_ret ?_; with_reducible refine wp_isiT_f (by with_unfolding_all rfl) (by decide) (by with_unfolding_all rfl) (by decide) ?_; with_reducible refine asQ_bl ?_; with_reducible refine if_ff ?_; with_reducible refine wp_ret ?_; with_reducible refine sqQ_nx ?_; with_reducible refine wp_sq ?_; with_reducible refine wp_ifS ?_; with_reducible refine wp_orM ?_; with_reducible refine wp_tst ?_; with_reducible refine wp_bi ?_; with_reducible refine wp_bnd ?_; with_reducible refine wp_consM ?_; with_reducible refine wp_getv (by with_unfolding_all rfl) ?_; with_reducible refine wp_consM ?_; with_reducible refine wp_ret ?_; with_reducible refine wp_ret ?_; with_reducible refine wp_isi_f (by decide) (by with_unfolding_all rfl) (by decide) ?_; with_reducible refine wp_bnd ?_; with_reducible refine wp_consM ?_; with_reducible refine wp_getv (by with_unfolding_all rfl) ?_; with_reducible refine wp_consM ?_; with_reducible refine wp_ret ?_; with_reducible refine wp_ret ?_; with_reducible refine wp_isi_f (by decide) (by with_unfolding_all rfl) (by decide) ?_; with_reducible refine wp_neB ?_; with_reducible refine asQ_bl ?_; with_reducible refine if_ndp rfl ?_; with_reducible refine wp_tst ?_; with_reducible refine wp_bi ?_; with_reducible refine wp_bnd ?_; with_reducible refine wp_consM ?_; with_reducible refine wp_getv (by with_unfolding_all rfl) ?_; with_reducible refine wp_consM ?_; with_reducible refine wp_ret ?_; with_reducible refine wp_ret ?_; with_reducible refine wp_isi_f (by decide) (by with_unfolding_all rfl) (by decide) ?_; with_reducible refine wp_bnd ?_; with_reducible refine wp_consM ?_; with_reducible refine wp_getv (by with_unfolding_all rfl) ?_; with_reducible refine wp_consM ?_; with_reducible refine wp_ret ?_; with_reducible refine wp_ret ?_; with_reducible refine wp_isi_f (by decide) (by with_unfolding_all rfl) (by decide) ?_; with_reducible refine wp_neB ?_; with_reducible refine asQ_bl ?_; with_reducible refine if_ndp rfl ?_; with_reducible refine wp_ret ?_; with_reducible refine sqQ_nx ?_; with_reducible refine wp_rtM ?_; with_reducible refine wp_bi ?_; with_reducible refine wp_getv (by with_unfolding_all rfl) ?_; with_reducible refine wp_getv (by with_unfolding_all rfl) ?_)
      refine wp_eqS hd hd ?_
      rw [beq_self_eq_true]
      exact h
    | tup xs =>
      (with_reducible refine wp_finR ?_; with_reducible refine wp_sq ?_; with_reducible refine wp_ifS ?_; with_reducible refine wp_tst ?_; with_reducible refine wp_bnd ?_; with_reducible refine wp_consM ?_; with_reducible refine wp_getv (by with_unfolding_all rfl) ?_; with_reducible refine wp_consM ?_; with_reducible refine wp_tupM ?_; with_reducible refine wp_consM ?_; with_reducible refine wp_ret ?_; with_reducible refine wp_consM ?_; with_reducible refine wp_ret ?_; with_reducible refine wp_ret ?_; with_reducible refine lim_and (by with_unfolding_all exact of_decide_eq_true (Eq.refl true)) ?_; with_reducible refine wp_ret ?_; with_reducible refine wp_isiT_t (by with_unfolding_all rfl) (by decide) (by with_unfolding_all rfl) (by decide) ?_; with_reducible refine asQ_bl ?_; with_reducible refine if_tt ?_; with_reducible refine wp_sq ?_; with_reducible refine wp_ifS ?_; with_reducible refine wp_orM ?_; with_reducible refine wp_tst ?_; with_reducible refine wp_bi ?_; with_reducible refine wp_bnd ?_; with_reducible refine wp_consM ?_; with_reducible refine wp_getv (by with_unfolding_all rfl) ?_; with_reducible refine wp_consM ?_; with_reducible refine wp_ret ?_; with_reducible refine wp_ret ?_; with_reducible refine wp_isi_f (by decide) (by with_unfolding_all rfl) (by decide) ?_; with_reducible refine wp_bnd ?_; with_reducible refine wp_consM ?_; with_reducible refine wp_getv (by with_unfolding_all rfl) ?_; with_reducible refine wp_consM ?_; with_reducible refine wp_ret ?_; with_reducible refine wp_ret ?_; with_reducible refine wp_isi_f (by decide) (by with_unfolding_all rfl) (by decide) ?_; with_reducible refine wp_neB ?_; with_reducible refine asQ_bl ?_; with_reducible refine if_ndp rfl ?_; with_reducible refine wp_tst ?_; with_reducible refine wp_bi ?_; with_reducible refine wp_bnd ?_; with_reducible refine wp_consM ?_; with_reducible refine wp_getv (by with_unfolding_all rfl) ?_; with_reducible refine wp_consM ?_; with_reducible refine wp_ret ?_; with_reducible refine wp_ret ?_; with_reducible refine wp_isi_t (by decide) (by with_unfolding_all rfl) (by decide) ?_; with_reducible refine wp_bnd ?_; with_reducible refine wp_consM ?_; with_reducible refine wp_getv (by with_unfolding_all rfl) ?_; with_reducible refine wp_consM ?_; with_reducible refine wp_ret ?_; with_reducible refine wp_ret ?_; with_reducible refine wp_isi_t (by decide) (by with_unfolding_all rfl) (by decide) ?_; with_reducible refine wp_neB ?_; with_reducible refine asQ_bl ?_; with_reducible refine if_ndp rfl ?_; with_reducible refine wp_ret ?_; with_reducible refine sqQ_nx ?_; with_reducible refine wp_rtM ?_; with_reducible refine wp_andV ?_; with_reducible refine wp_bi ?_; with_reducible refine wp_bnd ?_; with_reducible refine wp_consM ?_; with_reducible refine wp_getv (by with_unfolding_all rfl) ?_; with_reducible refine wp_ret ?_; with_reducible refine wp_lenT ?_; with_reducible refine wp_bnd ?_; with_reducible refine wp_consM ?_; with_reducible refine wp_getv (by with_unfolding_all rfl) ?_; with_reducible refine wp_ret ?_; with_reducible refine wp_lenT ?_; with_reducible refine wp_eqI ?_; with_reducible refine asQ_bl ?_; with_reducible refine if_dp rfl ?_; with_reducible refine wp_bnd ?_; with_reducible refine wp_consM ?_; with_reducible refine wp_lcM ?_; with_reducible refine wp_bnd ?_; with_reducible refine wp_consM ?_; with_reducible refine wp_getv (by with_unfolding_all rfl) ?_; with_reducible refine wp_consM ?_; with_reducible refine wp_getv (by with_unfolding_all rfl) ?_; with_reducible refine wp_ret ?_; with_reducible refine wp_zipT ?_)
      refine ⟨by rw [zipD_same, List.length_map]; exact hd.1, ?_⟩
      exact seq .non xs hd.2 _ _ rfl h
    | lst xs =>
      (with_reducible refine wp_finR ?_; with_reducible refine wp_sq ?_; with_reducible refine wp_ifS ?_; with_reducible refine wp_tst ?_; with_reducible refine wp_bnd ?_; with_reducible refine wp_consM ?_; with_reducible refine wp_getv (by with_unfolding_all rfl) ?_; with_reducible refine wp_consM ?_; with_reducible refine wp_tupM ?_; with_reducible refine wp_consM ?_; with_reducible refine wp_ret ?_; with_reducible refine wp_consM ?_; with_reducible refine wp_ret ?_; with_reducible refine wp_ret ?_; with_reducible refine lim_and (by with_unfolding_all exact of_decide_eq_true (Eq.refl true)) ?_; with_reducible refine wp_ret ?_; with_reducible refine wp_isiT_t (by with_unfolding_all rfl) (by decide) (by with_unfolding_all rfl) (by decide) ?_; with_reducible refine asQ_bl ?_; with_reducible refine if_tt ?_; with_reducible refine wp_sq ?_; with_reducible refine wp_ifS ?_; with_reducible refine wp_orM ?_; with_reducible refine wp_tst ?_; with_reducible refine wp_bi ?_; with_reducible refine wp_bnd ?_; with_reducible refine wp_consM ?_; with_reducible refine wp_getv (by with_unfolding_all rfl) ?_; with_reducible refine wp_consM ?_; with_reducible refine wp_ret ?_; with_reducible refine wp_ret ?_; with_reducible refine wp_isi_t (by decide) (by with_unfolding_all rfl) (by decide) ?_; with_reducible refine wp_bnd ?_; with_reducible refine wp_consM ?_; with_reducible refine wp_getv (by with_unfolding_all rfl) ?_; with_reducible refine wp_consM ?_; with_reducible refine wp_ret ?_; with_reducible refine wp_ret ?_; with_reducible refine wp_isi_t (by decide) (by with_unfolding_all rfl) (by decide) ?_; with_reducible refine wp_neB ?_; with_reducible refine asQ_bl ?_; with_reducible refine if_ndp rfl ?_; with_reducible refine wp_tst ?_; with_reducible refine wp_bi ?_; with_reducible refine wp_bnd ?_; with_reducible refine wp_consM ?_; with_reducible refine wp_getv (by with_unfolding_all rfl) ?_; with_reducible refine wp_consM ?_; with_reducible refine wp_ret ?_; with_reducible refine wp_ret ?_; with_reducible refine wp_isi_f (by decide) (by with_unfolding_all rfl) (by decide) ?_; with_reducible refine wp_bnd ?_; with_reducible refine wp_consM ?_; with_reducible refine wp_getv (by with_unfolding_all rfl) ?_; with_reducible refine wp_consM ?_; with_reducible refine wp_ret ?_; with_reducible refine wp_ret ?_; with_reducible refine wp_isi_f (by decide) (by with_unfolding_all rfl) (by decide) ?_; with_reducible refine wp_neB ?_; with_reducible refine asQ_bl ?_; with_reducible refine if_ndp rfl ?_; with_reducible refine wp_ret ?_; with_reducible refine sqQ_nx ?_; with_reducible refine wp_rtM ?_; with_reducible refine wp_andV ?_; with_reducible refine wp_bi ?_; with_reducible refine wp_bnd ?_; with_reducible refine wp_consM ?_; with_reducible refine wp_getv (by with_unfolding_all rfl) ?_; with_reducible refine wp_ret ?_; with_reducible refine wp_lenL ?_; with_reducible refine wp_bnd ?_; with_reducible refine wp_consM ?_; with_reducible refine wp_getv (by with_unfolding_all rfl) ?_; with_reducible refine wp_ret ?_; with_reducible refine wp_lenL ?_; with_reducible refine wp_eqI ?_; with_reducible refine asQ_bl ?_; with_reducible refine if_dp rfl ?_; with_reducible refine wp_bnd ?_; with_reducible refine wp_consM ?_; with_reducible refine wp_lcM ?_; with_reducible refine wp_bnd ?_; with_reducible refine wp_consM ?_; with_reducible refine wp_getv (by with_unfolding_all rfl) ?_; with_reducible refine wp_consM ?_; with_reducible refine wp_getv (by with_unfolding_all rfl) ?_; with_reducible refine wp_ret ?_; with_reducible refine wp_zipL ?_)
      refine ⟨by rw [zipD_same, List.length_map]; exact hd.1, ?_⟩
      exact seq .non xs hd.2 _ _ rfl h
theorem Pl_fr (k : Nat) (q : Rat) : Pl (k + 2) (fr q) := ⟨show 2 ≤ lim by decide, fun x hx => by
  simp only [List.mem_cons, List.not_mem_nil, or_false] at hx
  rcases hx with rfl | rfl <;> trivial⟩
theorem pl12 (xs : List Rat) (h : xs.length ≤ lim) : Pl 12 (.lst (xs.map fr)) := ⟨by rw [List.length_map]; exact h, fun x hx => by
  obtain ⟨q, _, rfl⟩ := List.mem_map.mp hx
  exact Pl_fr 9 q⟩
theorem Pl.lst {k : Nat} {xs : List D} (h : xs.length ≤ lim) (hx : ∀ x ∈ xs, Pl k x) : Pl (k + 1) (.lst xs) := ⟨h, hx⟩
theorem Pl.tup {k : Nat} {xs : List D} (h : xs.length ≤ lim) (hx : ∀ x ∈ xs, Pl k x) : Pl (k + 1) (.tup xs) := ⟨h, hx⟩
/-! a drawn fraction -/
theorem wp_lfrac {n b c : Nat} {S : Sto} {below : Bool} {Q : D → Sto → Prop} (hb : BoxAt S b c) (hc : c ≤ 2 ^ 39) (hn : Bg n) (h : ∀ (q : Rat) S', Sz 140 q → (below = false → 0 ≤ q) → BoxAt S' b (c + 5) → Q (fr q) S') : wp (f__law_frac n [.loc b, .bl below]) S Q := by
  show wp (finR (m__law_frac n [some (.loc b), some (.bl below), none, none, none])) S Q
  unfold m__law_frac
  have hc' : c ≤ 549755813888 := hc
  (with_reducible refine wp_finR ?_; with_reducible refine wp_sq ?_; with_reducible refine wp_par ?_; with_reducible refine wp_bnd ?_; with_reducible refine wp_consM ?_; with_reducible refine wp_getv (by with_unfolding_all rfl) ?_; with_reducible refine wp_consM ?_; with_reducible refine wp_ret ?_; with_reducible refine wp_ret ?_)
  refine wp_take hb (by omega) (by decide) (by decide) fun v1 c1 v10 v11 hb1 => ?_
  (with_reducible refine wp_bi ?_; with_reducible refine wp_ret ?_; with_reducible refine wp_bi ?_; with_reducible refine wp_bi ?_; with_reducible refine wp_ret ?_; with_reducible refine wp_bnd ?_; with_reducible refine wp_consM ?_; with_reducible refine wp_getv (by with_unfolding_all rfl) ?_; with_reducible refine wp_consM ?_; with_reducible refine wp_ret ?_; with_reducible refine wp_ret ?_)
  refine wp_take hb1 (by omega) (by decide) (by decide) fun v2 c2 v20 v21 hb2 => ?_
  (with_reducible refine wp_mul (lit_mul (by decide)) ?_; with_reducible refine wp_bnd ?_; with_reducible refine wp_consM ?_; with_reducible refine wp_getv (by with_unfolding_all rfl) ?_; with_reducible refine wp_ret ?_; with_reducible refine wp_intXB ?_; with_reducible refine wp_mul (b01 _) ?_; with_reducible refine wp_sub ?_; with_reducible refine sqQ_nx ?_; with_reducible refine wp_sq ?_; with_reducible refine wp_ifS ?_; with_reducible refine wp_tst ?_; with_reducible refine wp_bi ?_; with_reducible refine wp_getv (by with_unfolding_all rfl) ?_; with_reducible refine wp_ret ?_; with_reducible refine wp_eqI ?_; with_reducible refine asQ_bl ?_)
  try with_reducible refine wp_mul (lit_mul (by decide)) ?_
  skip
  try with_reducible refine wp_mul (b01 _) ?_
  skip
  have hs : (1 - 2 * v2 * (if below = true then 1 else 0)).natAbs ≤ 1 := by
    have : v2 = 0 ∨ v2 = 1 := by omega
    rcases this with rfl | rfl <;> cases below <;> decide
  have hs2 : below = false → 1 - 2 * v2 * (if below = true then 1 else 0) = 1 := by intro e; subst e; simp
  generalize (1 - 2 * v2 * (if below = true then 1 else 0)) = s at hs hs2
  have hsz : s.natAbs < 2 ^ 1 := by omega
  refine if_ds (fun h0 => ?_) (fun h0 => ?_)
  · (with_reducible refine wp_rtM ?_; with_reducible refine wp_tupM ?_; with_reducible refine wp_consM ?_; with_reducible refine wp_bi ?_; with_reducible refine wp_bnd ?_; with_reducible refine wp_consM ?_; with_reducible refine wp_getv (by with_unfolding_all rfl) ?_; with_reducible refine wp_consM ?_; with_reducible refine wp_ret ?_; with_reducible refine wp_ret ?_)
    refine wp_take hb2 (by omega) (by decide) (by decide) fun v3 c3 v30 v31 hb3 => ?_
    have h3 : v3.natAbs < 2 ^ 2 := by omega
    (with_reducible refine wp_getv (by with_unfolding_all rfl) ?_; with_reducible refine wp_mul (MulOk.of (by assumption) (by assumption) (by decide)) ?_; with_reducible refine wp_consM ?_; with_reducible refine wp_ret ?_; with_reducible refine wp_ret ?_; with_reducible refine lim_and (by with_unfolding_all exact of_decide_eq_true (Eq.refl true)) ?_; with_reducible refine sqQ_rt ?_; with_reducible refine finQ_rt ?_)
    try with_reducible refine wp_mul (MulOk.of h3 hsz (by decide)) ?_
    skip
    rw [fr_int]
    refine h _ _ (Sz.int (pow_mono (mul_lt h3 hsz) (by decide)) (by decide)) (fun e => ?_) (hb3.mono (by omega))
    rw [hs2 e, Int.mul_one]
    exact Rat.num_nonneg.mp v30
  · (with_reducible refine wp_ret ?_; with_reducible refine sqQ_nx ?_; with_reducible refine wp_sq ?_; with_reducible refine wp_asgN ?_; with_reducible refine wp_bi ?_; with_reducible refine wp_lstM ?_; with_reducible refine wp_consM ?_; with_reducible refine wp_ret ?_; with_reducible refine wp_consM ?_; with_reducible refine wp_ret ?_; with_reducible refine wp_consM ?_; with_reducible refine wp_bi ?_; with_reducible refine wp_ret ?_; with_reducible refine wp_ret ?_; (with_reducible refine wp_powE (by decide) ?_; intro r hr; (simp only [Int.reduceToNat, Int.reducePow] at hr); subst hr); with_reducible refine wp_consM ?_; with_reducible refine wp_bi ?_; with_reducible refine wp_bi ?_; with_reducible refine wp_ret ?_; with_reducible refine wp_ret ?_; (with_reducible refine wp_powE (by decide) ?_; intro r hr; (simp only [Int.reduceToNat, Int.reducePow] at hr); subst hr); with_reducible refine wp_ret ?_; with_reducible refine wp_sub ?_; with_reducible refine wp_ret ?_; with_reducible refine lim_and (by with_unfolding_all exact of_decide_eq_true (Eq.refl true)) ?_; with_reducible refine wp_bi ?_; with_reducible refine wp_getv (by with_unfolding_all rfl) ?_; with_reducible refine wp_ret ?_; with_reducible refine wp_sub ?_)
    obtain ⟨d, hd, m, rfl, m0, m1⟩ := at_all (P := fun d => ∃ m : Int, d = .int m ∧ 0 < m ∧ m ≤ 10000000000000000000000000000000000000000) (xs := [.int 12, .int 1000, .int 100000000000000000000, .int (10000000000000000000000000000000000000000 - 100)]) (v := v1 - 1) (by
      intro d hd
      simp only [List.mem_cons, List.not_mem_nil, or_false] at hd
      rcases hd with rfl | rfl | rfl | rfl <;> exact ⟨_, rfl, by decide, by decide⟩) (by omega) (by show _ < (4 : Int); omega)
    refine wp_ixL hd ?_
    (with_reducible refine sqQ_nx ?_; with_reducible refine wp_rtM ?_; with_reducible refine wp_bnd ?_; with_reducible refine wp_consM ?_; with_reducible refine wp_bi ?_; with_reducible refine wp_bi ?_; with_reducible refine wp_bnd ?_; with_reducible refine wp_consM ?_; with_reducible refine wp_getv (by with_unfolding_all rfl) ?_; with_reducible refine wp_consM ?_; with_reducible refine wp_getv (by with_unfolding_all rfl) ?_; with_reducible refine wp_ret ?_)
    refine wp_take hb2 (by omega) m0 (by omega) fun v3 c3 v30 v31 hb3 => ?_
    (with_reducible refine wp_bnd ?_; with_reducible refine wp_consM ?_; with_reducible refine wp_getv (by with_unfolding_all rfl) ?_; with_reducible refine wp_consM ?_; with_reducible refine wp_ret ?_; with_reducible refine wp_ret ?_)
    refine wp_take hb3 (by omega) (by decide) (by decide) fun v4 c4 v40 v41 hb4 => ?_
    have h3 : (v3 + v4).natAbs < 2 ^ 134 := by omega
    (with_reducible refine wp_addI ?_; with_reducible refine wp_getv (by with_unfolding_all rfl) ?_; with_reducible refine wp_mul (MulOk.of (by assumption) (by assumption) (by decide)) ?_; with_reducible refine wp_consM ?_; with_reducible refine wp_bi ?_; with_reducible refine wp_ret ?_; with_reducible refine wp_bnd ?_; with_reducible refine wp_consM ?_; with_reducible refine wp_getv (by with_unfolding_all rfl) ?_; with_reducible refine wp_consM ?_; with_reducible refine wp_getv (by with_unfolding_all rfl) ?_; with_reducible refine wp_ret ?_)
    try with_reducible refine wp_mul (MulOk.of h3 hsz (by decide)) ?_
    skip
    refine wp_take hb4 (by omega) m0 (by omega) fun v5 c5 v50 v51 hb5 => ?_
    (with_reducible refine wp_addI ?_; with_reducible refine wp_ret ?_)
    have h5 : (1 + v5).natAbs < 2 ^ 140 := by omega
    refine wp_low (k := 140) (by omega) h5 (by decide) hn ?_
    with_reducible refine finQ_rt ?_
    refine h _ _ (Sz.of (by omega) (pow_mono (mul_lt h3 hsz) (by decide)) h5) (fun e => ?_) hb5
    rw [hs2 e, Int.mul_one]
    exact Rat.divInt_nonneg (by omega) (by omega)
theorem wp_plain_numL {n a : Nat} {S : Sto} {Q : D → Sto → Prop} (ha : a < 10 ^ 40) (h : Q (.int a) S) : wp (f_plain_number n [.str (sT (numL a)), .int 40]) S Q := by
  show wp (finR (m_plain_number n [some (.str (sT (numL a))), some (.int 40), none, none])) S Q
  unfold m_plain_number
  have l1 := numL_pos_len a
  have l2 := numL_len40 ha
  have hlim : (sT (numL a)).length ≤ lim := by rw [sT_len]; exact Nat.le_trans l2 (by decide)
  (with_reducible refine wp_finR ?_; with_reducible refine wp_sq ?_; with_reducible refine wp_ifS ?_; with_reducible refine wp_orM ?_; with_reducible refine wp_notM ?_; with_reducible refine wp_tst ?_; with_reducible refine wp_ch2 ?_; with_reducible refine wp_ret ?_; with_reducible refine wp_bnd ?_; with_reducible refine wp_consM ?_; with_reducible refine wp_getv (by with_unfolding_all rfl) ?_; with_reducible refine wp_ret ?_)
  refine wp_lenS hlim ?_
  rw [sT_len]
  (with_reducible refine wp_le ?_; with_reducible refine asQ_bl ?_)
  refine if_dp (by omega) ?_
  (with_reducible refine wp_getv (by with_unfolding_all rfl) ?_; with_reducible refine wp_le ?_; with_reducible refine asQ_bl ?_)
  refine if_ndp (by omega) ?_
  (with_reducible refine wp_notM ?_; with_reducible refine wp_tst ?_; with_reducible refine wp_bnd ?_; with_reducible refine wp_consM ?_; with_reducible refine wp_lcM ?_; with_reducible refine wp_bnd ?_; with_reducible refine wp_getv (by with_unfolding_all rfl) ?_; with_reducible refine wp_signs ?_)
  refine ⟨by show (List.map _ _).length ≤ _; rw [List.length_map]; exact Nat.le_trans l2 (by decide), ?_⟩
  refine wp_compMap (fun _ => .bl true) (fun d hd => ?_) ?_
  · obtain ⟨c, hc, rfl⟩ := List.mem_map.mp hd
    (with_reducible refine wp_gN ?_; with_reducible refine wp_bi ?_; with_reducible refine wp_getv (by with_unfolding_all rfl) ?_; with_reducible refine wp_ret ?_)
    refine wp_inS ?_
    rw [decide_eq_true (show c ∈ ("0123456789" : Str).cps.toList from numL_mem hc)]
    exact ⟨rfl, rfl⟩
  with_reducible refine wp_ret ?_
  refine wp_all (bools_map (fun _ => true) _) ?_
  rw [show ((List.map (fun _ => true) (charsD (sT (numL a)))).all id) = true by simp]
  (with_reducible refine asQ_bl ?_; with_reducible refine if_nt ?_; with_reducible refine wp_ret ?_; with_reducible refine sqQ_nx ?_; with_reducible refine wp_sq ?_; with_reducible refine wp_ifS ?_; with_reducible refine wp_andM ?_; with_reducible refine wp_tst ?_; with_reducible refine wp_bi ?_; with_reducible refine wp_bi ?_; with_reducible refine wp_getv (by with_unfolding_all rfl) ?_; with_reducible refine wp_ret ?_)
  have e0 : ("0" : Str) = sT [48] := rfl
  have tail : wp (intX [.str (sT (numL a))]) S Q := wp_intXS (int_numL ha) (by rw [sT_len]; omega) h
  obtain ⟨c, t, e, c1, c2⟩ := numL_head (n := a)
  refine wp_ixS (c := c) hlim (by rw [show (sT (numL a)).cps.toList = numL a from rfl, e]; exact atI_nat (j := 0) rfl) ?_
  with_reducible refine wp_ret ?_
  rw [e0]
  refine wp_eqS (a := sT [c]) (b := sT [48]) (StrO_sT (by intro x hx; rw [List.mem_singleton.mp hx]; omega)) (StrO_sT (by intro x hx; rw [List.mem_singleton.mp hx]; decide)) ?_
  rw [sT_beq]
  with_reducible refine asQ_bl ?_
  refine if_ds (fun h1 => ?_) (fun h1 => ?_)
  · have c48 : c = 48 := by simpa using h1
    have a0 : a = 0 := by
      rcases Nat.eq_zero_or_pos a with h0 | h0
      · exact h0
      · exact absurd (by rw [e, c48]; rfl) (numL_pos_head h0)
    (with_reducible refine wp_tst ?_; with_reducible refine wp_bi ?_; with_reducible refine wp_getv (by with_unfolding_all rfl) ?_; with_reducible refine wp_ret ?_)
    refine wp_neS (a := sT (numL a)) (b := sT [48]) (StrO_sT numL_sm) (StrO_sT (by intro x hx; rw [List.mem_singleton.mp hx]; decide)) ?_
    rw [a0, numL_zero, sT_beq, decide_eq_true rfl]
    rw [a0, numL_zero] at tail
    (with_reducible refine asQ_bl ?_; with_reducible refine if_nt ?_; with_reducible refine wp_ret ?_; with_reducible refine sqQ_nx ?_; with_reducible refine wp_rtM ?_; with_reducible refine wp_bnd ?_; with_reducible refine wp_consM ?_; with_reducible refine wp_getv (by with_unfolding_all rfl) ?_; with_reducible refine wp_ret ?_)
    exact tail
  · (with_reducible refine if_ff ?_; with_reducible refine wp_ret ?_; with_reducible refine sqQ_nx ?_; with_reducible refine wp_rtM ?_; with_reducible refine wp_bnd ?_; with_reducible refine wp_consM ?_; with_reducible refine wp_getv (by with_unfolding_all rfl) ?_; with_reducible refine wp_ret ?_)
    exact tail
theorem log_lt {i : Int} {k : Nat} (h : i.natAbs < 2 ^ k) (hk : k ≤ 1920) (h0 : 0 < k) : i.natAbs.log2 < 1920 := by
  by_cases e : i.natAbs = 0
  · rw [e]; decide
  · exact Nat.lt_of_lt_of_le ((Nat.log2_lt e).mpr h) hk
theorem wp_frac_text {n k : Nat} {q : Rat} {S : Sto} {Q : D → Sto → Prop} (hq : Sz k q) (hk : k ≤ 1000) (h0 : 0 < k) (h : Q (.str (fT q)) S) : wp (f_frac_text n [fr q]) S Q := by
  show wp (finR (m_frac_text n [some (fr q), none, none])) S Q
  unfold m_frac_text
  have hl : ∀ i : Int, i.natAbs < 2 ^ k → (nL i).length ≤ 303 := by
    intro i hi
    have h1 : i.natAbs < 10 ^ 302 := Nat.lt_of_lt_of_le (pow_mono hi hk) (by decide)
    have := numL_len (n := i.natAbs) (by decide) h1
    unfold nL
    rw [List.length_append]
    split
    · show 1 + _ ≤ _; omega
    · show 0 + _ ≤ _; omega
  have l1 := hl _ hq.1
  have l2 := hl _ hq.dn
  have en : nL (q.den : Int) = numL q.den := by rw [nL_nn (by omega), Int.natAbs_natCast]
  rw [en] at l2
  (with_reducible refine wp_finR ?_; with_reducible refine wp_sq ?_; with_reducible refine wp_asgG ?_; with_reducible refine wp_getv (by with_unfolding_all rfl) ?_; with_reducible refine wp_gTf ?_; with_reducible refine wp_gsC ?_; with_reducible refine wp_gN ?_; with_reducible refine wp_gsC ?_; with_reducible refine wp_gN ?_; with_reducible refine wp_gsN ?_; with_reducible refine sqQ_nx ?_; with_reducible refine wp_rtM ?_; with_reducible refine wp_bi ?_; with_reducible refine wp_bnd ?_; with_reducible refine wp_consM ?_; with_reducible refine wp_getv (by with_unfolding_all rfl) ?_; with_reducible refine wp_ret ?_)
  refine wp_strI (log_lt hq.1 (by omega) h0) ?_
  (with_reducible refine wp_ifM ?_; with_reducible refine wp_tst ?_; with_reducible refine wp_bi ?_; with_reducible refine wp_getv (by with_unfolding_all rfl) ?_; with_reducible refine wp_ret ?_; with_reducible refine wp_eqI ?_; with_reducible refine asQ_bl ?_)
  refine if_ds (fun h1 => ?_) (fun h1 => ?_)
  · with_reducible refine wp_ret ?_
    rw [str_num, show ("" : Str) = sT [] from rfl]
    refine wp_addS (by rw [sT_len, sT_len]; exact Nat.le_trans l1 (by decide)) ?_
    with_reducible refine finQ_rt ?_
    rw [sT_app]
    unfold fT at h
    rw [if_pos (by omega)] at h
    exact h
  · (with_reducible refine wp_bi ?_; with_reducible refine wp_ret ?_; with_reducible refine wp_bnd ?_; with_reducible refine wp_consM ?_; with_reducible refine wp_getv (by with_unfolding_all rfl) ?_; with_reducible refine wp_ret ?_)
    refine wp_strI (log_lt hq.dn (by omega) h0) ?_
    rw [str_num, str_num, show ("/" : Str) = sT [47] from rfl, en]
    refine wp_addS (by rw [sT_len, sT_len]; exact Nat.le_trans (Nat.add_le_add (Nat.le_refl 1) l2) (by decide)) ?_
    skip
    rw [sT_app]
    refine wp_addS (by rw [sT_len, sT_len, List.length_append]; exact Nat.le_trans (Nat.add_le_add l1 (Nat.add_le_add (Nat.le_refl 1) l2)) (by decide)) ?_
    with_reducible refine finQ_rt ?_
    rw [sT_app]
    unfold fT at h
    rw [if_neg (by omega)] at h
    exact h
theorem wp_signed_nL {n : Nat} {i : Int} {S : Sto} {Q : D → Sto → Prop} (hi : i.natAbs < 10 ^ 40) (h : Q (.int i) S) : wp (f_signed_number n [.str (sT (nL i))]) S Q := by
  show wp (finR (m_signed_number n [some (.str (sT (nL i))), none])) S Q
  unfold m_signed_number
  have l2 := numL_len40 hi
  have hl : (nL i).length ≤ 41 := by
    unfold nL
    rw [List.length_append]
    split
    · show 1 + _ ≤ _; omega
    · show 0 + _ ≤ _; omega
  have hlim : (sT (nL i)).length ≤ lim := by rw [sT_len]; exact Nat.le_trans hl (by decide)
  (with_reducible refine wp_finR ?_; with_reducible refine wp_sq ?_; with_reducible refine wp_ifS ?_; with_reducible refine wp_tst ?_; with_reducible refine wp_bi ?_; with_reducible refine wp_sliceM ?_; with_reducible refine wp_getv (by with_unfolding_all rfl) ?_; with_reducible refine wp_noP ?_)
  refine ⟨none, rfl, wp_somP ?_⟩
  with_reducible refine wp_ret ?_
  refine ⟨1, rfl, ?_⟩
  refine wp_cutS rfl rfl hlim ?_
  rw [cutS_sT, show ("-" : Str) = sT [45] from rfl]
  obtain ⟨c, t, e, c1, c2⟩ := numL_head (n := i.natAbs)
  by_cases h0 : 0 ≤ i
  · have e1 : nL i = c :: t := by rw [nL_nn h0, e]
    have e2 : ((nL i).drop (HT.sIx (nL i).length 0 none)).take (HT.sIx (nL i).length (nL i).length (some 1) - HT.sIx (nL i).length 0 none) = [c] := by
      rw [e1]; simp [HT.sIx]
    rw [e2]
    with_reducible refine wp_ret ?_
    refine wp_neS (StrO_sT (by intro x hx; rw [List.mem_singleton.mp hx]; omega)) (StrO_sT (by intro x hx; rw [List.mem_singleton.mp hx]; decide)) ?_
    rw [sT_beq, decide_eq_false (by simp; omega)]
    (with_reducible refine asQ_bl ?_; with_reducible refine if_nf ?_; with_reducible refine wp_rtM ?_; with_reducible refine wp_bnd ?_; with_reducible refine wp_consM ?_; with_reducible refine wp_getv (by with_unfolding_all rfl) ?_; with_reducible refine wp_consM ?_; with_reducible refine wp_ret ?_; with_reducible refine wp_ret ?_)
    rw [nL_nn h0]
    refine wp_plain_numL hi ?_
    rw [show ((i.natAbs : Nat) : Int) = i by omega]
    (with_reducible refine sqQ_rt ?_; with_reducible refine finQ_rt ?_)
    exact h
  · have e1 : nL i = 45 :: numL i.natAbs := nL_neg (by omega)
    have e2 : ((nL i).drop (HT.sIx (nL i).length 0 none)).take (HT.sIx (nL i).length (nL i).length (some 1) - HT.sIx (nL i).length 0 none) = [45] := by
      rw [e1]; simp [HT.sIx]
    rw [e2]
    with_reducible refine wp_ret ?_
    refine wp_neS (StrO_sT (by intro x hx; rw [List.mem_singleton.mp hx]; decide)) (StrO_sT (by intro x hx; rw [List.mem_singleton.mp hx]; decide)) ?_
    rw [sT_beq, decide_eq_true rfl]
    (with_reducible refine asQ_bl ?_; with_reducible refine if_nt ?_; with_reducible refine wp_ret ?_; with_reducible refine sqQ_nx ?_; with_reducible refine wp_sq ?_; with_reducible refine wp_asgN ?_; with_reducible refine wp_bnd ?_; with_reducible refine wp_consM ?_; with_reducible refine wp_sliceM ?_; with_reducible refine wp_getv (by with_unfolding_all rfl) ?_)
    refine wp_somP ?_
    with_reducible refine wp_ret ?_
    refine ⟨1, rfl, some 1, rfl, ?_⟩
    with_reducible refine wp_noP ?_
    refine wp_cutS rfl rfl hlim ?_
    have e3 : ((nL i).drop (HT.sIx (nL i).length 0 (some 1))).take (HT.sIx (nL i).length (nL i).length none - HT.sIx (nL i).length 0 (some 1)) = numL i.natAbs := by
      rw [e1]; simp [HT.sIx]
    rw [cutS_sT, e3]
    (with_reducible refine wp_consM ?_; with_reducible refine wp_ret ?_; with_reducible refine wp_ret ?_)
    refine wp_plain_numL hi ?_
    (with_reducible refine sqQ_nx ?_; with_reducible refine wp_rtM ?_; with_reducible refine wp_ifM ?_; with_reducible refine wp_orM ?_; with_reducible refine wp_tst ?_; with_reducible refine wp_bi ?_; with_reducible refine wp_getv (by with_unfolding_all rfl) ?_; with_reducible refine wp_ret ?_; with_reducible refine wp_isNI ?_; with_reducible refine asQ_bl ?_; with_reducible refine if_ff ?_; with_reducible refine wp_tst ?_; with_reducible refine wp_bi ?_; with_reducible refine wp_getv (by with_unfolding_all rfl) ?_; with_reducible refine wp_ret ?_; with_reducible refine wp_eqI ?_; with_reducible refine asQ_bl ?_)
    refine if_dn (by omega) ?_
    (with_reducible refine wp_bnd ?_; with_reducible refine wp_getv (by with_unfolding_all rfl) ?_; with_reducible refine wp_neg ?_; with_reducible refine finQ_rt ?_)
    rw [show -((i.natAbs : Nat) : Int) = i by omega]
    exact h
theorem split_fT (q : Rat) : Txt.split (fT q) (sT [47]) = if q.den = 1 then [sT (nL q.num)] else [sT (nL q.num), sT (numL q.den)] := by
  have n47 : ∀ i : Int, 47 ∉ nL i := by
    intro i hm
    unfold nL at hm
    rcases List.mem_append.mp hm with hm | hm
    · split at hm
      · exact absurd (List.mem_singleton.mp hm) (by decide)
      · cases hm
    · exact TL.numL_free (by decide) hm
  have hk : (sT [47]).cps.all (· < 256) = true := by simp [sT]
  by_cases h : q.den = 1
  · rw [if_pos h]
    have e : fT q = Txt.join (sT [47]) [sT (nL q.num)] := by
      unfold fT
      rw [if_pos h, List.append_nil, TL.join_eq]
      exact (TL.ext_tl (by rw [TL.tl_join]; rfl)).symm
    rw [e]
    exact TL.split_join (s := 47) (S := []) rfl hk (by simp) (by intro p hp; rw [List.mem_singleton.mp hp]; exact n47 _)
  · rw [if_neg h]
    have e : fT q = Txt.join (sT [47]) [sT (nL q.num), sT (numL q.den)] := by
      unfold fT
      rw [if_neg h, TL.join_eq]
      exact (TL.ext_tl (by rw [TL.tl_join]; rfl)).symm
    rw [e]
    refine TL.split_join (s := 47) (S := []) rfl hk (by simp) (by
      intro p hp
      simp only [List.mem_cons, List.not_mem_nil, or_false] at hp
      rcases hp with rfl | rfl
      · exact n47 _
      · exact TL.numL_free (by decide))
theorem kn_fr {n : Nat} {q : Rat} (h : q.den < n) : Kn n (fr q) := ⟨fun x hx => by
    simp only [List.mem_cons, List.not_mem_nil, or_false] at hx
    rcases hx with rfl | rfl <;> trivial, fun t b e => by cases e; simpa using h⟩
theorem isFr_fr (q : Rat) : isFr (fr q) = true := by
  show (decide (0 < (q.den : Int)) && decide (q.num.gcd (q.den : Int) = 1)) = true
  have h1 : 0 < (q.den : Int) := by have := q.den_pos; omega
  have h2 : q.num.gcd (q.den : Int) = 1 := q.reduced
  rw [decide_eq_true h1, decide_eq_true h2]
  rfl
theorem fT_len {q : Rat} (h1 : q.num.natAbs < 10 ^ 40) (h2 : q.den < 10 ^ 40) : (fT q).length ≤ 100 := by
  unfold fT nL
  rw [sT_len, List.length_append, List.length_append]
  have a := numL_len40 h1
  have b := numL_len40 h2
  split <;> split <;> simp only [List.length_cons, List.length_nil] <;> omega
theorem wp_written_frac {n : Nat} {q : Rat} {S : Sto} {Q : D → Sto → Prop} (h1 : q.num.natAbs < 10 ^ 40) (h2 : q.den < 10 ^ 40) (hn : Bg n) (h : Q (fr q) S) : wp (f_written_frac n [.str (fT q)]) S Q := by
  show wp (finR (m_written_frac n [some (.str (fT q)), none, none, none])) S Q
  unfold m_written_frac
  have hl := fT_len h1 h2
  (with_reducible refine wp_finR ?_; with_reducible refine wp_sq ?_; with_reducible refine wp_asgN ?_; with_reducible refine wp_mtC ?_; with_reducible refine wp_getv (by with_unfolding_all rfl) ?_)
  refine ⟨rfl, ?_⟩
  (with_reducible refine wp_consM ?_; with_reducible refine wp_ret ?_; with_reducible refine wp_ret ?_)
  rw [show ("/" : Str) = sT [47] from rfl]
  refine wp_split (by decide) (Nat.le_trans (Nat.add_le_add_right hl 2) (by decide)) ?_
  rw [split_fT]
  by_cases hd : q.den = 1
  · rw [if_pos hd]
    simp only [List.map_cons, List.map_nil]
    (with_reducible refine sqQ_nx ?_; with_reducible refine wp_sq ?_; with_reducible refine wp_asgN ?_; with_reducible refine wp_bnd ?_; with_reducible refine wp_consM ?_; with_reducible refine wp_bi ?_; with_reducible refine wp_getv (by with_unfolding_all rfl) ?_; with_reducible refine wp_ret ?_; with_reducible refine wp_ixL (by with_unfolding_all rfl) ?_; with_reducible refine wp_ret ?_)
    refine wp_signed_nL h1 ?_
    (with_reducible refine sqQ_nx ?_; with_reducible refine wp_sq ?_; with_reducible refine wp_ifS ?_; with_reducible refine wp_tst ?_; with_reducible refine wp_bi ?_; with_reducible refine wp_bnd ?_; with_reducible refine wp_consM ?_; with_reducible refine wp_getv (by with_unfolding_all rfl) ?_; with_reducible refine wp_ret ?_; with_reducible refine wp_lenL ?_; with_reducible refine wp_ret ?_; with_reducible refine wp_eqI ?_; with_reducible refine asQ_bl ?_; with_reducible refine if_dp rfl ?_; with_reducible refine wp_rtM ?_; with_reducible refine wp_ifM ?_; with_reducible refine wp_tst ?_; with_reducible refine wp_bi ?_; with_reducible refine wp_getv (by with_unfolding_all rfl) ?_; with_reducible refine wp_ret ?_; with_reducible refine wp_isNI ?_; with_reducible refine asQ_bl ?_; with_reducible refine if_ff ?_; with_reducible refine wp_tupM ?_; with_reducible refine wp_consM ?_; with_reducible refine wp_getv (by with_unfolding_all rfl) ?_; with_reducible refine wp_consM ?_; with_reducible refine wp_ret ?_; with_reducible refine wp_ret ?_; with_reducible refine lim_and (by with_unfolding_all exact of_decide_eq_true (Eq.refl true)) ?_; with_reducible refine sqQ_rt ?_; with_reducible refine finQ_rt ?_)
    have e : D.tup [.int q.num, .int 1] = fr q := by unfold fr; rw [hd]; rfl
    rw [e]
    exact h
  · rw [if_neg hd]
    simp only [List.map_cons, List.map_nil]
    (with_reducible refine sqQ_nx ?_; with_reducible refine wp_sq ?_; with_reducible refine wp_asgN ?_; with_reducible refine wp_bnd ?_; with_reducible refine wp_consM ?_; with_reducible refine wp_bi ?_; with_reducible refine wp_getv (by with_unfolding_all rfl) ?_; with_reducible refine wp_ret ?_; with_reducible refine wp_ixL (by with_unfolding_all rfl) ?_; with_reducible refine wp_ret ?_)
    refine wp_signed_nL h1 ?_
    (with_reducible refine sqQ_nx ?_; with_reducible refine wp_sq ?_; with_reducible refine wp_ifS ?_; with_reducible refine wp_tst ?_; with_reducible refine wp_bi ?_; with_reducible refine wp_bnd ?_; with_reducible refine wp_consM ?_; with_reducible refine wp_getv (by with_unfolding_all rfl) ?_; with_reducible refine wp_ret ?_; with_reducible refine wp_lenL ?_; with_reducible refine wp_ret ?_; with_reducible refine wp_eqI ?_; with_reducible refine asQ_bl ?_)
    refine if_dn (show ¬ (2 : Int) = 1 by decide) ?_
    (with_reducible refine wp_ret ?_; with_reducible refine sqQ_nx ?_; with_reducible refine wp_sq ?_; with_reducible refine wp_ifS ?_; with_reducible refine wp_tst ?_; with_reducible refine wp_bi ?_; with_reducible refine wp_bnd ?_; with_reducible refine wp_consM ?_; with_reducible refine wp_getv (by with_unfolding_all rfl) ?_; with_reducible refine wp_ret ?_; with_reducible refine wp_lenL ?_; with_reducible refine wp_ret ?_; with_reducible refine wp_gt ?_; with_reducible refine asQ_bl ?_)
    refine if_dn (show ¬ (2 : Int) < 2 by decide) ?_
    (with_reducible refine wp_ret ?_; with_reducible refine sqQ_nx ?_; with_reducible refine wp_sq ?_; with_reducible refine wp_asgN ?_; with_reducible refine wp_bnd ?_; with_reducible refine wp_consM ?_; with_reducible refine wp_bi ?_; with_reducible refine wp_getv (by with_unfolding_all rfl) ?_; with_reducible refine wp_ret ?_; with_reducible refine wp_ixL (by with_unfolding_all rfl) ?_; with_reducible refine wp_consM ?_; with_reducible refine wp_ret ?_; with_reducible refine wp_ret ?_)
    refine wp_plain_numL h2 ?_
    (with_reducible refine sqQ_nx ?_; with_reducible refine wp_sq ?_; with_reducible refine wp_ifS ?_; with_reducible refine wp_orM ?_; with_reducible refine wp_tst ?_; with_reducible refine wp_bi ?_; with_reducible refine wp_getv (by with_unfolding_all rfl) ?_; with_reducible refine wp_ret ?_; with_reducible refine wp_isNI ?_; with_reducible refine asQ_bl ?_; with_reducible refine if_ff ?_; with_reducible refine wp_orM ?_; with_reducible refine wp_tst ?_; with_reducible refine wp_bi ?_; with_reducible refine wp_getv (by with_unfolding_all rfl) ?_; with_reducible refine wp_ret ?_; with_reducible refine wp_isNI ?_; with_reducible refine asQ_bl ?_; with_reducible refine if_ff ?_; with_reducible refine wp_orM ?_; with_reducible refine wp_tst ?_; with_reducible refine wp_bi ?_; with_reducible refine wp_getv (by with_unfolding_all rfl) ?_; with_reducible refine wp_ret ?_; with_reducible refine wp_eqI ?_; with_reducible refine asQ_bl ?_)
    refine if_dn (by omega) ?_
    (with_reducible refine wp_notM ?_; with_reducible refine wp_tst ?_; with_reducible refine wp_bnd ?_; with_reducible refine wp_consM ?_; with_reducible refine wp_tupM ?_; with_reducible refine wp_consM ?_; with_reducible refine wp_getv (by with_unfolding_all rfl) ?_; with_reducible refine wp_consM ?_; with_reducible refine wp_getv (by with_unfolding_all rfl) ?_; with_reducible refine wp_ret ?_; with_reducible refine lim_and (by with_unfolding_all exact of_decide_eq_true (Eq.refl true)) ?_; with_reducible refine wp_ret ?_)
    rw [tup_fr q]
    refine wp_is_frac (kn_fr (Nat.lt_of_lt_of_le h2 (Nat.le_trans (by decide) hn))) ?_
    rw [isFr_fr]
    (with_reducible refine asQ_bl ?_; with_reducible refine if_nt ?_; with_reducible refine wp_ret ?_; with_reducible refine sqQ_nx ?_; with_reducible refine wp_rtM ?_; with_reducible refine wp_tupM ?_; with_reducible refine wp_consM ?_; with_reducible refine wp_getv (by with_unfolding_all rfl) ?_; with_reducible refine wp_consM ?_; with_reducible refine wp_getv (by with_unfolding_all rfl) ?_; with_reducible refine wp_ret ?_; with_reducible refine lim_and (by with_unfolding_all exact of_decide_eq_true (Eq.refl true)) ?_; with_reducible refine finQ_rt ?_)
    exact h
theorem wp_frac_in {n : Nat} {q : Rat} {S : Sto} {Q : D → Sto → Prop} (h1 : q.num.natAbs < 10 ^ 40) (h2 : q.den < 10 ^ 40) (hn : Bg n) (h : Q (fr q) S) : wp (f_frac_in n [.str (fT q)]) S Q := by
  show wp (finR (m_frac_in n [some (.str (fT q)), none])) S Q
  unfold m_frac_in
  (with_reducible refine wp_finR ?_; with_reducible refine wp_sq ?_; with_reducible refine wp_asgN ?_; with_reducible refine wp_bnd ?_; with_reducible refine wp_consM ?_; with_reducible refine wp_getv (by with_unfolding_all rfl) ?_; with_reducible refine wp_ret ?_)
  refine wp_written_frac h1 h2 hn ?_
  (with_reducible refine sqQ_nx ?_; with_reducible refine wp_sq ?_; with_reducible refine wp_ifS ?_; with_reducible refine wp_tst ?_; with_reducible refine wp_bi ?_; with_reducible refine wp_getv (by with_unfolding_all rfl) ?_; with_reducible refine wp_ret ?_; with_reducible refine wp_isNF ?_; with_reducible refine asQ_bl ?_; with_reducible refine if_ff ?_; with_reducible refine wp_ret ?_; with_reducible refine sqQ_nx ?_; with_reducible refine wp_rtM ?_; with_reducible refine wp_getv (by with_unfolding_all rfl) ?_; with_reducible refine finQ_rt ?_)
  exact h
end R

namespace R
open PySem PySem.Spec PyProof.Rows L2 TL
local macro_rules | `(tactic| walk_at "szk") => `(tactic| first | assumption | decide | omega)
local macro_rules | `(tactic| walk_at "sz") => `(tactic| first
  | assumption
  | exact Sz.zero
  | exact Sz.one
  | exact Sz.add (by walk_at "sz") (by walk_at "sz")
  | exact Sz.sub (by walk_at "sz") (by walk_at "sz")
  | exact Sz.mul (by walk_at "sz") (by walk_at "sz")
  | exact Sz.neg (by walk_at "sz")
  | exact Sz.div (by walk_at "sz") (by walk_at "sz") (by assumption))
/-- top and bottom to forty figures -/
def B40 (q : Rat) : Prop := q.num.natAbs < 10 ^ 40 ∧ q.den < 10 ^ 40
theorem B40.of {t b : Int} (hb0 : b ≠ 0) (ht : t.natAbs < 10 ^ 40) (hb : b.natAbs < 10 ^ 40) : B40 (Rat.divInt t b) := by
  constructor
  · rw [Rat.num_divInt]
    refine Nat.lt_of_le_of_lt ?_ ht
    have e : ((b.sign * t) / ((b.gcd t : Nat) : Int)).natAbs = (b.sign * t).natAbs / (b.gcd t) := by
      rw [Int.natAbs_ediv_of_dvd (Int.dvd_trans (Int.gcd_dvd_right b t) (Int.dvd_mul_left _ _)), Int.natAbs_natCast]
    rw [e, Int.natAbs_mul, Int.natAbs_sign_of_ne_zero hb0, Nat.one_mul]
    exact Nat.div_le_self _ _
  · rw [Rat.den_divInt, if_neg hb0]
    exact Nat.lt_of_le_of_lt (Nat.div_le_self _ _) hb
theorem wp_lfracB {n b c : Nat} {S : Sto} {below : Bool} {Q : D → Sto → Prop} (hb : BoxAt S b c) (hc : c ≤ 2 ^ 39) (hn : Bg n) (h : ∀ (q : Rat) S', Sz 140 q → B40 q → BoxAt S' b (c + 5) → Q (fr q) S') : wp (f__law_frac n [.loc b, .bl below]) S Q := by
  show wp (finR (m__law_frac n [some (.loc b), some (.bl below), none, none, none])) S Q
  unfold m__law_frac
  have hc' : c ≤ 549755813888 := hc
  (with_reducible refine wp_finR ?_; with_reducible refine wp_sq ?_; with_reducible refine wp_par ?_; with_reducible refine wp_bnd ?_; with_reducible refine wp_consM ?_; with_reducible refine wp_getv (by with_unfolding_all rfl) ?_; with_reducible refine wp_consM ?_; with_reducible refine wp_ret ?_; with_reducible refine wp_ret ?_)
  refine wp_take hb (by omega) (by decide) (by decide) fun v1 c1 v10 v11 hb1 => ?_
  (with_reducible refine wp_bi ?_; with_reducible refine wp_ret ?_; with_reducible refine wp_bi ?_; with_reducible refine wp_bi ?_; with_reducible refine wp_ret ?_; with_reducible refine wp_bnd ?_; with_reducible refine wp_consM ?_; with_reducible refine wp_getv (by with_unfolding_all rfl) ?_; with_reducible refine wp_consM ?_; with_reducible refine wp_ret ?_; with_reducible refine wp_ret ?_)
  refine wp_take hb1 (by omega) (by decide) (by decide) fun v2 c2 v20 v21 hb2 => ?_
  (with_reducible refine wp_mul (lit_mul (by decide)) ?_; with_reducible refine wp_bnd ?_; with_reducible refine wp_consM ?_; with_reducible refine wp_getv (by with_unfolding_all rfl) ?_; with_reducible refine wp_ret ?_; with_reducible refine wp_intXB ?_; with_reducible refine wp_mul (b01 _) ?_; with_reducible refine wp_sub ?_; with_reducible refine sqQ_nx ?_; with_reducible refine wp_sq ?_; with_reducible refine wp_ifS ?_; with_reducible refine wp_tst ?_; with_reducible refine wp_bi ?_; with_reducible refine wp_getv (by with_unfolding_all rfl) ?_; with_reducible refine wp_ret ?_; with_reducible refine wp_eqI ?_; with_reducible refine asQ_bl ?_)
  try with_reducible refine wp_mul (lit_mul (by decide)) ?_
  skip
  try with_reducible refine wp_mul (b01 _) ?_
  skip
  have hs : (1 - 2 * v2 * (if below = true then 1 else 0)).natAbs ≤ 1 := by
    have : v2 = 0 ∨ v2 = 1 := by omega
    rcases this with rfl | rfl <;> cases below <;> decide
  have hs2 : below = false → 1 - 2 * v2 * (if below = true then 1 else 0) = 1 := by intro e; subst e; simp
  generalize (1 - 2 * v2 * (if below = true then 1 else 0)) = s at hs hs2
  have hsz : s.natAbs < 2 ^ 1 := by omega
  refine if_ds (fun h0 => ?_) (fun h0 => ?_)
  · (with_reducible refine wp_rtM ?_; with_reducible refine wp_tupM ?_; with_reducible refine wp_consM ?_; with_reducible refine wp_bi ?_; with_reducible refine wp_bnd ?_; with_reducible refine wp_consM ?_; with_reducible refine wp_getv (by with_unfolding_all rfl) ?_; with_reducible refine wp_consM ?_; with_reducible refine wp_ret ?_; with_reducible refine wp_ret ?_)
    refine wp_take hb2 (by omega) (by decide) (by decide) fun v3 c3 v30 v31 hb3 => ?_
    have h3 : v3.natAbs < 2 ^ 2 := by omega
    (with_reducible refine wp_getv (by with_unfolding_all rfl) ?_; with_reducible refine wp_mul (MulOk.of (by assumption) (by assumption) (by decide)) ?_; with_reducible refine wp_consM ?_; with_reducible refine wp_ret ?_; with_reducible refine wp_ret ?_; with_reducible refine lim_and (by with_unfolding_all exact of_decide_eq_true (Eq.refl true)) ?_; with_reducible refine sqQ_rt ?_; with_reducible refine finQ_rt ?_)
    try with_reducible refine wp_mul (MulOk.of h3 hsz (by decide)) ?_
    skip
    rw [fr_int]
    have hm : (v3 * s).natAbs ≤ v3.natAbs * 1 := by rw [Int.natAbs_mul]; exact Nat.mul_le_mul_left _ hs
    exact h _ _ (Sz.int (pow_mono (mul_lt h3 hsz) (by decide)) (by decide)) ⟨show (v3 * s).natAbs < _ by omega, show 1 < _ by decide⟩ (hb3.mono (by omega))
  · (with_reducible refine wp_ret ?_; with_reducible refine sqQ_nx ?_; with_reducible refine wp_sq ?_; with_reducible refine wp_asgN ?_; with_reducible refine wp_bi ?_; with_reducible refine wp_lstM ?_; with_reducible refine wp_consM ?_; with_reducible refine wp_ret ?_; with_reducible refine wp_consM ?_; with_reducible refine wp_ret ?_; with_reducible refine wp_consM ?_; with_reducible refine wp_bi ?_; with_reducible refine wp_ret ?_; with_reducible refine wp_ret ?_; (with_reducible refine wp_powE (by decide) ?_; intro r hr; (simp only [Int.reduceToNat, Int.reducePow] at hr); subst hr); with_reducible refine wp_consM ?_; with_reducible refine wp_bi ?_; with_reducible refine wp_bi ?_; with_reducible refine wp_ret ?_; with_reducible refine wp_ret ?_; (with_reducible refine wp_powE (by decide) ?_; intro r hr; (simp only [Int.reduceToNat, Int.reducePow] at hr); subst hr); with_reducible refine wp_ret ?_; with_reducible refine wp_sub ?_; with_reducible refine wp_ret ?_; with_reducible refine lim_and (by with_unfolding_all exact of_decide_eq_true (Eq.refl true)) ?_; with_reducible refine wp_bi ?_; with_reducible refine wp_getv (by with_unfolding_all rfl) ?_; with_reducible refine wp_ret ?_; with_reducible refine wp_sub ?_)
    obtain ⟨d, hd, m, rfl, m0, m1⟩ := at_all (P := fun d => ∃ m : Int, d = .int m ∧ 0 < m ∧ m ≤ 9999999999999999999999999999999999999900) (xs := [.int 12, .int 1000, .int 100000000000000000000, .int (10000000000000000000000000000000000000000 - 100)]) (v := v1 - 1) (by
      intro d hd
      simp only [List.mem_cons, List.not_mem_nil, or_false] at hd
      rcases hd with rfl | rfl | rfl | rfl <;> exact ⟨_, rfl, by decide, by decide⟩) (by omega) (by show _ < (4 : Int); omega)
    refine wp_ixL hd ?_
    (with_reducible refine sqQ_nx ?_; with_reducible refine wp_rtM ?_; with_reducible refine wp_bnd ?_; with_reducible refine wp_consM ?_; with_reducible refine wp_bi ?_; with_reducible refine wp_bi ?_; with_reducible refine wp_bnd ?_; with_reducible refine wp_consM ?_; with_reducible refine wp_getv (by with_unfolding_all rfl) ?_; with_reducible refine wp_consM ?_; with_reducible refine wp_getv (by with_unfolding_all rfl) ?_; with_reducible refine wp_ret ?_)
    refine wp_take hb2 (by omega) m0 (by omega) fun v3 c3 v30 v31 hb3 => ?_
    (with_reducible refine wp_bnd ?_; with_reducible refine wp_consM ?_; with_reducible refine wp_getv (by with_unfolding_all rfl) ?_; with_reducible refine wp_consM ?_; with_reducible refine wp_ret ?_; with_reducible refine wp_ret ?_)
    refine wp_take hb3 (by omega) (by decide) (by decide) fun v4 c4 v40 v41 hb4 => ?_
    have h3 : (v3 + v4).natAbs < 2 ^ 134 := by omega
    (with_reducible refine wp_addI ?_; with_reducible refine wp_getv (by with_unfolding_all rfl) ?_; with_reducible refine wp_mul (MulOk.of (by assumption) (by assumption) (by decide)) ?_; with_reducible refine wp_consM ?_; with_reducible refine wp_bi ?_; with_reducible refine wp_ret ?_; with_reducible refine wp_bnd ?_; with_reducible refine wp_consM ?_; with_reducible refine wp_getv (by with_unfolding_all rfl) ?_; with_reducible refine wp_consM ?_; with_reducible refine wp_getv (by with_unfolding_all rfl) ?_; with_reducible refine wp_ret ?_)
    try with_reducible refine wp_mul (MulOk.of h3 hsz (by decide)) ?_
    skip
    refine wp_take hb4 (by omega) m0 (by omega) fun v5 c5 v50 v51 hb5 => ?_
    (with_reducible refine wp_addI ?_; with_reducible refine wp_ret ?_)
    have h5 : (1 + v5).natAbs < 2 ^ 140 := by omega
    refine wp_low (k := 140) (by omega) h5 (by decide) hn ?_
    with_reducible refine finQ_rt ?_
    have hm : ((v3 + v4) * s).natAbs ≤ (v3 + v4).natAbs * 1 := by rw [Int.natAbs_mul]; exact Nat.mul_le_mul_left _ hs
    exact h _ _ (Sz.of (by omega) (pow_mono (mul_lt h3 hsz) (by decide)) h5) (B40.of (by omega) (by omega) (by omega)) hb5
theorem numL_split {a : Nat} (h : 0 < a) : numL a = (if a / 10 = 0 then [] else numL (a / 10)) ++ [48 + a % 10] := by
  by_cases h1 : a < 10
  · rw [if_pos (by omega), numL_lt h1, show a % 10 = a by omega]; rfl
  · rw [if_neg (by omega)]; exact numL_step (by omega)
theorem wp_figures {n : Nat} {i : Int} {S : Sto} {Q : D → Sto → Prop} (hi : i.natAbs < 10 ^ 41) (h : Q (.str (sT (nL i))) S) : wp (f__law_figures n [.int i]) S Q := by
  show wp (finR (m__law_figures n [some (.int i), none, none, none])) S Q
  unfold m__law_figures
  (with_reducible refine wp_finR ?_; with_reducible refine wp_sq ?_; with_reducible refine wp_par ?_; with_reducible refine wp_ret ?_; with_reducible refine wp_bnd ?_; with_reducible refine wp_consM ?_; with_reducible refine wp_getv (by with_unfolding_all rfl) ?_; with_reducible refine wp_ret ?_; with_reducible refine wp_abs ?_; with_reducible refine sqQ_nx ?_; with_reducible refine wp_sq ?_; with_reducible refine wp_forS ?_; with_reducible refine wp_bnd ?_; with_reducible refine wp_consM ?_; with_reducible refine wp_ret ?_; with_reducible refine wp_ret ?_)
  rw [abs_nat]
  with_reducible refine wp_range1 (by decide) (by decide) ?_
  rw [show ("" : Str) = sT [] from rfl]
  have gen : ∀ (ds : List D) (t : Nat) (fs : List Nat) (left : Nat) (o3 : Option D), ds = (List.range' t ds.length).map (fun k => .int (k : Nat)) → t + ds.length = 41 → left < 10 ^ ds.length → ((t = 0 ∧ fs = [] ∧ left = i.natAbs) ∨ (0 < t ∧ numL i.natAbs = (if left = 0 then [] else numL left) ++ fs)) → fs.length ≤ t →
      wp (forL (gN 3) (fun ρ => (ifS ρ (orM (tst (bi gtM (getv ρ 2) (ret (.int 0)))) (tst (bi eqM (getv ρ 3) (ret (.int 0))))) (par 1 2 ρ (consM (bi addM (bi ixM (ret (.str "0123456789")) (bi modM (getv ρ 2) (ret (.int 10)))) (getv ρ 1)) (consM (bi fdivM (getv ρ 2) (ret (.int 10))) (ret [])))) (ret (.nx ρ)))) ds [some (.int i), some (.str (sT fs)), some (.int left), o3]) S (sqQ (fun ρ => (rtM ρ (bi addM (bi smulM (ret (.str "-")) (bnd (consM (bi ltM (getv ρ 0) (ret (.int 0))) (ret [])) intX)) (getv ρ 1)))) (finQ Q)) := by
    intro ds
    induction ds with
    | nil =>
      intro t fs left o3 hds ht hleft hcase hfs
      have l0 : left = 0 := by simpa using hleft
      have t41 : t = 41 := by simpa using ht
      have e : numL i.natAbs = fs := by
        rcases hcase with ⟨h0, _⟩ | ⟨_, h1⟩
        · omega
        · rw [h1, if_pos l0]; rfl
      refine wp_forN ?_
      (with_reducible refine sqQ_nx ?_; with_reducible refine wp_rtM ?_; with_reducible refine wp_bi ?_; with_reducible refine wp_bi ?_; with_reducible refine wp_ret ?_; with_reducible refine wp_bnd ?_; with_reducible refine wp_consM ?_; with_reducible refine wp_bi ?_; with_reducible refine wp_getv (by with_unfolding_all rfl) ?_; with_reducible refine wp_ret ?_; with_reducible refine wp_lt ?_; with_reducible refine wp_ret ?_; with_reducible refine wp_intXB ?_)
      have fin : ∀ z : List Nat, z.length ≤ 1 → (z ++ fs = nL i) → wp (addM (.str (sT z)) (.str (sT fs))) S Q := by
        intro z hz hz2
        refine wp_addS (by rw [sT_len, sT_len]; exact Nat.le_trans (Nat.add_le_add hz hfs) (by rw [t41]; decide)) ?_
        rw [sT_app, hz2]
        exact h
      by_cases hneg : i < 0
      · rw [decide_eq_true hneg, if_pos rfl]
        refine wp_smul1 ?_
        with_reducible refine wp_getv (by with_unfolding_all rfl) ?_
        exact fin [45] (by decide) (by rw [nL_neg hneg, e]; rfl)
      · rw [decide_eq_false hneg, if_neg (by decide)]
        refine wp_smul0 ?_
        with_reducible refine wp_getv (by with_unfolding_all rfl) ?_
        exact fin [] (by decide) (by rw [nL_nn (by omega), e]; rfl)
    | cons d ds ih =>
      intro t fs left o3 hds ht hleft hcase hfs
      rw [List.length_cons] at hds ht hleft
      rw [List.range'_succ, List.map_cons] at hds
      have hd : d = .int ((t : Nat) : Int) := (List.cons.inj hds).1
      have hds2 := (List.cons.inj hds).2
      subst hd
      refine wp_forC (wp_gN ?_)
      have mod10 : left % 10 < 10 := Nat.mod_lt _ (by decide)
      have hdiv : left / 10 < 10 ^ ds.length := by
        rw [Nat.pow_succ] at hleft
        omega
      have go : (numL left = (if left / 10 = 0 then [] else numL (left / 10)) ++ [48 + left % 10]) → (numL i.natAbs = numL left ++ fs) → wp (par 1 2 [some (.int i), some (.str (sT fs)), some (.int left), some (.int ((t : Nat) : Int))] (consM (bi addM (bi ixM (ret (.str "0123456789")) (bi modM (getv [some (.int i), some (.str (sT fs)), some (.int left), some (.int ((t : Nat) : Int))] 2) (ret (.int 10)))) (getv [some (.int i), some (.str (sT fs)), some (.int left), some (.int ((t : Nat) : Int))] 1)) (consM (bi fdivM (getv [some (.int i), some (.str (sT fs)), some (.int left), some (.int ((t : Nat) : Int))] 2) (ret (.int 10))) (ret [])))) S (lpQ (forL (gN 3) (fun ρ => (ifS ρ (orM (tst (bi gtM (getv ρ 2) (ret (.int 0)))) (tst (bi eqM (getv ρ 3) (ret (.int 0))))) (par 1 2 ρ (consM (bi addM (bi ixM (ret (.str "0123456789")) (bi modM (getv ρ 2) (ret (.int 10)))) (getv ρ 1)) (consM (bi fdivM (getv ρ 2) (ret (.int 10))) (ret [])))) (ret (.nx ρ)))) ds) (sqQ (fun ρ => (rtM ρ (bi addM (bi smulM (ret (.str "-")) (bnd (consM (bi ltM (getv ρ 0) (ret (.int 0))) (ret [])) intX)) (getv ρ 1)))) (finQ Q))) := by
        intro e1 e2
        (with_reducible refine wp_par ?_; with_reducible refine wp_bi ?_; with_reducible refine wp_bi ?_; with_reducible refine wp_ret ?_; with_reducible refine wp_bi ?_; with_reducible refine wp_getv (by with_unfolding_all rfl) ?_; with_reducible refine wp_ret ?_; with_reducible refine wp_modP (by first | decide | assumption) ?_)
        have em : ((left : Nat) : Int) % 10 = ((left % 10 : Nat) : Int) := by omega
        have ed : ((left : Nat) : Int) / 10 = ((left / 10 : Nat) : Int) := by omega
        rw [em]
        have hat : atI ("0123456789" : Str).cps.toList ((left % 10 : Nat) : Int) = some (48 + left % 10) := by
          generalize left % 10 = r at mod10
          rw [atI_nat (v := 48 + r) ?_]
          have : ∀ r : Nat, r < 10 → ("0123456789" : Str).cps.toList[r]? = some (48 + r) := by decide +kernel
          exact this r mod10
        refine wp_ixS (by decide +kernel) hat ?_
        with_reducible refine wp_getv (by with_unfolding_all rfl) ?_
        refine wp_addS (i := sT [48 + left % 10]) (by rw [sT_len, sT_len]; exact Nat.le_trans (Nat.add_le_add (Nat.le_refl 1) hfs) (Nat.le_trans (show 1 + t ≤ 42 by omega) (by decide))) ?_
        rw [sT_app]
        (with_reducible refine wp_bi ?_; with_reducible refine wp_getv (by with_unfolding_all rfl) ?_; with_reducible refine wp_ret ?_; with_reducible refine wp_fdivP (by decide) (by decide) ?_; with_reducible refine lpQ_nx ?_)
        rw [ed]
        refine ih (t + 1) ((48 + left % 10) :: fs) (left / 10) _ hds2 (by omega) hdiv (.inr ⟨by omega, ?_⟩) (by rw [List.length_cons]; omega)
        rw [e2, e1, List.append_assoc]
        rfl
      (with_reducible refine wp_ifS ?_; with_reducible refine wp_orM ?_; with_reducible refine wp_tst ?_; with_reducible refine wp_bi ?_; with_reducible refine wp_getv (by with_unfolding_all rfl) ?_; with_reducible refine wp_ret ?_; with_reducible refine wp_gt ?_; with_reducible refine asQ_bl ?_)
      refine if_ds (fun h1 => ?_) (fun h1 => ?_)
      · have lp : 0 < left := by omega
        refine go (numL_split lp) ?_
        rcases hcase with ⟨_, h2, h3⟩ | ⟨_, h2⟩
        · rw [h2, h3, List.append_nil]
        · rw [h2, if_neg (by omega)]
      · have l0 : left = 0 := by omega
        subst l0
        (with_reducible refine wp_tst ?_; with_reducible refine wp_bi ?_; with_reducible refine wp_getv (by with_unfolding_all rfl) ?_; with_reducible refine wp_ret ?_; with_reducible refine wp_eqI ?_; with_reducible refine asQ_bl ?_)
        refine if_ds (fun h2 => ?_) (fun h2 => ?_)
        · have t0 : t = 0 := by omega
          subst t0
          rcases hcase with ⟨_, h3, h4⟩ | ⟨h3, _⟩
          · refine go (by rw [numL_zero]; rfl) ?_
            rw [h3, ← h4, List.append_nil]
          · omega
        · (with_reducible refine wp_ret ?_; with_reducible refine lpQ_nx ?_)
          refine ih (t + 1) fs 0 _ hds2 (by omega) hdiv (.inr ⟨by omega, ?_⟩) (by omega)
          rcases hcase with ⟨h3, _⟩ | ⟨_, h3⟩
          · omega
          · exact h3
  have hr : rangeD 0 (41 : Int).toNat = (List.range' 0 41).map (fun k => .int (k : Nat)) := by
    unfold rangeD
    rw [List.range_eq_range']
    simp
  rw [hr]
  exact gen _ 0 [] i.natAbs _ (by rw [List.length_map, List.length_range']) (by rw [List.length_map, List.length_range']) (by rw [List.length_map, List.length_range']; exact hi) (.inl ⟨rfl, rfl, rfl⟩) (Nat.le_refl _)
theorem fT_ok (q : Rat) : StrO (fT q) := StrO_sT (by
  intro c hc
  rcases List.mem_append.mp hc with hc | hc
  · exact nL_sm c hc
  · split at hc
    · cases hc
    · rcases List.mem_cons.mp hc with rfl | hc
      · decide
      · exact numL_sm c hc)
theorem wp_due {n : Nat} {q : Rat} {S : Sto} {R : D → Sto → Prop} {ρ : REnv} (e2 : ρ[2]? = some (some (fr q))) (hB : B40 q) (h : R (.str (fT q)) S) : wp (bi addM (bnd (consM (bi ixM (getv ρ 2) (ret (.int 0))) (ret [])) (f__law_figures n)) (ifM (tst (bi eqM (bi ixM (getv ρ 2) (ret (.int 1))) (ret (.int 1)))) (ret (.str "")) (bi addM (ret (.str "/")) (bnd (consM (bi ixM (getv ρ 2) (ret (.int 1))) (ret [])) (f__law_figures n))))) S R := by
  have hl : ∀ i : Int, i.natAbs < 10 ^ 40 → (nL i).length ≤ 41 := by
    intro i hi
    have := numL_len40 hi
    unfold nL
    rw [List.length_append]
    split
    · show 1 + _ ≤ _; omega
    · show 0 + _ ≤ _; omega
  have hd : ((q.den : Int)).natAbs < 10 ^ 40 := by rw [Int.natAbs_natCast]; exact hB.2
  have l1 := hl _ hB.1
  have l2 := hl _ hd
  have en : nL (q.den : Int) = numL q.den := by rw [nL_nn (by omega), Int.natAbs_natCast]
  (with_reducible refine wp_bi ?_; with_reducible refine wp_bnd ?_; with_reducible refine wp_consM ?_; with_reducible refine wp_bi ?_)
  refine wp_getv e2 ?_
  (with_reducible refine wp_ret ?_; with_reducible refine wp_fr0 ?_; with_reducible refine wp_ret ?_)
  refine wp_figures (Nat.lt_trans hB.1 (by decide)) ?_
  refine wp_ifM ?_
  (with_reducible refine wp_tst ?_; with_reducible refine wp_bi ?_; with_reducible refine wp_bi ?_)
  refine wp_getv e2 ?_
  (with_reducible refine wp_ret ?_; with_reducible refine wp_fr1 ?_; with_reducible refine wp_ret ?_; with_reducible refine wp_eqI ?_; with_reducible refine asQ_bl ?_)
  unfold fT at h
  refine if_ds (fun h1 => ?_) (fun h1 => ?_)
  · with_reducible refine wp_ret ?_
    rw [show ("" : Str) = sT [] from rfl]
    refine wp_addS (by rw [sT_len, sT_len]; exact Nat.le_trans l1 (by decide)) ?_
    rw [sT_app]
    rw [if_pos (by omega)] at h
    exact h
  · (with_reducible refine wp_bi ?_; with_reducible refine wp_ret ?_; with_reducible refine wp_bnd ?_; with_reducible refine wp_consM ?_; with_reducible refine wp_bi ?_)
    refine wp_getv e2 ?_
    (with_reducible refine wp_ret ?_; with_reducible refine wp_fr1 ?_; with_reducible refine wp_ret ?_)
    refine wp_figures (Nat.lt_trans hd (by decide)) ?_
    rw [show ("/" : Str) = sT [47] from rfl, en] at *
    refine wp_addS (by rw [sT_len, sT_len]; exact Nat.le_trans (Nat.add_le_add (Nat.le_refl 1) l2) (by decide)) ?_
    rw [sT_app]
    refine wp_addS (by rw [sT_len, sT_len, List.length_append]; exact Nat.le_trans (Nat.add_le_add l1 (Nat.add_le_add (Nat.le_refl 1) l2)) (by decide)) ?_
    rw [sT_app]
    rw [if_neg (by omega)] at h
    exact h
def great : Rat := ⟨1 - 10 ^ 40, 10 ^ 40 - 2, by decide, by decide +kernel⟩
theorem wp_right {n b c : Nat} {S : Sto} {Q : D → Sto → Prop} (hb : BoxAt S b c) (hc : c ≤ 1000) (hn : Bg n) (h : ∀ S', Q (.bl true) S') : wp (f__law_right n [.loc b]) S Q := by
  show wp (finR (m__law_right n [some (.loc b), none, none, none, none])) S Q
  unfold m__law_right
  (with_reducible refine wp_finR ?_; with_reducible refine wp_sq ?_; with_reducible refine wp_forS ?_; with_reducible refine wp_bnd ?_; with_reducible refine wp_consM ?_; with_reducible refine wp_ret ?_; with_reducible refine wp_ret ?_)
  refine wp_range1 (by decide) (by decide) ?_
  refine wp_forI (fun ds ρ S => ∃ o1 o2 o3 o4, ρ = [some (.loc b), o1, o2, o3, o4] ∧ ds.length ≤ 10 ∧ BoxAt S b (5000 - 100 * ds.length)) ?_ ?_ ⟨_, _, _, _, rfl, by rw [rangeD_len]; decide, hb.mono (by rw [rangeD_len]; simp; omega)⟩
  · rintro d ds ρ S ⟨o1, o2, o3, o4, rfl, hl, hbx⟩
    rw [List.length_cons] at hl hbx
    (with_reducible refine wp_gN ?_; with_reducible refine wp_sq ?_; with_reducible refine wp_asgN ?_; with_reducible refine wp_bnd ?_; with_reducible refine wp_consM ?_; with_reducible refine wp_getv (by with_unfolding_all rfl) ?_; with_reducible refine wp_consM ?_; with_reducible refine wp_ret ?_; with_reducible refine wp_ret ?_)
    refine wp_lfracB hbx (by omega) hn fun q S1 hq hB hb1 => ?_
    (with_reducible refine sqQ_nx ?_; with_reducible refine wp_sq ?_; with_reducible refine wp_ifS ?_; with_reducible refine wp_tst ?_; with_reducible refine wp_bi ?_; with_reducible refine wp_bnd ?_; with_reducible refine wp_consM ?_; with_reducible refine wp_getv (by with_unfolding_all rfl) ?_; with_reducible refine wp_consM ?_; with_reducible refine wp_ret ?_; with_reducible refine wp_ret ?_)
    refine wp_take hb1 (by omega) (by decide) (by decide) fun v2 c2 v20 v21 hb2 => ?_
    (with_reducible refine wp_ret ?_; with_reducible refine wp_eqI ?_; with_reducible refine asQ_bl ?_)
    refine if_wp (fun fl S' => ∃ q, fl = .nx [some (.loc b), some d, some (fr q), o3, o4] ∧ Sz 140 q ∧ B40 q ∧ BoxAt S' b (5000 - 100 * (ds.length + 1) + 20)) ?_ ?_
    · refine if_ds (fun h1 => ?_) (fun h1 => ?_)
      · (with_reducible refine wp_asgN ?_; with_reducible refine wp_bnd ?_; with_reducible refine wp_consM ?_; with_reducible refine wp_bi ?_; with_reducible refine wp_getv (by with_unfolding_all rfl) ?_; with_reducible refine wp_ret ?_; with_reducible refine wp_fr0 ?_; with_reducible refine wp_consM ?_; with_reducible refine wp_bi ?_; with_reducible refine wp_lstM ?_; with_reducible refine wp_consM ?_; with_reducible refine wp_ret ?_; with_reducible refine wp_consM ?_; with_reducible refine wp_bi ?_; with_reducible refine wp_bi ?_; with_reducible refine wp_ret ?_; with_reducible refine wp_ret ?_; (with_reducible refine wp_powE (by decide) ?_; intro r hr; (simp only [Int.reduceToNat, Int.reducePow] at hr); subst hr); with_reducible refine wp_ret ?_; with_reducible refine wp_sub ?_; with_reducible refine wp_consM ?_; with_reducible refine wp_bi ?_; with_reducible refine wp_ret ?_; with_reducible refine wp_ret ?_; (with_reducible refine wp_powE (by decide) ?_; intro r hr; (simp only [Int.reduceToNat, Int.reducePow] at hr); subst hr); with_reducible refine wp_ret ?_; with_reducible refine lim_and (by with_unfolding_all exact of_decide_eq_true (Eq.refl true)) ?_; with_reducible refine wp_bnd ?_; with_reducible refine wp_consM ?_; with_reducible refine wp_getv (by with_unfolding_all rfl) ?_; with_reducible refine wp_consM ?_; with_reducible refine wp_ret ?_; with_reducible refine wp_ret ?_)
        refine wp_take hb2 (by omega) (by decide) (by decide) fun v3 c3 v30 v31 hb3 => ?_
        obtain ⟨d', hd, m, rfl, m0, m1⟩ := at_all (P := fun d => ∃ m : Int, d = .int m ∧ 0 < m ∧ m < 10000000000000000000000000000000000000000) (xs := [.int 1, .int (10000000000000000000000000000000000000000 - 1), .int 1000000000000000000000000000000000000000]) (v := v3) (by
          intro d hd
          simp only [List.mem_cons, List.not_mem_nil, or_false] at hd
          rcases hd with rfl | rfl | rfl <;> exact ⟨_, rfl, by decide, by decide⟩) v30 (by show _ < (3 : Int); omega)
        refine wp_ixL hd ?_
        with_reducible refine wp_ret ?_
        have hm : m.natAbs < 2 ^ 140 := by omega
        refine wp_low (k := 140) (by omega) hm (by decide) hn ?_
        skip
        exact ⟨_, rfl, Sz.of (by omega) hq.1 hm, B40.of (by omega) hB.1 (by omega), hb3.mono (by omega)⟩
      · with_reducible refine wp_ret ?_
        exact ⟨_, rfl, hq, hB, hb2.mono (by omega)⟩
    rintro fl S3 ⟨q, rfl, hq, hB, hb3⟩
    with_reducible refine sqQ_nx ?_
    with_reducible refine wp_sq ?_
    with_reducible refine wp_asgN ?_
    refine wp_due (q := q) rfl hB ?_
    (with_reducible refine sqQ_nx ?_; with_reducible refine wp_ifS ?_; with_reducible refine wp_orM ?_; with_reducible refine wp_notM ?_; with_reducible refine wp_tst ?_; with_reducible refine wp_bnd ?_; with_reducible refine wp_consM ?_; with_reducible refine wp_bnd ?_; with_reducible refine wp_consM ?_; with_reducible refine wp_getv (by with_unfolding_all rfl) ?_; with_reducible refine wp_ret ?_)
    refine wp_frac_text hq (by decide) (by decide) ?_
    (with_reducible refine wp_consM ?_; with_reducible refine wp_getv (by with_unfolding_all rfl) ?_; with_reducible refine wp_ret ?_)
    refine wp_same 12 (fT_ok q) ?_
    (with_reducible refine asQ_bl ?_; with_reducible refine if_nt ?_; with_reducible refine wp_notM ?_; with_reducible refine wp_tst ?_; with_reducible refine wp_bnd ?_; with_reducible refine wp_consM ?_; with_reducible refine wp_bnd ?_; with_reducible refine wp_consM ?_; with_reducible refine wp_getv (by with_unfolding_all rfl) ?_; with_reducible refine wp_ret ?_)
    refine wp_frac_in hB.1 hB.2 hn ?_
    (with_reducible refine wp_consM ?_; with_reducible refine wp_getv (by with_unfolding_all rfl) ?_; with_reducible refine wp_ret ?_)
    refine wp_same 12 (Pl_fr 10 q) ?_
    (with_reducible refine asQ_bl ?_; with_reducible refine if_nt ?_; with_reducible refine wp_ret ?_)
    exact turnQ_nx ⟨_, _, _, _, rfl, by omega, hb3.mono (by omega)⟩
  · rintro ρ S ⟨o1, o2, o3, o4, rfl, hl, hbx⟩
    (with_reducible refine sqQ_nx ?_; with_reducible refine wp_sq ?_; with_reducible refine wp_asgN ?_; with_reducible refine wp_tupM ?_; with_reducible refine wp_consM ?_; with_reducible refine wp_bi ?_; with_reducible refine wp_ret ?_; with_reducible refine wp_bi ?_; with_reducible refine wp_ret ?_; with_reducible refine wp_ret ?_; (with_reducible refine wp_powE (by decide) ?_; intro r hr; (simp only [Int.reduceToNat, Int.reducePow] at hr); subst hr); with_reducible refine wp_sub ?_; with_reducible refine wp_consM ?_; with_reducible refine wp_bi ?_; with_reducible refine wp_bi ?_; with_reducible refine wp_ret ?_; with_reducible refine wp_ret ?_; (with_reducible refine wp_powE (by decide) ?_; intro r hr; (simp only [Int.reduceToNat, Int.reducePow] at hr); subst hr); with_reducible refine wp_ret ?_; with_reducible refine wp_sub ?_; with_reducible refine wp_ret ?_; with_reducible refine lim_and (by with_unfolding_all exact of_decide_eq_true (Eq.refl true)) ?_; with_reducible refine sqQ_nx ?_; with_reducible refine wp_rtM ?_; with_reducible refine wp_bnd ?_; with_reducible refine wp_consM ?_; with_reducible refine wp_lstM ?_; with_reducible refine wp_consM ?_; with_reducible refine wp_bnd ?_; with_reducible refine wp_consM ?_; with_reducible refine wp_bnd ?_; with_reducible refine wp_consM ?_; with_reducible refine wp_getv (by with_unfolding_all rfl) ?_; with_reducible refine wp_ret ?_)
    have eg : ∀ a b : Int, a = 1 - 10 ^ 40 → b = 10 ^ 40 - 2 → D.tup [.int a, .int b] = fr great := by rintro a b rfl rfl; rfl
    rw [eg _ _ (by decide) (by decide)]
    have hg : Sz 140 great := ⟨by decide, by decide⟩
    refine wp_frac_text hg (by decide) (by decide) ?_
    with_reducible refine wp_ret ?_
    refine wp_frac_in (by decide) (by decide) hn ?_
    (with_reducible refine wp_consM ?_; with_reducible refine wp_bnd ?_; with_reducible refine wp_consM ?_; with_reducible refine wp_tupM ?_; with_reducible refine wp_consM ?_; with_reducible refine wp_ret ?_; with_reducible refine wp_consM ?_; with_reducible refine wp_ret ?_; with_reducible refine wp_ret ?_; with_reducible refine lim_and (by with_unfolding_all exact of_decide_eq_true (Eq.refl true)) ?_; with_reducible refine wp_ret ?_)
    rw [fr_0]
    refine wp_frac_text Sz.zero (by decide) (by decide) ?_
    have e0 : fT 0 = sT [48] := by
      unfold fT
      rw [show (0 : Rat).den = 1 from rfl, if_pos rfl, List.append_nil, show (0 : Rat).num = 0 from rfl, nL_nn (by decide), show (0 : Int).natAbs = 0 from rfl, numL_zero]
    rw [e0]
    (with_reducible refine wp_ret ?_; with_reducible refine lim_and (by with_unfolding_all exact of_decide_eq_true (Eq.refl true)) ?_; with_reducible refine wp_consM ?_; with_reducible refine wp_lstM ?_; with_reducible refine wp_consM ?_; with_reducible refine wp_getv (by with_unfolding_all rfl) ?_; with_reducible refine wp_consM ?_; with_reducible refine wp_ret ?_; with_reducible refine wp_ret ?_; with_reducible refine lim_and (by with_unfolding_all exact of_decide_eq_true (Eq.refl true)) ?_; with_reducible refine wp_ret ?_)
    rw [show ("0" : Str) = sT [48] from rfl]
    refine wp_same 12 (Pl.lst (by decide |> fun (h : 2 ≤ lim) => h) (by
      simp only [List.forall_mem_cons, List.not_mem_nil, false_implies, implies_true, and_true]
      exact ⟨Pl_fr 9 _, StrO_sT (by intro c hc; rw [List.mem_singleton.mp hc]; decide)⟩)) ?_
    with_reducible refine finQ_rt ?_
    exact h _
theorem law_true : ∀ ns : List Int, ns.length ≤ 63 → ∃ n S, f_law n [.rol (ns.map D.int)] [] = .ok (.bl true) S := by
  intro ns hl
  refine ⟨2 ^ 8990, ?_⟩
  suffices hw : ∀ n, Bg n → wp (f_law n [.rol (ns.map D.int)]) [] (fun d _ => d = .bl true) by
    obtain ⟨a, S, e, rfl⟩ := wp_ex (hw _ (Nat.le_refl _))
    exact ⟨S, e⟩
  intro n hn
  show wp (finR (m_law n [some (.rol (ns.map D.int)), none, none])) [] _
  unfold m_law
  (with_reducible refine wp_finR ?_; with_reducible refine wp_rtM ?_; with_reducible refine wp_bnd ?_; with_reducible refine wp_consM ?_; with_reducible refine wp_lcM ?_; with_reducible refine wp_bnd ?_; with_reducible refine wp_consM ?_; with_reducible refine wp_bi ?_; with_reducible refine wp_ret ?_; with_reducible refine wp_bnd ?_; with_reducible refine wp_consM ?_; with_reducible refine wp_ret ?_; with_reducible refine wp_consM ?_; with_reducible refine wp_bnd ?_; with_reducible refine wp_consM ?_; with_reducible refine wp_getv (by with_unfolding_all rfl) ?_; with_reducible refine wp_ret ?_; with_reducible refine wp_lenR ?_; with_reducible refine wp_ret ?_; with_reducible refine wp_min ?_; with_reducible refine wp_addI ?_; with_reducible refine wp_ret ?_)
  rw [List.length_map]
  refine wp_range1 (by split <;> omega) (by split <;> omega) ?_
  refine ⟨by rw [rangeD_len]; show _ ≤ 1000000; split <;> omega, ?_⟩
  refine wp_compI (fun _ => True) (fun _ => .bl true) (fun d hd S _ => ?_) (fun d hd => hd) trivial (fun S' _ => ?_)
  · obtain ⟨k, hk, rfl⟩ := rangeD_mem hd
    have hk6 : k ≤ 1000 := by
      have : k < 8 := by split at hk <;> omega
      omega
    (with_reducible refine wp_gN ?_; with_reducible refine wp_bnd ?_; with_reducible refine wp_consM ?_; with_reducible refine wp_bnd ?_; with_reducible refine wp_consM ?_; with_reducible refine wp_getv (by with_unfolding_all rfl) ?_; with_reducible refine wp_consM ?_; with_reducible refine wp_getv (by with_unfolding_all rfl) ?_; with_reducible refine wp_ret ?_)
    rw [Int.zero_add]
    refine wp_box hl hk6 fun c hb => ?_
    with_reducible refine wp_ret ?_
    exact wp_right hb (by decide) hn fun S' => ⟨rfl, trivial⟩
  · with_reducible refine wp_ret ?_
    refine wp_all (bools_map (fun _ => true) _) ?_
    with_reducible refine finQ_rt ?_
    show D.bl _ = D.bl true
    simp
end R


open PySem PySem.W PyProof.Rows
set_option maxRecDepth 100000 in
set_option maxHeartbeats 0 in
theorem PySem.Challenge.cw_kettlerow_k04_fractions_as_texts_holds : PySem.Challenge.rw_kettlerow_k04_fractions_as_texts.Holds := by
  w_on; o_law; k_head; (case hw => w_witness2)
  k_fill
  refine R.walk_law (l := PySem.Challenge.rw_kettlerow_k04_fractions_as_texts) (k := 15) rfl rfl ⟨rfl, by decide, by decide⟩ (fun w h Y => PySem.W.kIn_of Y) ?F
  case F =>
    intro w mg fa h KX G hmg
    refine' R.all_mk R.law_true KX G hmg ?a0 ?l0 ?c0 ?k0 ?a1 ?l1 ?c1 ?k1 ?a2 ?l2 ?c2 ?k2 ?a3 ?l3 ?c3 ?k3 ?a4 ?l4 ?c4 ?k4 ?a5 ?l5 ?c5 ?k5 ?a6 ?l6 ?c6 ?k6 ?a7 ?l7 ?c7 ?k7 ?a8 ?l8 ?c8 ?k8 ?a9 ?l9 ?c9 ?k9 ?a10 ?l10 ?c10 ?k10 ?a11 ?l11 ?c11 ?k11 ?a12 ?l12 ?c12 ?k12 ?a13 ?l13 ?c13 ?k13 ?a14 ?l14 ?c14 ?k14 ?a15 ?l15 ?c15 ?k15 ?a16 ?l16 ?c16 ?k16 ?z_abs ?z_all ?z_bool ?z_int ?z_isinstance ?z_len ?z_list ?z_min ?z_range ?z_str ?z_tuple ?z_zip ?q_FIGURES ?q_MOST_FIGURES
    (case a0 => k_is)
    (case l0 => k_is)
    (case c0 => k_is)
    (case k0 => k_is)
    (case a1 => k_is)
    (case l1 => k_is)
    (case c1 => k_is)
    (case k1 => k_is)
    (case a2 => k_is)
    (case l2 => k_is)
    (case c2 => k_is)
    (case k2 => k_is)
    (case a3 => k_is)
    (case l3 => k_is)
    (case c3 => k_is)
    (case k3 => k_is)
    (case a4 => k_is)
    (case l4 => k_is)
    (case c4 => k_is)
    (case k4 => k_is)
    (case a5 => k_is)
    (case l5 => k_is)
    (case c5 => k_is)
    (case k5 => k_is)
    (case a6 => k_is)
    (case l6 => k_is)
    (case c6 => k_is)
    (case k6 => k_is)
    (case a7 => k_is)
    (case l7 => k_is)
    (case c7 => k_is)
    (case k7 => k_is)
    (case a8 => k_is)
    (case l8 => k_is)
    (case c8 => k_is)
    (case k8 => k_is)
    (case a9 => k_is)
    (case l9 => k_is)
    (case c9 => k_is)
    (case k9 => k_is)
    (case a10 => k_is)
    (case l10 => k_is)
    (case c10 => k_is)
    (case k10 => k_is)
    (case a11 => k_is)
    (case l11 => k_is)
    (case c11 => k_is)
    (case k11 => k_is)
    (case a12 => k_is)
    (case l12 => k_is)
    (case c12 => k_is)
    (case k12 => k_is)
    (case a13 => k_is)
    (case l13 => k_is)
    (case c13 => k_is)
    (case k13 => k_is)
    (case a14 => k_is)
    (case l14 => k_is)
    (case c14 => k_is)
    (case k14 => k_is)
    (case a15 => k_is)
    (case l15 => k_is)
    (case c15 => k_is)
    (case k15 => k_is)
    (case a16 => k_is)
    (case l16 => k_is)
    (case c16 => k_is)
    (case k16 => k_is)
    (case z_abs => k_is)
    (case z_all => k_is)
    (case z_bool => k_is)
    (case z_int => k_is)
    (case z_isinstance => k_is)
    (case z_len => k_is)
    (case z_list => k_is)
    (case z_min => k_is)
    (case z_range => k_is)
    (case z_str => k_is)
    (case z_tuple => k_is)
    (case z_zip => k_is)
    (case q_FIGURES => k_is)
    (case q_MOST_FIGURES => k_is)

